import PyProof.Rows.All
import Wide.All
import OpenK.AllK
import Wide.FinOn
import HandS.ForMost
import HandS.ForExc
import HandS.Wide
import HandS.Codes
import HandS.Conv
import HandS.IsInst
import HandS.Property
import HandS.ClsMeth
import HandS.Star
import HandS.Flow
import HandS.Style
import HandS.FStr
import HandS.MakeKw
import HandS.Defaults
import HandS.Lambda
import HandS.ExcOwn
import HandS.ExcInit
import HandS.NoneIn
import HandS.TupAny
import HandS.Walk
import HandS.RaiseMore
import PyProof.Rows.StrCountLaw
import PyProof.Rows.SortStr
import PyProof.Rows.StrMeet
import PyProof.ReprRoads
import PyProof.ReprLen
import HandS.TupMul
import HandS.ExcField
import HandS.ExcIs
import KE.KOpsOwn
import HandS.EndBits
import HandS.EndTab
import PyProof.TwoTypes
import PyProof.ListMulRoad
import PyProof.AutoIntOps
import HandS.More
import PyProof.StrLawsRepr
import KE.KRevSl
import PyProof.StrOps
import PyProof.SliceStr2
import HandS.OwnEq
import PyProof.ListStr
import KE.KSuper
import KE.KCallOwn
import HandS.ExcValue
import KE.GoesMore
import KE.GoesEnum
import PyProof.EnumMake
import PyProof.ListRange
import KE.KFmtOwn
import PySem.Challenge.RW_everystop_k14_rows_written_and_read
import KE.RegKSuper
set_option Elab.async false
set_option linter.all false
set_option maxRecDepth 100000
set_option maxHeartbeats 4000000
-- EvA
namespace Ev
open PySem PySem.Spec PyProof.Rows L2
/-- built-in types -/
inductive Bt where | none | bool | int | str | tuple | list | dict | set | float | bytes | range deriving DecidableEq
def Bt.nm : Bt → String
  | .none => "NoneType" | .bool => "bool" | .int => "int" | .str => "str" | .tuple => "tuple" | .list => "list" | .dict => "dict" | .set => "set" | .float => "float" | .bytes => "bytes" | .range => "range"
/-- python data: what never changes stands here whole; what may change stands in a store, by a number (loc) -/
inductive D where
  | non | bl (b : Bool) | int (i : Int) | str (x : Str) | pen | ref (a : Addr) | cls (c : Nat) | ty (n : Bt)
  | tup (ds : List D) | lst (ds : List D) | dic (kvs : List (Key × D)) | obj (a : Addr) (c : Nat) (fs : List (Str × D)) | exc (a : Addr) (c : Nat) (fs : List (Str × D)) | loc (n : Nat) | fn (f c : Addr) (q : Str) (vs : List V) (ds : List D)
/-- a cell of the store -/
inductive Cell where
  | dead | li (ds : List D) | di (kvs : List (Key × D)) | ins (c : Nat) (fs : List (Str × D))
abbrev Store := List Cell
/-- what stands still: the pen's cells, the tables of code objects, the classes -/
structure SK where
  cl : Addr
  T : List (Addr × Str)
  cls : List V
/-- a world: the pen, the addresses of the store's cells, the store -/
structure U where
  p : Addr
  k : SK
  μ : List Addr
  M : Store
  x : List Addr
/-- the addresses that may change -/
def U.L (u : U) (a : Addr) : Prop := a = u.p ∨ ∃ (i : Nat) (c : Cell), u.μ[i]? = some a ∧ u.M[i]? = some c ∧ c ≠ .dead
/-- .. and those where no data stands: lists that a comprehension makes -/
def U.F (u : U) (a : Addr) : Prop := u.L a ∨ a ∈ u.x
theorem U.pL (u : U) : u.L u.p := .inl rfl
theorem U.pF (u : U) : u.F u.p := .inl (.inl rfl)
/-- all but a table of code objects -/
abbrev NT (o : HO) : Prop := ∀ ps, o ≠ .tbl ps
/-- what may be written -/
abbrev Pl (o : HO) : Prop := NT o ∧ ∀ φ, o ≠ .ext φ
theorem Pl.lst {vs : List V} : Pl (.lst vs) := ⟨nofun, nofun⟩
theorem Pl.dK {vs : List (Key × V)} : Pl (.dK vs) := ⟨nofun, nofun⟩
theorem Pl.ins {C dx : Addr} {vs : List (Str × V)} : Pl (.ins C dx vs) := ⟨nofun, nofun⟩
/-- a caught exception's object -/
def ExC (C : V) (od : Option Addr) (a : Addr) : HO := .ext fun h => ∃ (oe : Obj) (vs : Array Value) (cv : Value), RelV C cv ∧ h.get? a = some oe ∧ Zc cv od oe ∧ oe.data = .fields vs
theorem ExC.nt {C : V} {od : Option Addr} {a : Addr} : NT (ExC C od a) := fun ps h => by unfold ExC at h; cases h
mutual
def Rep (u : U) (H : Hp) : D → V → Prop
  | .non, v => v = .non
  | .bl b, v => v = .bl b
  | .int i, v => v = .int i
  | .str x, v => v = .str x
  | .pen, v => v = .ref u.p
  | .ref a, v => v = .ref a
  | .cls c, v => u.k.cls[c]? = some v ∧ v ≠ .non
  | .ty n, v => v = .ty n.nm
  | .loc n, v => ∃ a, v = .ref a ∧ u.μ[n]? = some a
  | .tup ds, v => ∃ a vs, v = .ref a ∧ ¬ u.F a ∧ H a = some (.tup vs) ∧ RepL u H ds vs
  | .lst ds, v => ∃ a vs, v = .ref a ∧ ¬ u.F a ∧ H a = some (.lst vs) ∧ RepL u H ds vs
  | .dic kvs, v => ∃ a us, v = .ref a ∧ ¬ u.F a ∧ H a = some (.dK us) ∧ RepK u H kvs us
  | .obj a c fs, v => ∃ C dx us, v = .ref a ∧ ¬ u.F a ∧ u.k.cls[c]? = some (.ref C) ∧ H a = some (.ins C dx us) ∧ RepF u H fs us
  | .exc a c fs, v => ∃ C od us, v = .ref a ∧ ¬ u.F a ∧ u.k.cls[c]? = some C ∧ H a = some (ExC C od a) ∧ RepF u H fs us ∧ ((us = [] ∧ od = none) ∨ ∃ dd, od = some dd ∧ ¬ u.F dd ∧ H dd = some (.xd us))
  | .fn f c q vs ds, v => v = .ref f ∧ ¬ u.F c ∧ H c = some (LamX.CodeO c q) ∧ RepL u H ds vs
def RepL (u : U) (H : Hp) : List D → List V → Prop
  | [], vs => vs = []
  | d :: ds, vs => ∃ v r, vs = v :: r ∧ Rep u H d v ∧ RepL u H ds r
def RepK (u : U) (H : Hp) : List (Key × D) → List (Key × V) → Prop
  | [], vs => vs = []
  | (k, d) :: ds, vs => ∃ v r, vs = (k, v) :: r ∧ Rep u H d v ∧ RepK u H ds r
def RepF (u : U) (H : Hp) : List (Str × D) → List (Str × V) → Prop
  | [], vs => vs = []
  | (k, d) :: ds, vs => ∃ v r, vs = (k, v) :: r ∧ Rep u H d v ∧ RepF u H ds r
end
section
variable {u : U} {H : Hp} {v : V} {ds : List D}
theorem Rep.tupE (h : Rep u H (.tup ds) v) : ∃ a vs, v = .ref a ∧ ¬ u.F a ∧ H a = some (.tup vs) ∧ RepL u H ds vs := h
theorem Rep.lstE (h : Rep u H (.lst ds) v) : ∃ a vs, v = .ref a ∧ ¬ u.F a ∧ H a = some (.lst vs) ∧ RepL u H ds vs := h
theorem Rep.dicE {ds : List (Key × D)} (h : Rep u H (.dic ds) v) : ∃ a vs, v = .ref a ∧ ¬ u.F a ∧ H a = some (.dK vs) ∧ RepK u H ds vs := h
theorem Rep.objE {a : Addr} {c : Nat} {fs : List (Str × D)} (h : Rep u H (.obj a c fs) v) : ∃ C dx us, v = .ref a ∧ ¬ u.F a ∧ u.k.cls[c]? = some (.ref C) ∧ H a = some (.ins C dx us) ∧ RepF u H fs us := h
theorem Rep.excE {a : Addr} {c : Nat} {fs : List (Str × D)} (h : Rep u H (.exc a c fs) v) : ∃ C od us, v = .ref a ∧ ¬ u.F a ∧ u.k.cls[c]? = some C ∧ H a = some (ExC C od a) ∧ RepF u H fs us ∧ ((us = [] ∧ od = none) ∨ ∃ dd, od = some dd ∧ ¬ u.F dd ∧ H dd = some (.xd us)) := h
theorem Rep.fnE {f c : Addr} {q : Str} {vs : List V} (h : Rep u H (.fn f c q vs ds) v) : v = .ref f ∧ ¬ u.F c ∧ H c = some (LamX.CodeO c q) ∧ RepL u H ds vs := h
theorem Rep.locE {n : Nat} (h : Rep u H (.loc n) v) : ∃ a, v = .ref a ∧ u.μ[n]? = some a := h
end
/-- data goes on to be represented -/
structure Cy (u u' : U) (H H' : Hp) : Prop where
  p : u'.p = u.p
  k : u'.k = u.k
  mu : ∀ (i : Nat) (a : Addr), u.μ[i]? = some a → u'.μ[i]? = some a
  go : ∀ a o, ¬ u.F a → NT o → H a = some o → H' a = some o
  nF : ∀ a o, ¬ u.F a → H a = some o → ¬ u'.F a
mutual
theorem Rep.mono {u u' : U} {H H' : Hp} (c : Cy u u' H H') : ∀ (d : D) (v : V), Rep u H d v → Rep u' H' d v
  | .non, v, h => h
  | .bl b, v, h => h
  | .int i, v, h => h
  | .str x, v, h => h
  | .pen, v, h => by
    have h : v = .ref u.p := h
    show v = .ref u'.p
    rw [c.p]; exact h
  | .ref a, v, h => h
  | .cls a, v, h => by
    have h : u.k.cls[a]? = some v ∧ v ≠ .non := h
    show u'.k.cls[a]? = some v ∧ v ≠ .non
    rw [c.k]; exact h
  | .ty n, v, h => h
  | .loc n, v, h => by
    obtain ⟨a, e, g⟩ := h.locE
    exact ⟨a, e, c.mu n a g⟩
  | .tup ds, v, h => by
    obtain ⟨a, vs, e, f, g, r⟩ := h.tupE
    exact ⟨a, vs, e, c.nF a _ f g, c.go a _ f nofun g, RepL.mono c ds vs r⟩
  | .lst ds, v, h => by
    obtain ⟨a, vs, e, f, g, r⟩ := h.lstE
    exact ⟨a, vs, e, c.nF a _ f g, c.go a _ f nofun g, RepL.mono c ds vs r⟩
  | .dic kvs, v, h => by
    obtain ⟨a, vs, e, f, g, r⟩ := h.dicE
    exact ⟨a, vs, e, c.nF a _ f g, c.go a _ f nofun g, RepK.mono c kvs vs r⟩
  | .obj a C fs, v, h => by
    obtain ⟨C', dx, vs, e, f, hc, g, r⟩ := h.objE
    exact ⟨C', dx, vs, e, c.nF a _ f g, by rw [c.k]; exact hc, c.go a _ f nofun g, RepF.mono c fs vs r⟩
  | .exc a C fs, v, h => by
    obtain ⟨C', od, us, e, f, hc, g, r, z⟩ := h.excE
    exact ⟨C', od, us, e, c.nF a _ f g, by rw [c.k]; exact hc, c.go a _ f ExC.nt g, RepF.mono c fs us r, z.imp id fun ⟨dd, z1, z2, z3⟩ => ⟨dd, z1, c.nF dd _ z2 z3, c.go dd _ z2 nofun z3⟩⟩
  | .fn f c' q vs ds, v, h => by
    obtain ⟨e, h1, h2, h3⟩ := h.fnE
    exact ⟨e, c.nF c' _ h1 h2, c.go c' _ h1 LamX.codeO_ne h2, RepL.mono c ds vs h3⟩
theorem RepL.mono {u u' : U} {H H' : Hp} (c : Cy u u' H H') : ∀ (ds : List D) (vs : List V), RepL u H ds vs → RepL u' H' ds vs
  | [], vs, h => h
  | d :: ds, vs, h => by
    obtain ⟨v, r, e, a, b⟩ := (show ∃ v r, vs = v :: r ∧ Rep u H d v ∧ RepL u H ds r from h)
    exact ⟨v, r, e, Rep.mono c d v a, RepL.mono c ds r b⟩
theorem RepK.mono {u u' : U} {H H' : Hp} (c : Cy u u' H H') : ∀ (ds : List (Key × D)) (vs : List (Key × V)), RepK u H ds vs → RepK u' H' ds vs
  | [], vs, h => h
  | (q, d) :: ds, vs, h => by
    obtain ⟨v, r, e, a, b⟩ := (show ∃ v r, vs = (q, v) :: r ∧ Rep u H d v ∧ RepK u H ds r from h)
    exact ⟨v, r, e, Rep.mono c d v a, RepK.mono c ds r b⟩
theorem RepF.mono {u u' : U} {H H' : Hp} (c : Cy u u' H H') : ∀ (ds : List (Str × D)) (vs : List (Str × V)), RepF u H ds vs → RepF u' H' ds vs
  | [], vs, h => h
  | (q, d) :: ds, vs, h => by
    obtain ⟨v, r, e, a, b⟩ := (show ∃ v r, vs = (q, v) :: r ∧ Rep u H d v ∧ RepF u H ds r from h)
    exact ⟨v, r, e, Rep.mono c d v a, RepF.mono c ds r b⟩
end
/-! ### lists that are represented -/
theorem RepL.length {u : U} {H : Hp} : ∀ {ds : List D} {vs : List V}, RepL u H ds vs → vs.length = ds.length
  | [], vs, h => by rw [show vs = [] from h]; rfl
  | d :: ds, vs, h => by
    obtain ⟨v, r, e, _, b⟩ := (show ∃ v r, vs = v :: r ∧ Rep u H d v ∧ RepL u H ds r from h)
    rw [e, List.length_cons, List.length_cons, RepL.length b]
theorem RepK.length {u : U} {H : Hp} : ∀ {ds : List (Key × D)} {vs : List (Key × V)}, RepK u H ds vs → vs.length = ds.length
  | [], vs, h => by rw [show vs = [] from h]; rfl
  | (k, d) :: ds, vs, h => by
    obtain ⟨v, r, e, _, b⟩ := (show ∃ v r, vs = (k, v) :: r ∧ Rep u H d v ∧ RepK u H ds r from h)
    rw [e, List.length_cons, List.length_cons, RepK.length b]
theorem RepL.nil {u : U} {H : Hp} : RepL u H [] [] := rfl
theorem RepL.cons {u : U} {H : Hp} {d : D} {v : V} {ds : List D} {vs : List V} (a : Rep u H d v) (b : RepL u H ds vs) : RepL u H (d :: ds) (v :: vs) := ⟨v, vs, rfl, a, b⟩
theorem RepL.uncons {u : U} {H : Hp} {d : D} {ds : List D} {vs : List V} (h : RepL u H (d :: ds) vs) : ∃ v r, vs = v :: r ∧ Rep u H d v ∧ RepL u H ds r := h
theorem RepL.append {u : U} {H : Hp} : ∀ {ds es : List D} {vs ws : List V}, RepL u H ds vs → RepL u H es ws → RepL u H (ds ++ es) (vs ++ ws)
  | [], es, vs, ws, h, k => by rw [show vs = [] from h]; exact k
  | d :: ds, es, vs, ws, h, k => by
    obtain ⟨v, r, e, a, b⟩ := h.uncons
    rw [e]; exact RepL.cons a (RepL.append b k)
theorem RepL.get {u : U} {H : Hp} : ∀ {ds : List D} {vs : List V} {i : Nat} {d : D}, RepL u H ds vs → ds[i]? = some d → ∃ v, vs[i]? = some v ∧ Rep u H d v
  | [], _, _, _, _, h => by simp at h
  | d :: ds, vs, 0, d', h, g => by
    obtain ⟨v, r, e, a, b⟩ := h.uncons
    have g : d = d' := by simpa using g
    subst g; rw [e]; exact ⟨v, rfl, a⟩
  | d :: ds, vs, i + 1, d', h, g => by
    obtain ⟨v, r, e, a, b⟩ := h.uncons
    have g : ds[i]? = some d' := by simpa using g
    obtain ⟨w, h1, h2⟩ := RepL.get b g
    rw [e]; exact ⟨w, by simpa using h1, h2⟩
theorem RepL.getV {u : U} {H : Hp} {ds : List D} {vs : List V} {i : Nat} {v : V} (h : RepL u H ds vs) (g : vs[i]? = some v) : ∃ d, ds[i]? = some d ∧ Rep u H d v := by
  have hl := h.length
  have hi : i < vs.length := (List.getElem?_eq_some_iff.mp g).1
  have hd : ds[i]? = some (ds[i]'(by omega)) := List.getElem?_eq_getElem (by omega)
  obtain ⟨w, h1, h2⟩ := h.get hd
  rw [g] at h1; cases h1
  exact ⟨_, hd, h2⟩
theorem RepL.set {u : U} {H : Hp} {d : D} {v : V} (r : Rep u H d v) : ∀ {ds : List D} {vs : List V} (i : Nat), RepL u H ds vs → RepL u H (ds.set i d) (vs.set i v)
  | [], vs, i, h => by rw [show vs = [] from h]; exact RepL.nil
  | d' :: ds, vs, 0, h => by
    obtain ⟨w, r', e, a, b⟩ := h.uncons
    rw [e]; exact RepL.cons r b
  | d' :: ds, vs, i + 1, h => by
    obtain ⟨w, r', e, a, b⟩ := h.uncons
    rw [e]; exact RepL.cons a (RepL.set r i b)
theorem RepL.drop {u : U} {H : Hp} : ∀ {ds : List D} {vs : List V} (n : Nat), RepL u H ds vs → RepL u H (ds.drop n) (vs.drop n)
  | _, _, 0, h => by simpa using h
  | [], vs, n + 1, h => by rw [show vs = [] from h]; exact RepL.nil
  | d :: ds, vs, n + 1, h => by
    obtain ⟨v, r, e, a, b⟩ := h.uncons
    rw [e]; simpa using RepL.drop n b
theorem RepL.take {u : U} {H : Hp} : ∀ {ds : List D} {vs : List V} (n : Nat), RepL u H ds vs → RepL u H (ds.take n) (vs.take n)
  | _, _, 0, h => by simpa using RepL.nil
  | [], vs, n + 1, h => by rw [show vs = [] from h]; exact RepL.nil
  | d :: ds, vs, n + 1, h => by
    obtain ⟨v, r, e, a, b⟩ := h.uncons
    rw [e]; simpa using RepL.cons a (RepL.take n b)
theorem RepL.ints {u : U} {H : Hp} : ∀ {ns : List Int} {vs : List V}, RepL u H (ns.map D.int) vs → vs = ns.map V.int
  | [], vs, h => h
  | n :: ns, vs, h => by
    obtain ⟨v, r, e, a, b⟩ := (show RepL u H (D.int n :: ns.map D.int) vs from h).uncons
    rw [e, RepL.ints b, show v = V.int n from a]; rfl
theorem RepL.ofInts {u : U} {H : Hp} : ∀ {ns : List Int}, RepL u H (ns.map D.int) (ns.map V.int)
  | [] => RepL.nil
  | n :: ns => RepL.cons (rfl : Rep u H (.int n) (.int n)) RepL.ofInts
theorem RepL.strs {u : U} {H : Hp} : ∀ {ns : List Str} {vs : List V}, RepL u H (ns.map D.str) vs → vs = ns.map V.str
  | [], vs, h => h
  | n :: ns, vs, h => by
    obtain ⟨v, r, e, a, b⟩ := (show RepL u H (D.str n :: ns.map D.str) vs from h).uncons
    rw [e, RepL.strs b, show v = V.str n from a]; rfl
theorem RepL.ofStrs {u : U} {H : Hp} : ∀ {ns : List Str}, RepL u H (ns.map D.str) (ns.map V.str)
  | [] => RepL.nil
  | n :: ns => RepL.cons (rfl : Rep u H (.str n) (.str n)) RepL.ofStrs
theorem RepL.bools {u : U} {H : Hp} : ∀ {ns : List Bool} {vs : List V}, RepL u H (ns.map D.bl) vs → vs = ns.map V.bl
  | [], vs, h => h
  | n :: ns, vs, h => by
    obtain ⟨v, r, e, a, b⟩ := (show RepL u H (D.bl n :: ns.map D.bl) vs from h).uncons
    rw [e, RepL.bools b, show v = V.bl n from a]; rfl
theorem RepL.one {u : U} {H : Hp} {d : D} {xs : List V} (h : RepL u H [d] xs) : ∃ x, xs = [x] ∧ Rep u H d x := by
  obtain ⟨v, r, e, a, b⟩ := h.uncons
  rw [show r = [] from b] at e
  exact ⟨v, e, a⟩
theorem RepL.two {u : U} {H : Hp} {d d' : D} {xs : List V} (h : RepL u H [d, d'] xs) : ∃ x y, xs = [x, y] ∧ Rep u H d x ∧ Rep u H d' y := by
  obtain ⟨v, r, e, a, b⟩ := h.uncons
  obtain ⟨w, eb, rb⟩ := RepL.one b
  exact ⟨v, w, by rw [e, eb], a, rb⟩
theorem RepF.lookup {u : U} {H : Hp} {f : Str} : ∀ {fs : List (Str × D)} {us : List (Str × V)}, RepF u H fs us → (∀ d, fs.lookup f = some d → ∃ v, us.lookup f = some v ∧ Rep u H d v) ∧ (fs.lookup f = none → us.lookup f = none)
  | [], us, h => by
    rw [show us = [] from h]
    exact ⟨fun d z => by simp at z, fun _ => by simp⟩
  | (g, d) :: fs, us, h => by
    obtain ⟨v, r, e, a, b⟩ := (show ∃ v r, us = (g, v) :: r ∧ Rep u H d v ∧ RepF u H fs r from h)
    have ih := RepF.lookup (f := f) b
    rw [e, List.lookup_cons, List.lookup_cons]
    by_cases hb : f == g
    · rw [hb]; exact ⟨fun d' z => by cases z; exact ⟨v, rfl, a⟩, fun z => by cases z⟩
    · have hb : (f == g) = false := by simpa using hb
      rw [hb]; exact ih
end Ev
-- EvB
namespace Ev
open PySem PySem.Spec PyProof.Rows L2
/-- the classes by their numbers; the tables of code objects, with the names that they hold -/
structure CS where
  cls : List V
  T : List (Addr × Str)
/-- draws in all -/
def lim : Nat := 2 ^ 4000
/-- the size of the greatest ints, in bits -/
def BB : Nat := 1048580
/-- the pen: the cells, the number of the next one, the rest of a great one -/
def Pen (u : U) (n : Nat) (H : Hp) : Prop := ∃ (ns : List Int) (t r : Int), H u.p = some (.lst [.ref u.k.cl, .int t, .int r]) ∧ H u.k.cl = some (.lst (ns.map V.int)) ∧ ns.length ≤ 63 ∧ 0 ≤ t ∧ t ≤ n ∧ 0 ≤ r ∧ r.natAbs < 2 ^ BB ∧ (∀ i ∈ ns, i.natAbs < 2 ^ (BB - 3)) ∧ LamX.Tabs u.k.T H
theorem Pen.up {u : U} {n m : Nat} {H : Hp} (h : Pen u n H) (hm : n ≤ m) : Pen u m H := by
  obtain ⟨ns, t, r, a1, a4, a5, a6, a7, a8⟩ := h
  exact ⟨ns, t, r, a1, a4, a5, a6, by omega, a8⟩
theorem Pen.tabs {u : U} {n : Nat} {H : Hp} (h : Pen u n H) : LamX.Tabs u.k.T H := by
  obtain ⟨ns, t, r, a1, a4, a5, a6, a7, a8, a9, a10, a11⟩ := h
  exact a11
theorem Pen.there {u : U} {n : Nat} {H : Hp} (h : Pen u n H) : ∃ vs, H u.p = some (.lst vs) := by
  obtain ⟨ns, t, r, a1, _⟩ := h
  exact ⟨_, a1⟩
/-- the same for a world with the same pen -/
theorem Pen.as {u u' : U} {n : Nat} {H : Hp} (h : Pen u n H) (hp : u'.p = u.p) (hk : u'.k = u.k) : Pen u' n H := by
  unfold Pen at h ⊢
  rw [hp, hk]; exact h
theorem Pen.keep {u : U} {n : Nat} {H H' : Hp} (h : Pen u n H) (k : ∀ a o, H a = some o → H' a = some o) : Pen u n H' := by
  obtain ⟨ns, t, r, a1, a4, a5, a6, a7, a8, a9, a10, a11⟩ := h
  exact ⟨ns, t, r, k _ _ a1, k _ _ a4, a5, a6, a7, a8, a9, a10, a11.ext k⟩
theorem tabs_new {T : List (Addr × Str)} {a : Addr} {H : Hp} {o : HO} (t : LamX.Tabs T H) (h : H a = none) : LamX.Tabs T (upd H a o) := t.ext fun b q e => by rw [upd_ne (ne_of_none e h)]; exact e
/-- a write beside tables and code objects -/
theorem tabs_upd {T : List (Addr × Str)} {a : Addr} {H : Hp} {o q : HO} (t : LamX.Tabs T H) (h : H a = some q) (hq : Pl q) : LamX.Tabs T (upd H a o) := fun p hp => by
  obtain ⟨ps, e1, e2, e3⟩ := t p hp
  refine ⟨ps, by rw [upd_ne (fun z => hq.1 ps (Option.some.inj (h.symm.trans (by rw [← z]; exact e1))))]; exact e1, e2, fun pos cv hc => ?_⟩
  obtain ⟨c, a1, a2⟩ := e3 pos cv hc
  exact ⟨c, a1, by rw [upd_ne (fun z => hq.2 _ (Option.some.inj (h.symm.trans (by rw [← z]; exact a2))))]; exact a2⟩
/-- a cell of the store at its address -/
def CellOk (u : U) (H : Hp) (a : Addr) : Cell → Prop
  | .dead => ∃ o, H a = some o
  | .li ds => ∃ vs, H a = some (.lst vs) ∧ RepL u H ds vs
  | .di kvs => ∃ us, H a = some (.dK us) ∧ RepK u H kvs us
  | .ins c fs => ∃ C dx us, u.k.cls[c]? = some (.ref C) ∧ H a = some (.ins C dx us) ∧ RepF u H fs us
/-- the world is alive -/
structure Wd (cs : CS) (u : U) (n : Nat) (H : Hp) : Prop where
  ks : u.k.cls = cs.cls ∧ u.k.T = cs.T
  pen : Pen u n H
  cF : ¬ u.F u.k.cl
  len : u.μ.length = u.M.length
  inj : ∀ (i j : Nat) (a : Addr), u.μ[i]? = some a → u.μ[j]? = some a → i = j
  np : ∀ (i : Nat), u.μ[i]? ≠ some u.p
  xl : ∀ a ∈ u.x, ∃ vs, H a = some (.lst vs)
  xd : ∀ a ∈ u.x, a ≠ u.p ∧ ∀ (i : Nat), u.μ[i]? ≠ some a
  cell : ∀ (i : Nat) (a : Addr) (c : Cell), u.μ[i]? = some a → u.M[i]? = some c → CellOk u H a c
/-- a world that comes behind another one -/
structure Nx (u : U) (H : Hp) (u' : U) (H' : Hp) : Prop where
  p : u'.p = u.p
  k : u'.k = u.k
  x1 : ∀ a ∈ u.x, a ∈ u'.x
  x2 : ∀ a ∈ u'.x, a ∈ u.x ∨ H a = none
  mu : ∀ (i : Nat) (a : Addr), u.μ[i]? = some a → u'.μ[i]? = some a
  dd : ∀ (i : Nat), u.M[i]? = some .dead → u'.M[i]? = some .dead
  nw : ∀ (i : Nat) (a : Addr), u'.μ[i]? = some a → u.μ.length ≤ i → H a = none
  go : ∀ a o, ¬ u.L a → NT o → H a = some o → H' a = some o
  th : ∀ a o, H a = some o → ∃ o', H' a = some o'
section
variable {cs : CS} {u u' u2 : U} {n m : Nat} {H H' H2 : Hp} {a : Addr} {o : HO} {d : D} {v : V}
theorem CellOk.there {c : Cell} (h : CellOk u H a c) : ∃ o, H a = some o := by
  cases c with
  | dead => exact h
  | li ds => obtain ⟨_, e, _⟩ := h; exact ⟨_, e⟩
  | di ds => obtain ⟨_, e, _⟩ := h; exact ⟨_, e⟩
  | ins c fs => obtain ⟨_, _, _, _, e, _⟩ := h; exact ⟨_, e⟩
theorem Wd.dom (A : Wd cs u n H) : ∀ a, u.F a → ∃ o, H a = some o ∧ Pl o := fun a f => by
  rcases f with (e | ⟨i, c, h1, h2, h3⟩) | hx
  · obtain ⟨vs, h⟩ := A.pen.there
    exact ⟨_, by rw [e]; exact h, Pl.lst⟩
  · have h := A.cell i a c h1 h2
    cases c with
    | dead => exact absurd rfl h3
    | li ds => obtain ⟨_, e, _⟩ := h; exact ⟨_, e, Pl.lst⟩
    | di ds => obtain ⟨_, e, _⟩ := h; exact ⟨_, e, Pl.dK⟩
    | ins c fs => obtain ⟨_, _, _, _, e, _⟩ := h; exact ⟨_, e, Pl.ins⟩
  · obtain ⟨vs, h⟩ := A.xl a hx
    exact ⟨_, h, Pl.lst⟩
theorem Wd.up (A : Wd cs u n H) (hm : n ≤ m) : Wd cs u m H := ⟨A.ks, A.pen.up hm, A.cF, A.len, A.inj, A.np, A.xl, A.xd, A.cell⟩
theorem Wd.notF (A : Wd cs u n H) (h : H a = none) : ¬ u.F a := fun f => by
  obtain ⟨o, e, _⟩ := A.dom a f
  rw [h] at e; cases e
/-- a number of the store has an address, and the other way about -/
theorem Wd.at_ (A : Wd cs u n H) {i : Nat} {c : Cell} (h : u.M[i]? = some c) : ∃ a, u.μ[i]? = some a := by
  have hi : i < u.M.length := (List.getElem?_eq_some_iff.mp h).1
  rw [← A.len] at hi
  exact ⟨_, List.getElem?_eq_getElem hi⟩
theorem Wd.of_mu (A : Wd cs u n H) {i : Nat} (h : u.μ[i]? = some a) : ∃ c, u.M[i]? = some c := by
  have hi : i < u.μ.length := (List.getElem?_eq_some_iff.mp h).1
  rw [A.len] at hi
  exact ⟨_, List.getElem?_eq_getElem hi⟩
theorem Nx.notL (x : Nx u H u' H') (A : Wd cs u n H) : ∀ a o, ¬ u.L a → H a = some o → ¬ u'.L a := fun a o f e z => by
  rcases z with z | ⟨i, c, h1, h2, h3⟩
  · exact f (.inl (by rw [z, x.p]))
  · by_cases hi : i < u.μ.length
    · have hb : u.μ[i]? = some u.μ[i] := List.getElem?_eq_getElem hi
      have h1' := x.mu i _ hb
      rw [h1] at h1'; cases h1'
      obtain ⟨c0, hc0⟩ := A.of_mu hb
      by_cases hd : c0 = .dead
      · subst hd
        have := x.dd i hc0
        rw [h2] at this; cases this
        exact h3 rfl
      · exact f (.inr ⟨i, c0, hb, hc0, hd⟩)
    · have := x.nw i a h1 (Nat.le_of_not_lt hi)
      rw [e] at this; cases this
theorem Nx.notF (x : Nx u H u' H') (A : Wd cs u n H) : ∀ a o, ¬ u.F a → H a = some o → ¬ u'.F a := fun a o f e z => by
  rcases z with z | z
  · exact x.notL A a o (fun h => f (.inl h)) e z
  · rcases x.x2 a z with z | z
    · exact f (.inr z)
    · rw [e] at z; cases z
theorem Nx.cy (x : Nx u H u' H') (A : Wd cs u n H) : Cy u u' H H' := ⟨x.p, x.k, x.mu, fun a o f => x.go a o (fun h => f (.inl h)), x.notF A⟩
theorem Nx.refl : Nx u H u H := ⟨rfl, rfl, fun _ h => h, fun _ h => .inl h, fun _ _ h => h, fun _ h => h, (fun i a h hi => by (rw [List.getElem?_eq_none hi] at h; cases h)), fun _ _ _ _ h => h, fun _ o h => ⟨o, h⟩⟩
theorem Nx.trans (x : Nx u H u' H') (A : Wd cs u n H) (y : Nx u' H' u2 H2) : Nx u H u2 H2 where
  p := y.p.trans x.p
  k := y.k.trans x.k
  x1 := fun a h => y.x1 a (x.x1 a h)
  x2 := fun a h => by
    rcases y.x2 a h with h | h
    · exact x.x2 a h
    · refine .inr ?_
      cases e : H a with
      | none => rfl
      | some o =>
        obtain ⟨o', e'⟩ := x.th a o e
        rw [h] at e'; cases e'
  mu := fun i a h => y.mu i a (x.mu i a h)
  dd := fun i h => y.dd i (x.dd i h)
  nw := fun i a h hi => by
    by_cases hj : i < u'.μ.length
    · have hb : u'.μ[i]? = some u'.μ[i] := List.getElem?_eq_getElem hj
      have h1 := y.mu i _ hb
      rw [h] at h1; cases h1
      exact x.nw i _ hb hi
    · have h1 := y.nw i a h (Nat.le_of_not_lt hj)
      cases e : H a with
      | none => rfl
      | some o =>
        obtain ⟨o', e'⟩ := x.th a o e
        rw [h1] at e'; cases e'
  go := fun a o f t e => y.go a o (x.notL A a o f e) t (x.go a o f t e)
  th := fun a o e => by
    obtain ⟨o1, h1⟩ := x.th a o e
    exact y.th a o1 h1
theorem Rep.go (r : Rep u H d v) (A : Wd cs u n H) (e : Nx u H u' H') : Rep u' H' d v := Rep.mono (e.cy A) d v r
theorem RepL.go {d : List D} {v : List V} (r : RepL u H d v) (A : Wd cs u n H) (e : Nx u H u' H') : RepL u' H' d v := RepL.mono (e.cy A) d v r
theorem RepF.go {d : List (Str × D)} {v : List (Str × V)} (r : RepF u H d v) (A : Wd cs u n H) (e : Nx u H u' H') : RepF u' H' d v := RepF.mono (e.cy A) d v r
theorem RepK.go {d : List (Key × D)} {v : List (Key × V)} (r : RepK u H d v) (A : Wd cs u n H) (e : Nx u H u' H') : RepK u' H' d v := RepK.mono (e.cy A) d v r
/-- all that stood stands -/
abbrev Keep (H H' : Hp) : Prop := ∀ a o, H a = some o → H' a = some o
theorem Keep.new (h : H a = none) : Keep H (upd H a o) := fun b q e => by rw [upd_ne (ne_of_none e h)]; exact e
theorem Keep.nx (k : Keep H H') : Nx u H u H' := ⟨rfl, rfl, fun _ h => h, fun _ h => .inl h, fun _ _ h => h, fun _ h => h, (fun i a h hi => by (rw [List.getElem?_eq_none hi] at h; cases h)), fun a o _ _ h => k a o h, fun a o h => ⟨o, k a o h⟩⟩
theorem CellOk.mono {c : Cell} (h : CellOk u H a c) (k : Cy u u' H H') (ha : ∀ o, Pl o → H a = some o → H' a = some o) (hd : ∀ o, H a = some o → ∃ o', H' a = some o') : CellOk u' H' a c := by
  cases c with
  | dead => obtain ⟨o, e⟩ := h; exact hd o e
  | li ds => obtain ⟨vs, e, r⟩ := h; exact ⟨vs, ha _ Pl.lst e, RepL.mono k _ _ r⟩
  | di ds => obtain ⟨vs, e, r⟩ := h; exact ⟨vs, ha _ Pl.dK e, RepK.mono k _ _ r⟩
  | ins c fs => obtain ⟨C, dx, us, hc, e, r⟩ := h; exact ⟨C, dx, us, by rw [k.k]; exact hc, ha _ Pl.ins e, RepF.mono k _ _ r⟩
/-- the store as it is, the heap changed beside it -/
theorem Wd.same (A : Wd cs u n H) (x : Nx u H u H') (p : Pen u m H') (hc : ∀ (i : Nat) (a : Addr) (o : HO), u.μ[i]? = some a → Pl o → H a = some o → H' a = some o) : Wd cs u m H' :=
  ⟨A.ks, p, A.cF, A.len, A.inj, A.np, fun a h => (by obtain ⟨vs, e⟩ := A.xl a h; exact ⟨vs, x.go a _ (fun z => z.elim (A.xd a h).1 fun ⟨i, c, z, _⟩ => (A.xd a h).2 i z) nofun e⟩), A.xd, fun i a c h1 h2 => (A.cell i a c h1 h2).mono (x.cy A) (fun o => hc i a o h1) (fun o => x.th a o)⟩
theorem Keep.wd (k : Keep H H') (A : Wd cs u n H) : Wd cs u n H' := A.same k.nx (A.pen.keep k) fun _ a o _ _ h => k a o h
end
/-- the slots -/
abbrev Gm := List (Option D)
structure At (cs : CS) (u : U) (n : Nat) (H : Hp) (σ : L2.St) (Γ : Gm) : Prop extends Wd cs u n H where
  lenS : σ.length = Γ.length
  sl : ∀ (i : Nat) (d : D), Γ[i]? = some (some d) → ∃ v, σ[i]? = some (some v) ∧ Rep u H d v
theorem At.step {cs : CS} {u u' : U} {n m : Nat} {H H' : Hp} {σ : L2.St} {Γ : Gm} (h : At cs u n H σ Γ) (e : Nx u H u' H') (B : Wd cs u' m H') : At cs u' m H' σ Γ :=
  ⟨B, h.lenS, fun i d g => by
    obtain ⟨v, h1, h2⟩ := h.sl i d g
    exact ⟨v, h1, h2.go h.toWd e⟩⟩
theorem At.up {cs : CS} {u : U} {n m : Nat} {H : Hp} {σ : L2.St} {Γ : Gm} (h : At cs u n H σ Γ) (hm : n ≤ m) : At cs u m H σ Γ := ⟨h.toWd.up hm, h.lenS, h.sl⟩
theorem At.set {cs : CS} {u : U} {n : Nat} {H : Hp} {σ : L2.St} {Γ : Gm} {d : D} {v : V} {j : Nat} (h : At cs u n H σ Γ) (r : Rep u H d v) : At cs u n H (σ.set j (some v)) (Γ.set j (some d)) := by
  refine ⟨h.toWd, by simp [h.lenS], fun i d' g => ?_⟩
  by_cases e : i = j
  · subst e
    by_cases hl : i < Γ.length
    · rw [List.getElem?_set_self hl] at g; cases g
      exact ⟨v, by rw [List.getElem?_set_self (by rw [h.lenS]; exact hl)], r⟩
    · rw [List.getElem?_eq_none (by simpa using hl)] at g; cases g
  · rw [List.getElem?_set_ne (Ne.symm e)] at g ⊢
    exact h.sl i d' g
/-! ### what is wanted -/
/-- of data and the store behind an evaluation; of an exception: its class, its fields, the store -/
abbrev DP := D → Store → Prop
abbrev XP := Nat → List (Str × D) → Store → Prop
def RepX (u : U) (H : Hp) (cls : Value) (od : Option Addr) (c : Nat) (fs : List (Str × D)) : Prop := ∃ C us, u.k.cls[c]? = some C ∧ RelV C cls ∧ RepF u H fs us ∧ ((us = [] ∧ od = none) ∨ ∃ dd, od = some dd ∧ ¬ u.F dd ∧ H dd = some (.xd us))
def KN (cs : CS) (u : U) (n : Nat) (H : Hp) (post : DP) (Q : VK) : Prop := ∀ v d u' H', Nx u H u' H' → Wd cs u' n H' → Rep u' H' d v → post d u'.M → Q v H'
def KX (cs : CS) (u : U) (n : Nat) (H : Hp) (σ : L2.St) (xp : XP) (W : WX) : Prop := ∀ cls od c fs u' H', Nx u H u' H' → Wd cs u' n H' → RepX u' H' cls od c fs → xp c fs u'.M → W cls od σ H'
def KB (cs : CS) (u : U) (n : Nat) (H : Hp) (post : Bool → Store → Prop) (Q : Bool → Hp → Prop) : Prop := ∀ b u' H', Nx u H u' H' → Wd cs u' n H' → post b u'.M → Q b H'
def KL (cs : CS) (u : U) (n : Nat) (H : Hp) (post : List D → Store → Prop) (Q : List V → Hp → Prop) : Prop := ∀ vs ds u' H', Nx u H u' H' → Wd cs u' n H' → RepL u' H' ds vs → post ds u'.M → Q vs H'
section
variable {cs : CS} {u u' : U} {n m : Nat} {H H' : Hp} {σ : L2.St} {post : DP} {xp : XP} {W : WX} {Q : VK} {d : D} {v : V}
theorem KX.go (k : KX cs u n H σ xp W) (A : Wd cs u m H) (e : Nx u H u' H') {l : Nat} (hl : l ≤ n) : KX cs u' l H' σ xp W := fun cls od c fs u2 H2 e2 B r q => k cls od c fs u2 H2 (e.trans A e2) (B.up hl) r q
theorem KX.le (k : KX cs u n H σ xp W) {l : Nat} (hl : l ≤ n) : KX cs u l H σ xp W := fun cls od c fs u2 H2 e2 B r q => k cls od c fs u2 H2 e2 (B.up hl) r q
theorem KN.go (k : KN cs u n H post Q) (A : Wd cs u m H) (e : Nx u H u' H') {l : Nat} (hl : l ≤ n) : KN cs u' l H' post Q := fun v d u2 H2 e2 B r q => k v d u2 H2 (e.trans A e2) (B.up hl) r q
theorem KN.le (k : KN cs u n H post Q) {l : Nat} (hl : l ≤ n) : KN cs u l H post Q := fun v d u2 H2 e2 B r q => k v d u2 H2 e2 (B.up hl) r q
theorem KB.go {post : Bool → Store → Prop} {Q : Bool → Hp → Prop} (k : KB cs u n H post Q) (A : Wd cs u m H) (e : Nx u H u' H') {l : Nat} (hl : l ≤ n) : KB cs u' l H' post Q := fun b u2 H2 e2 B q => k b u2 H2 (e.trans A e2) (B.up hl) q
theorem KB.le {post : Bool → Store → Prop} {Q : Bool → Hp → Prop} (k : KB cs u n H post Q) {l : Nat} (hl : l ≤ n) : KB cs u l H post Q := fun b u2 H2 e2 B q => k b u2 H2 e2 (B.up hl) q
theorem KL.go {post : List D → Store → Prop} {Q : List V → Hp → Prop} (k : KL cs u n H post Q) (A : Wd cs u m H) (e : Nx u H u' H') {l : Nat} (hl : l ≤ n) : KL cs u' l H' post Q := fun v d u2 H2 e2 B r q => k v d u2 H2 (e.trans A e2) (B.up hl) r q
theorem KL.le {post : List D → Store → Prop} {Q : List V → Hp → Prop} (k : KL cs u n H post Q) {l : Nat} (hl : l ≤ n) : KL cs u l H post Q := fun v d u2 H2 e2 B r q => k v d u2 H2 e2 (B.up hl) r q
/-- a value that stands already -/
theorem KN.here (k : KN cs u n H post Q) (A : Wd cs u n H) (r : Rep u H d v) (q : post d u.M) : Q v H := k v d u H Nx.refl A r q
theorem KB.here {post : Bool → Store → Prop} {Q : Bool → Hp → Prop} {b : Bool} (k : KB cs u n H post Q) (A : Wd cs u n H) (q : post b u.M) : Q b H := k b u H Nx.refl A q
/-- beside new objects -/
theorem KN.keep (k : KN cs u n H post Q) (A : Wd cs u n H) (e : Keep H H') (r : Rep u H' d v) (q : post d u.M) : Q v H' := k v d u H' e.nx (e.wd A) r q
theorem KN.tup (k : KN cs u n H post Q) (A : Wd cs u n H) {ds : List D} {vs : List V} (r : RepL u H ds vs) (q : post (.tup ds) u.M) {p : Addr} (hp : H p = none) : Q (.ref p) (upd H p (.tup vs)) :=
  k.keep A (Keep.new hp) (d := .tup ds) ⟨p, vs, rfl, A.notF hp, upd_same, r.go A (Keep.new hp).nx⟩ q
theorem KN.lst (k : KN cs u n H post Q) (A : Wd cs u n H) {ds : List D} {vs : List V} (r : RepL u H ds vs) (q : post (.lst ds) u.M) {p : Addr} (hp : H p = none) : Q (.ref p) (upd H p (.lst vs)) :=
  k.keep A (Keep.new hp) (d := .lst ds) ⟨p, vs, rfl, A.notF hp, upd_same, r.go A (Keep.new hp).nx⟩ q
theorem KN.dic (k : KN cs u n H post Q) (A : Wd cs u n H) {ds : List (Key × D)} {vs : List (Key × V)} (r : RepK u H ds vs) (q : post (.dic ds) u.M) {p : Addr} (hp : H p = none) : Q (.ref p) (upd H p (.dK vs)) :=
  k.keep A (Keep.new hp) (d := .dic ds) ⟨p, vs, rfl, A.notF hp, upd_same, r.go A (Keep.new hp).nx⟩ q
end
/-! ### the readings that hold of whatever is shown -/
structure TW (X : Cx) (e : Expr) (σ : L2.St) (H : Hp) (Q : VK) : Prop where
  run : ∀ (pins : List (Addr × Obj)) (s : Shared), Inv X pins σ H s → wpAny (model X.prog X.w) X.A (eval e X.env) (EP X pins σ Q) X.xe s
instance {X : Cx} {e : Expr} {σ : L2.St} {H : Hp} {Q : VK} : CoeFun (TW X e σ H Q) fun _ => ∀ (pins : List (Addr × Obj)) (s : Shared), Inv X pins σ H s → wpAny (model X.prog X.w) X.A (eval e X.env) (EP X pins σ Q) X.xe s := ⟨TW.run⟩
theorem tw_pe (X : Cx) (e : Expr) : PE X e (TW X e) := ⟨fun pins s σ H Q I h => h pins s I⟩
theorem tw_of {X : Cx} {e : Expr} {t : TE} {σ : L2.St} {H : Hp} {Q : VK} (h : PE X e t) (q : t σ H Q) : TW X e σ H Q := TW.mk fun pins s I => h.run pins s σ H Q I q
/-- a two-place operation by values, a one-place one, a call, a truth -/
structure TO (X : Cx) (σ : L2.St) (f : Value → Value → Sem Value) (x y : V) (H : Hp) (Q : VK) : Prop where
  run : ∀ (pins : List (Addr × Obj)) (s : Shared) (v u : Value), Inv X pins σ H s → RelV x v → RelV y u → wpAny (model X.prog X.w) X.A (f v u) (EP X pins σ Q) X.xe s
instance {X : Cx} {σ : L2.St} {f : Value → Value → Sem Value} {x y : V} {H : Hp} {Q : VK} : CoeFun (TO X σ f x y H Q) fun _ => ∀ (pins : List (Addr × Obj)) (s : Shared) (v u : Value), Inv X pins σ H s → RelV x v → RelV y u → wpAny (model X.prog X.w) X.A (f v u) (EP X pins σ Q) X.xe s := ⟨TO.run⟩
structure TU (X : Cx) (σ : L2.St) (f : Value → Sem Value) (x : V) (H : Hp) (Q : VK) : Prop where
  run : ∀ (pins : List (Addr × Obj)) (s : Shared) (v : Value), Inv X pins σ H s → RelV x v → wpAny (model X.prog X.w) X.A (f v) (EP X pins σ Q) X.xe s
instance {X : Cx} {σ : L2.St} {f : Value → Sem Value} {x : V} {H : Hp} {Q : VK} : CoeFun (TU X σ f x H Q) fun _ => ∀ (pins : List (Addr × Obj)) (s : Shared) (v : Value), Inv X pins σ H s → RelV x v → wpAny (model X.prog X.w) X.A (f v) (EP X pins σ Q) X.xe s := ⟨TU.run⟩
structure TC (X : Cx) (σ : L2.St) (f : Value) (xs : List V) (H : Hp) (Q : VK) : Prop where
  run : ∀ (pins : List (Addr × Obj)) (s : Shared) (us : List Value), Inv X pins σ H s → Vals xs us → wpAny (model X.prog X.w) X.A (call f us) (EP X pins σ Q) X.xe s
instance {X : Cx} {σ : L2.St} {f : Value} {xs : List V} {H : Hp} {Q : VK} : CoeFun (TC X σ f xs H Q) fun _ => ∀ (pins : List (Addr × Obj)) (s : Shared) (us : List Value), Inv X pins σ H s → Vals xs us → wpAny (model X.prog X.w) X.A (call f us) (EP X pins σ Q) X.xe s := ⟨TC.run⟩
structure TB (X : Cx) (σ : L2.St) (x : V) (H : Hp) (Q : Bool → Hp → Prop) : Prop where
  run : ∀ (pins : List (Addr × Obj)) (s : Shared) (v : Value), Inv X pins σ H s → RelV x v → wpAny (model X.prog X.w) X.A (truthy v) (TP X pins σ Q) X.xe s
instance {X : Cx} {σ : L2.St} {x : V} {H : Hp} {Q : Bool → Hp → Prop} : CoeFun (TB X σ x H Q) fun _ => ∀ (pins : List (Addr × Obj)) (s : Shared) (v : Value), Inv X pins σ H s → RelV x v → wpAny (model X.prog X.w) X.A (truthy v) (TP X pins σ Q) X.xe s := ⟨TB.run⟩
theorem to_of {X : Cx} {σ : L2.St} {f : Value → Value → Sem Value} {r : R2} {x y : V} {H : Hp} {Q : VK} (h : OpR X f r) (q : r x y H Q) : TO X σ f x y H Q := TO.mk fun pins s v u I rx ry => h pins s σ H x y v u Q I rx ry q
theorem tu_of {X : Cx} {σ : L2.St} {f : Value → Sem Value} {r : V → Hp → VK → Prop} {x : V} {H : Hp} {Q : VK} (h : UnR X f r) (q : r x H Q) : TU X σ f x H Q := TU.mk fun pins s v I rx => h pins s σ H x v Q I rx q
theorem tc_of {X : Cx} {σ : L2.St} {f : Value} {r : List V → Hp → VK → Prop} {xs : List V} {H : Hp} {Q : VK} (h : CallR X f r) (q : r xs H Q) : TC X σ f xs H Q := TC.mk fun pins s us I rx => h pins s σ H xs us Q I rx q
theorem tb_of {X : Cx} {σ : L2.St} {r : V → Hp → (Bool → Hp → Prop) → Prop} {x : V} {H : Hp} {Q : Bool → Hp → Prop} (h : TruR X r) (q : r x H Q) : TB X σ x H Q := TB.mk fun pins s v I rx => h pins s σ H x v Q I rx q
structure TWT (X : Cx) (e : Expr) (σ : L2.St) (H : Hp) (Q : Bool → Hp → Prop) : Prop where
  run : ∀ (pins : List (Addr × Obj)) (s : Shared), Inv X pins σ H s → wpAny (model X.prog X.w) X.A (PySem.isTrue e X.env (eval e X.env)) (TP X pins σ Q) X.xe s
instance {X : Cx} {e : Expr} {σ : L2.St} {H : Hp} {Q : Bool → Hp → Prop} : CoeFun (TWT X e σ H Q) fun _ => ∀ (pins : List (Addr × Obj)) (s : Shared), Inv X pins σ H s → wpAny (model X.prog X.w) X.A (PySem.isTrue e X.env (eval e X.env)) (TP X pins σ Q) X.xe s := ⟨TWT.run⟩
theorem twt_pt (X : Cx) (e : Expr) : PT X e (TWT X e) := ⟨fun pins s σ H Q I h => h pins s I⟩
theorem twt_of {X : Cx} {e : Expr} {t : TT} {σ : L2.St} {H : Hp} {Q : Bool → Hp → Prop} (h : PT X e t) (q : t σ H Q) : TWT X e σ H Q := TWT.mk fun pins s I => h.run pins s σ H Q I q
structure TWA (X : Cx) (es : List Expr) (σ : L2.St) (H : Hp) (Q : List V → Hp → Prop) : Prop where
  run : ∀ (pos : Pos) (pins : List (Addr × Obj)) (s : Shared), Inv X pins σ H s → wpAny (model X.prog X.w) X.A (spliced (backTo pos (starEach es X.env))) (AP X pins σ Q) X.xe s
instance {X : Cx} {es : List Expr} {σ : L2.St} {H : Hp} {Q : List V → Hp → Prop} : CoeFun (TWA X es σ H Q) fun _ => ∀ (pos : Pos) (pins : List (Addr × Obj)) (s : Shared), Inv X pins σ H s → wpAny (model X.prog X.w) X.A (spliced (backTo pos (starEach es X.env))) (AP X pins σ Q) X.xe s := ⟨TWA.run⟩
theorem twa_pa (X : Cx) (es : List Expr) : PA X es (TWA X es) := ⟨fun pos pins s σ H Q I h => h pos pins s I⟩
theorem twa_of {X : Cx} {es : List Expr} {t : TA} {σ : L2.St} {H : Hp} {Q : List V → Hp → Prop} (h : PA X es t) (q : t σ H Q) : TWA X es σ H Q := TWA.mk fun pos pins s I => h.run pos pins s σ H Q I q
end Ev
-- EvC
namespace Ev
open PySem PySem.Spec PyProof.Rows L2
/-! ### what an expression, a test, arguments, an operation make of a wish -/
abbrev TfE := Gm → Store → DP → XP → Prop
abbrev TfT := Gm → Store → (Bool → Store → Prop) → XP → Prop
abbrev TfA := Gm → Store → (List D → Store → Prop) → XP → Prop
abbrev Tf2 := D → D → Store → DP → XP → Prop
abbrev Tf1 := D → Store → DP → XP → Prop
abbrev TfC := List D → Store → DP → XP → Prop
abbrev TfB := D → Store → (Bool → Store → Prop) → XP → Prop
structure PX (cs : CS) (X : Cx) (W : WX) (c : Nat) (e : Expr) (t : TfE) : Prop where
  run : ∀ (u : U) (n : Nat) (H : Hp) (σ : L2.St) (Γ : Gm) (post : DP) (xp : XP) (Q : VK), At cs u n H σ Γ → n + c ≤ lim → t Γ u.M post xp → KN cs u (n + c) H post Q → KX cs u (n + c) H σ xp W → TW X e σ H Q
structure PXT (cs : CS) (X : Cx) (W : WX) (c : Nat) (e : Expr) (t : TfT) : Prop where
  run : ∀ (u : U) (n : Nat) (H : Hp) (σ : L2.St) (Γ : Gm) (post : Bool → Store → Prop) (xp : XP) (Q : Bool → Hp → Prop), At cs u n H σ Γ → n + c ≤ lim → t Γ u.M post xp → KB cs u (n + c) H post Q → KX cs u (n + c) H σ xp W → TWT X e σ H Q
structure PXA (cs : CS) (X : Cx) (W : WX) (c : Nat) (es : List Expr) (t : TfA) : Prop where
  run : ∀ (u : U) (n : Nat) (H : Hp) (σ : L2.St) (Γ : Gm) (post : List D → Store → Prop) (xp : XP) (Q : List V → Hp → Prop), At cs u n H σ Γ → n + c ≤ lim → t Γ u.M post xp → KL cs u (n + c) H post Q → KX cs u (n + c) H σ xp W → TWA X es σ H Q
structure PO2 (cs : CS) (X : Cx) (W : WX) (c : Nat) (f : Value → Value → Sem Value) (t : Tf2) : Prop where
  run : ∀ (u : U) (n : Nat) (H : Hp) (σ : L2.St) (d1 d2 : D) (x y : V) (post : DP) (xp : XP) (Q : VK), Wd cs u n H → n + c ≤ lim → Rep u H d1 x → Rep u H d2 y → t d1 d2 u.M post xp → KN cs u (n + c) H post Q → KX cs u (n + c) H σ xp W → TO X σ f x y H Q
structure PO1 (cs : CS) (X : Cx) (W : WX) (c : Nat) (f : Value → Sem Value) (t : Tf1) : Prop where
  run : ∀ (u : U) (n : Nat) (H : Hp) (σ : L2.St) (d1 : D) (x : V) (post : DP) (xp : XP) (Q : VK), Wd cs u n H → n + c ≤ lim → Rep u H d1 x → t d1 u.M post xp → KN cs u (n + c) H post Q → KX cs u (n + c) H σ xp W → TU X σ f x H Q
structure POC (cs : CS) (X : Cx) (W : WX) (c : Nat) (f : Value) (t : TfC) : Prop where
  run : ∀ (u : U) (n : Nat) (H : Hp) (σ : L2.St) (ds : List D) (xs : List V) (post : DP) (xp : XP) (Q : VK), Wd cs u n H → n + c ≤ lim → RepL u H ds xs → t ds u.M post xp → KN cs u (n + c) H post Q → KX cs u (n + c) H σ xp W → TC X σ f xs H Q
structure POB (cs : CS) (X : Cx) (W : WX) (c : Nat) (t : TfB) : Prop where
  run : ∀ (u : U) (n : Nat) (H : Hp) (σ : L2.St) (d : D) (x : V) (post : Bool → Store → Prop) (xp : XP) (Q : Bool → Hp → Prop), Wd cs u n H → n + c ≤ lim → Rep u H d x → t d u.M post xp → KB cs u (n + c) H post Q → KX cs u (n + c) H σ xp W → TB X σ x H Q
section
variable {cs : CS} {X : Cx} {W : WX} {c c1 c2 c3 : Nat} {a b e : Expr} {pos : Pos}
/-! ### names, constants -/
def tVar (i : Nat) : TfE := fun Γ M post _ => ∃ d, Γ[i]? = some (some d) ∧ post d M
def tCon (d : D) : TfE := fun _ M post _ => post d M
theorem px_var (i : Nat) {x : Str} (hN : X.N[i]? = some x := by rfl) (hv : Vis X.env.scope x := by first | exact Or.inl rfl | exact Or.inr (Or.inl rfl) | exact Or.inr (Or.inr rfl))
    (hd : (x == ("__debug__" : Str)) = false := by decide) (hcd : (x == ("__classdict__" : Str)) = false := by decide) : PX cs X W 0 (.Name x pos) (tVar i) := ⟨fun u n H σ Γ post xp Q A hn ⟨d, h, q⟩ kn kx => by
  obtain ⟨v, e, r⟩ := A.sl i _ h
  exact tw_of (pe_var hN hv hd hcd) ⟨v, e, kn.here A.toWd r q⟩⟩
theorem px_int {i : Int} {j} : PX cs X W 0 (.Constant (.int i) j pos) (tCon (.int i)) := ⟨fun u n H σ Γ post xp Q A hn q kn kx => tw_of pe_int (kn.here (d := .int i) A.toWd rfl q)⟩
theorem px_str {i : Str} {j} : PX cs X W 0 (.Constant (.str i) j pos) (tCon (.str i)) := ⟨fun u n H σ Γ post xp Q A hn q kn kx => tw_of pe_str (kn.here (d := .str i) A.toWd rfl q)⟩
theorem px_bl {i : Bool} {j} : PX cs X W 0 (.Constant (.bool i) j pos) (tCon (.bl i)) := ⟨fun u n H σ Γ post xp Q A hn q kn kx => tw_of pe_bl (kn.here (d := .bl i) A.toWd rfl q)⟩
theorem px_non {j} : PX cs X W 0 (.Constant .none j pos) (tCon .non) := ⟨fun u n H σ Γ post xp Q A hn q kn kx => tw_of pe_non (kn.here (d := .non) A.toWd rfl q)⟩
theorem px_gint {x : Str} {i : Int} (hm : ∃ t, X.mg x = some (.int i t)) (hg : Gl X x := by rfl) (hd : (x == ("__debug__" : Str)) = false := by decide) : PX cs X W 0 (.Name x pos) (tCon (.int i)) := ⟨fun u n H σ Γ post xp Q A hn q kn kx => by
  obtain ⟨t, hm⟩ := hm
  exact tw_of (pe_glob hg hm (v := .int i) ⟨t, rfl⟩ hd) (kn.here (d := .int i) A.toWd rfl q)⟩
theorem px_gstr {x : Str} {i : Str} (hm : ∃ t, X.mg x = some (.str i t)) (hg : Gl X x := by rfl) (hd : (x == ("__debug__" : Str)) = false := by decide) : PX cs X W 0 (.Name x pos) (tCon (.str i)) := ⟨fun u n H σ Γ post xp Q A hn q kn kx => by
  obtain ⟨t, hm⟩ := hm
  exact tw_of (pe_glob hg hm (v := .str i) ⟨t, rfl⟩ hd) (kn.here (d := .str i) A.toWd rfl q)⟩
theorem px_gref {x : Str} {a : Addr} (hm : X.mg x = some (.ref a)) (hg : Gl X x := by rfl) (hd : (x == ("__debug__" : Str)) = false := by decide) : PX cs X W 0 (.Name x pos) (tCon (.ref a)) := ⟨fun u n H σ Γ post xp Q A hn q kn kx =>
  tw_of (pe_glob hg hm (v := .ref a) rfl hd) (kn.here (d := .ref a) A.toWd rfl q)⟩
/-- a built-in type's name as a value -/
theorem px_gty {x : Str} (T : Bt) (hm : X.mg x = none) (hv : bootBuiltins x = some (.type T.nm) := by decide +kernel) (hg : Gl X x := by rfl) (hn' : x ≠ "__name__" := by decide) (hd : (x == ("__debug__" : Str)) = false := by decide) : PX cs X W 0 (.Name x pos) (tCon (.ty T)) := ⟨fun u n H σ Γ post xp Q A hn q kn kx =>
  tw_of (pe_bltn hg hm hv (v := .ty T.nm) rfl hn' hd) (kn.here (d := .ty T) A.toWd rfl q)⟩
/-! ### operators -/
def tBin (ta tb : TfE) (f : Tf2) : TfE := fun Γ M post xp => ta Γ M (fun d1 M1 => tb Γ M1 (fun d2 M2 => f d1 d2 M2 post xp) xp) xp
def tUn (ta : TfE) (f : Tf1) : TfE := fun Γ M post xp => ta Γ M (fun d1 M1 => f d1 M1 post xp) xp
theorem bin_core {f : Value → Value → Sem Value} {ta tb : TfE} {tf : Tf2} (ha : PX cs X W c1 a ta) (hb : PX cs X W c2 b tb) (ho : PO2 cs X W c3 f tf) {u : U} {n : Nat} {H : Hp} {σ : L2.St} {Γ : Gm} {post : DP} {xp : XP} {Q : VK}
    (A : At cs u n H σ Γ) (hn : n + (c1 + c2 + c3) ≤ lim) (q : tBin ta tb tf Γ u.M post xp) (kn : KN cs u (n + (c1 + c2 + c3)) H post Q) (kx : KX cs u (n + (c1 + c2 + c3)) H σ xp W) {pins : List (Addr × Obj)} {s : Shared} (I : Inv X pins σ H s) :
    wpAny (model X.prog X.w) X.A (eval a X.env) (fun v s1 => wpAny (model X.prog X.w) X.A (eval b X.env) (fun y s₂ => wpAny (model X.prog X.w) X.A (f v y) (EP X pins σ Q) X.xe s₂) X.xe s1) X.xe s := by
  refine thn (ha.run u n H σ Γ _ xp (fun x H1 => ∀ s1 v, Inv X pins σ H1 s1 → RelV x v → wpAny (model X.prog X.w) X.A (eval b X.env) (fun y s₂ => wpAny (model X.prog X.w) X.A (f v y) (EP X pins σ Q) X.xe s₂) X.xe s1) A (by omega) q (fun x d1 u1 H1 e1 B1 r1 q1 s1 v I1 rv => ?_) (kx.le (by omega)) pins s I) fun v s1 ⟨x, H1, I1, rv, q⟩ => q s1 v I1 rv
  refine thn (hb.run u1 (n + c1) H1 σ Γ _ xp (fun y H2 => ∀ s2 w, Inv X pins σ H2 s2 → RelV y w → wpAny (model X.prog X.w) X.A (f v w) (EP X pins σ Q) X.xe s2) (A.step e1 B1) (by omega) q1 (fun y d2 u2 H2 e2 B2 r2 q2 s2 w I2 rw' => ?_) (kx.go A.toWd e1 (by omega)) pins s1 I1) fun w s2 ⟨y, H2, I2, rw', q⟩ => q s2 w I2 rw'
  have e12 := e1.trans A.toWd e2
  exact ho.run u2 (n + c1 + c2) H2 σ d1 d2 x y post xp Q B2 (by omega) (r1.go B1 e2) r2 q2 (kn.go A.toWd e12 (by omega)) (kx.go A.toWd e12 (by omega)) pins s2 v w I2 rv rw'
theorem px_bin {op : Operator} {ta tb : TfE} {tf : Tf2} (ha : PX cs X W c1 a ta) (hb : PX cs X W c2 b tb) (ho : PO2 cs X W c3 (binaryOp op) tf) : PX cs X W (c1 + c2 + c3) (.BinOp a op b pos) (tBin ta tb tf) := ⟨fun u n H σ Γ post xp Q A hn q kn kx => TW.mk fun pins s I =>
  wpAny_BinOp (bin_core ha hb ho A hn q kn kx I)⟩
theorem px_cmp {op : CmpOp} {ta tb : TfE} {tf : Tf2} (ha : PX cs X W c1 a ta) (hb : PX cs X W c2 b tb) (ho : PO2 cs X W c3 (compareOp op) tf) (hm : behindInMarks op b = false := by first | exact nomark _ | with_unfolding_all rfl) : PX cs X W (c1 + c2 + c3) (.Compare a [op] [b] pos) (tBin ta tb tf) := ⟨fun u n H σ Γ post xp Q A hn q kn kx => TW.mk fun pins s I =>
  wpAny_Compare1 (bin_core ha hb ho A hn q kn kx I) hm⟩
theorem px_un {op : UnaryOp} {ta : TfE} {tf : Tf1} (ha : PX cs X W c1 a ta) (ho : PO1 cs X W c2 (unaryOp op) tf) : PX cs X W (c1 + c2) (.UnaryOp op a pos) (tUn ta tf) := ⟨fun u n H σ Γ post xp Q A hn q kn kx => TW.mk fun pins s I => by
  refine UnaryOp_ (thn (ha.run u n H σ Γ _ xp (fun x H1 => ∀ s1 v, Inv X pins σ H1 s1 → RelV x v → wpAny (model X.prog X.w) X.A (unaryOp op v) (EP X pins σ Q) X.xe s1) A (by omega) q (fun x d1 u1 H1 e1 B1 r1 q1 s1 v I1 rv => ?_) (kx.le (by omega)) pins s I) fun v s1 ⟨x, H1, I1, rv, q⟩ => q s1 v I1 rv)
  exact ho.run u1 (n + c1) H1 σ d1 x post xp Q B1 (by omega) r1 q1 (kn.go A.toWd e1 (by omega)) (kx.go A.toWd e1 (by omega)) pins s1 v I1 rv⟩
/-- a op b op' c -/
def tChain (ta tb tc : TfE) (f g : Tf2) : TfE := fun Γ M post xp => ta Γ M (fun d1 M1 => tb Γ M1 (fun d2 M2 => f d1 d2 M2 (fun d M3 => ∃ k : Bool, d = .bl k ∧ (k = false → post (.bl false) M3) ∧ (k = true → tc Γ M3 (fun d3 M4 => g d2 d3 M4 post xp) xp)) xp) xp) xp
theorem opr_to {f : Value → Value → Sem Value} {σ : L2.St} : ∀ (pins : List (Addr × Obj)) (s : Shared) (H : Hp) (x y : V) (v u : Value) (Q : VK), Inv X pins σ H s → RelV x v → RelV y u → TO X σ f x y H Q → wpAny (model X.prog X.w) X.A (f v u) (EP X pins σ Q) X.xe s := fun pins s H x y v u Q I rx ry h => h pins s v u I rx ry
end
end Ev
-- EvD
namespace Ev
open PySem PySem.Spec PyProof.Rows L2
section
variable {cs : CS} {X : Cx} {W : WX} {c c1 c2 c3 c4 c5 : Nat} {a b e : Expr} {pos : Pos}
/-! ### chains -/
theorem px_chain {op op' : CmpOp} {cc : Expr} {ta tb tc : TfE} {f g : Tf2} (ha : PX cs X W c1 a ta) (hb : PX cs X W c2 b tb) (ho : PO2 cs X W c3 (compareOp op) f) (hc : PX cs X W c4 cc tc) (ho' : PO2 cs X W c5 (compareOp op') g)
    (hm : lastMarks [op, op'] [b, cc] = false := by with_unfolding_all rfl) : PX cs X W (c1 + c2 + c3 + c4 + c5) (.Compare a [op, op'] [b, cc] pos) (tChain ta tb tc f g) := ⟨fun u n H σ Γ post xp Q A hn q kn kx => TW.mk fun pins s I => by
  refine Compare_chain (thn (ha.run u n H σ Γ _ xp (fun x H1 => ∃ u1 d1, Nx u H u1 H1 ∧ Wd cs u1 (n + c1) H1 ∧ Rep u1 H1 d1 x ∧ tb Γ u1.M (fun d2 M2 => f d1 d2 M2 (fun d M3 => ∃ k : Bool, d = .bl k ∧ (k = false → post (.bl false) M3) ∧ (k = true → tc Γ M3 (fun d3 M4 => g d2 d3 M4 post xp) xp)) xp) xp) A (by omega) q (fun x d1 u1 H1 e1 B1 r1 q1 => ⟨u1, d1, e1, B1, r1, q1⟩) (kx.le (by omega)) pins s I) fun v s1 ⟨x, H1, I1, rv, u1, d1, e1, B1, r1, q1⟩ => chain_link ?_) hm
  refine thn (hb.run u1 (n + c1) H1 σ Γ _ xp (fun y H2 => ∃ u2 d2, Nx u1 H1 u2 H2 ∧ Wd cs u2 (n + c1 + c2) H2 ∧ Rep u2 H2 d2 y ∧ f d1 d2 u2.M (fun d M3 => ∃ k : Bool, d = .bl k ∧ (k = false → post (.bl false) M3) ∧ (k = true → tc Γ M3 (fun d3 M4 => g d2 d3 M4 post xp) xp)) xp) (A.step e1 B1) (by omega) q1 (fun y d2 u2 H2 e2 B2 r2 q2 => ⟨u2, d2, e2, B2, r2, q2⟩) (kx.go A.toWd e1 (by omega)) pins s1 I1) fun w s2 ⟨y, H2, I2, rw', u2, d2, e2, B2, r2, q2⟩ => ?_
  have e12 := e1.trans A.toWd e2
  refine thn (ho.run u2 (n + c1 + c2) H2 σ d1 d2 x y _ xp (fun z H3 => ∃ u3, Nx u2 H2 u3 H3 ∧ Wd cs u3 (n + c1 + c2 + c3) H3 ∧ ∃ k : Bool, z = .bl k ∧ (k = false → post (.bl false) u3.M) ∧ (k = true → tc Γ u3.M (fun d3 M4 => g d2 d3 M4 post xp) xp)) B2 (by omega) (r1.go B1 e2) r2 q2 (fun z d u3 H3 e3 B3 r3 ⟨k, ed, h1, h2⟩ => ⟨u3, e3, B3, k, by rw [ed] at r3; exact r3, h1, h2⟩) (kx.go A.toWd e12 (by omega)) pins s2 v w I2 rv rw') fun z s3 ⟨z', H3, I3, r3, u3, e3, B3, k, ez, h1, h2⟩ => ?_
  subst ez
  cases r3
  have e123 := e12.trans A.toWd e3
  refine wpAny_truthy_bool ?_
  cases k with
  | false => exact ite_ff ⟨.bl false, H3, I3, rfl, kn (.bl false) (.bl false) u3 H3 e123 (B3.up (by omega)) rfl (h1 rfl)⟩
  | true =>
    refine ite_tt (chain_last (thn (hc.run u3 (n + c1 + c2 + c3) H3 σ Γ _ xp (fun x4 H4 => ∃ u4 d3, Nx u3 H3 u4 H4 ∧ Wd cs u4 (n + c1 + c2 + c3 + c4) H4 ∧ Rep u4 H4 d3 x4 ∧ g d2 d3 u4.M post xp) (A.step e123 B3) (by omega) (h2 rfl) (fun x4 d3 u4 H4 e4 B4 r4 q4 => ⟨u4, d3, e4, B4, r4, q4⟩) (kx.go A.toWd e123 (by omega)) pins s3 I3) fun w' s4 ⟨z4, H4, I4, rz4, u4, d3, e4, B4, r4, q4⟩ => ?_))
    have e1234 := e123.trans A.toWd e4
    exact ho'.run u4 (n + c1 + c2 + c3 + c4) H4 σ d2 d3 y z4 post xp Q B4 (by omega) ((r2.go B2 e3).go B3 e4) r4 q4 (kn.go A.toWd e1234 (by omega)) (kx.go A.toWd e1234 (by omega)) pins s4 w w' I4 rw' rz4⟩
/-! ### tests -/
/-- a truth value out of data -/
abbrev TfE.bl (t : TfE) : TfT := fun Γ M post xp => t Γ M (fun d M' => ∃ k, d = .bl k ∧ post k M') xp
/-- tests that are asked by their value: of the whole -/
structure PXW (cs : CS) (X : Cx) (W : WX) (c : Nat) (e : Expr) (t : TfT) : Prop where
  run : ∀ (u : U) (n : Nat) (H : Hp) (σ : L2.St) (Γ : Gm) (post : Bool → Store → Prop) (xp : XP) (Q : Bool → Hp → Prop), At cs u n H σ Γ → n + c ≤ lim → t Γ u.M post xp → KB cs u (n + c) H post Q → KX cs u (n + c) H σ xp W →
    ∀ (whole : Sem Value) (pins : List (Addr × Obj)) (s : Shared), Inv X pins σ H s → wpAny (model X.prog X.w) X.A (PySem.isTrue e X.env whole) (TP X pins σ Q) X.xe s
theorem PXW.pt {t : TfT} (h : PXW cs X W c e t) : PXT cs X W c e t := ⟨fun u n H σ Γ post xp Q A hn q kn kx => TWT.mk fun pins s I => h.run u n H σ Γ post xp Q A hn q kn kx _ pins s I⟩
theorem pt_cmp {op : CmpOp} {ta tb : TfE} {tf : Tf2} (ha : PX cs X W c1 a ta) (hb : PX cs X W c2 b tb) (ho : PO2 cs X W c3 (compareOp op) tf) (hm : behindInMarks op b = false := by first | exact nomark _ | with_unfolding_all rfl) : PXT cs X W (c1 + c2 + c3) (.Compare a [op] [b] pos) (tBin ta tb tf).bl := ⟨fun u n H σ Γ post xp Q A hn q kn kx => TWT.mk fun pins s I => by
  refine wpAny_isTrue_Compare1 (wpAny_mono (bin_core ha hb ho (Q := fun z H3 => ∃ k, z = .bl k ∧ Q k H3) A hn q (fun z d u3 H3 e3 B3 r3 ⟨k, ed, hk⟩ => ⟨k, by rw [ed] at r3; exact r3, kn k u3 H3 e3 B3 hk⟩) kx I) (fun v s1 h => thn h fun w s2 h2 => thn h2 fun z s3 ⟨z', H3, I3, rz, k, ez, hz⟩ => ?_) (fun _ _ h => h)) hm
  subst ez
  have rz : z = .bool k := rz
  subst rz
  first
    | exact wpAny_truthy_bool ⟨H3, I3, hz⟩
    | exact ⟨k, rfl, H3, I3, hz⟩⟩
theorem pt_chain {op op' : CmpOp} {cc : Expr} {ta tb tc : TfE} {f g : Tf2} (ha : PX cs X W c1 a ta) (hb : PX cs X W c2 b tb) (ho : PO2 cs X W c3 (compareOp op) f) (hc : PX cs X W c4 cc tc) (ho' : PO2 cs X W c5 (compareOp op') g)
    (hm : lastMarks [op, op'] [b, cc] = false := by with_unfolding_all rfl) : PXT cs X W (c1 + c2 + c3 + c4 + c5) (.Compare a [op, op'] [b, cc] pos) (tChain ta tb tc f g).bl := ⟨fun u n H σ Γ post xp Q A hn q kn kx => TWT.mk fun pins s I => by
  refine isTrue_chain (thn (ha.run u n H σ Γ _ xp (fun x H1 => ∃ u1 d1, Nx u H u1 H1 ∧ Wd cs u1 (n + c1) H1 ∧ Rep u1 H1 d1 x ∧ tb Γ u1.M (fun d2 M2 => f d1 d2 M2 (fun d M3 => ∃ k : Bool, d = .bl k ∧ (k = false → ∃ k, D.bl false = .bl k ∧ post k M3) ∧ (k = true → tc Γ M3 (fun d3 M4 => g d2 d3 M4 (fun d M' => ∃ k, d = .bl k ∧ post k M') xp) xp)) xp) xp) A (by omega) q (fun x d1 u1 H1 e1 B1 r1 q1 => ⟨u1, d1, e1, B1, r1, q1⟩) (kx.le (by omega)) pins s I) fun v s1 ⟨x, H1, I1, rv, u1, d1, e1, B1, r1, q1⟩ => test_link ?_) hm
  refine thn (hb.run u1 (n + c1) H1 σ Γ _ xp (fun y H2 => ∃ u2 d2, Nx u1 H1 u2 H2 ∧ Wd cs u2 (n + c1 + c2) H2 ∧ Rep u2 H2 d2 y ∧ f d1 d2 u2.M (fun d M3 => ∃ k : Bool, d = .bl k ∧ (k = false → ∃ k, D.bl false = .bl k ∧ post k M3) ∧ (k = true → tc Γ M3 (fun d3 M4 => g d2 d3 M4 (fun d M' => ∃ k, d = .bl k ∧ post k M') xp) xp)) xp) (A.step e1 B1) (by omega) q1 (fun y d2 u2 H2 e2 B2 r2 q2 => ⟨u2, d2, e2, B2, r2, q2⟩) (kx.go A.toWd e1 (by omega)) pins s1 I1) fun w s2 ⟨y, H2, I2, rw', u2, d2, e2, B2, r2, q2⟩ => ?_
  have e12 := e1.trans A.toWd e2
  refine thn (ho.run u2 (n + c1 + c2) H2 σ d1 d2 x y _ xp (fun z H3 => ∃ u3, Nx u2 H2 u3 H3 ∧ Wd cs u3 (n + c1 + c2 + c3) H3 ∧ ∃ k : Bool, z = .bl k ∧ (k = false → ∃ k, D.bl false = .bl k ∧ post k u3.M) ∧ (k = true → tc Γ u3.M (fun d3 M4 => g d2 d3 M4 (fun d M' => ∃ k, d = .bl k ∧ post k M') xp) xp)) B2 (by omega) (r1.go B1 e2) r2 q2 (fun z d u3 H3 e3 B3 r3 ⟨k, ed, h1, h2⟩ => ⟨u3, e3, B3, k, by rw [ed] at r3; exact r3, h1, h2⟩) (kx.go A.toWd e12 (by omega)) pins s2 v w I2 rv rw') fun z s3 ⟨z', H3, I3, r3, u3, e3, B3, k, ez, h1, h2⟩ => ?_
  subst ez
  cases r3
  have e123 := e12.trans A.toWd e3
  refine wpAny_truthy_bool ?_
  cases k with
  | false =>
    obtain ⟨k, ek, hk⟩ := h1 rfl
    cases ek
    exact ite_ff ⟨H3, I3, kn false u3 H3 e123 (B3.up (by omega)) hk⟩
  | true =>
    refine ite_tt (test_last (thn (hc.run u3 (n + c1 + c2 + c3) H3 σ Γ _ xp (fun x4 H4 => ∃ u4 d3, Nx u3 H3 u4 H4 ∧ Wd cs u4 (n + c1 + c2 + c3 + c4) H4 ∧ Rep u4 H4 d3 x4 ∧ g d2 d3 u4.M (fun d M' => ∃ k, d = .bl k ∧ post k M') xp) (A.step e123 B3) (by omega) (h2 rfl) (fun x4 d3 u4 H4 e4 B4 r4 q4 => ⟨u4, d3, e4, B4, r4, q4⟩) (kx.go A.toWd e123 (by omega)) pins s3 I3) fun w' s4 ⟨z4, H4, I4, rz4, u4, d3, e4, B4, r4, q4⟩ => ?_))
    have e1234 := e123.trans A.toWd e4
    refine thn (ho'.run u4 (n + c1 + c2 + c3 + c4) H4 σ d2 d3 y z4 _ xp (fun z H5 => ∃ k, z = .bl k ∧ Q k H5) B4 (by omega) ((r2.go B2 e3).go B3 e4) r4 q4 (fun z d u5 H5 e5 B5 r5 ⟨k, ed, hk⟩ => ⟨k, by rw [ed] at r5; exact r5, kn k u5 H5 (e1234.trans A.toWd e5) (B5.up (by omega)) hk⟩) (kx.go A.toWd e1234 (by omega)) pins s4 w w' I4 rw' rz4) fun d' s5 ⟨z5, H5, I5, r5, k2, e2, q5⟩ => ?_
    subst e2
    cases r5
    exact wpAny_truthy_bool ⟨H5, I5, q5⟩⟩
/-- truth of built-in data -/
def tTru : TfB := fun d M post _ => match d with
  | .non => post false M
  | .bl b => post b M
  | .int i => post (i != 0) M
  | .str x => x.length ≤ sizeLine ∧ post (x.length != 0) M
  | .lst ds => post (!ds.isEmpty) M
  | .tup ds => post (!ds.isEmpty) M
  | .dic ds => post (!ds.isEmpty) M
  | .loc n => match M[n]? with
    | some (.li ds) => post (!ds.isEmpty) M
    | some (.di ds) => post (!ds.isEmpty) M
    | _ => False
  | _ => False
theorem TB.ok {σ : L2.St} {x : V} {H : Hp} {k : Bool} {Q : Bool → Hp → Prop} (h : TruV X.K x H k) (q : Q k H) : TB X σ x H Q := tb_of tru_ok ⟨k, h, q⟩
theorem empL {u : U} {H : Hp} {ds : List D} {vs : List V} (r : RepL u H ds vs) : vs.isEmpty = ds.isEmpty := by
  have hl := r.length
  cases vs <;> cases ds <;> simp_all
theorem empK {u : U} {H : Hp} {ds : List (Key × D)} {vs : List (Key × V)} (r : RepK u H ds vs) : vs.isEmpty = ds.isEmpty := by
  have hl := r.length
  cases vs <;> cases ds <;> simp_all
theorem pob_std : POB cs X W 0 tTru := ⟨fun u n H σ d x post xp Q A hn rx h kn kx => by
  cases d with
  | non => rw [show x = .non from rx]; exact TB.ok (k := false) rfl (kn.here A h)
  | bl b => rw [show x = .bl b from rx]; exact TB.ok (k := b) rfl (kn.here A h)
  | int i => rw [show x = .int i from rx]; exact TB.ok (k := i != 0) rfl (kn.here A h)
  | str z =>
    rw [show x = .str z from rx]
    refine TB.ok (k := z.length != 0) ⟨h.1, ?_⟩ (kn.here A h.2)
    by_cases e : z.length = 0
    · rw [e]; rfl
    · have e' : ¬ (z.length : Int) = 0 := by omega
      show (!(z.length == 0)) = !((z.length : Int) == 0)
      rw [beq_false_of_ne e, beq_false_of_ne e']
  | lst ds =>
    obtain ⟨p, vs, ev, f, g, r⟩ := rx.lstE
    rw [ev]; exact TB.ok (k := !vs.isEmpty) (.inl ⟨vs, SqL.of g, rfl⟩) (by rw [empL r]; exact kn.here A h)
  | tup ds =>
    obtain ⟨p, vs, ev, f, g, r⟩ := rx.tupE
    rw [ev]; exact TB.ok (k := !vs.isEmpty) (.inr (.inl ⟨vs, SqT.of g, rfl⟩)) (by rw [empL r]; exact kn.here A h)
  | dic ds =>
    obtain ⟨p, vs, ev, f, g, r⟩ := rx.dicE
    rw [ev]; exact TB.ok (k := !vs.isEmpty) (.inr (.inr ⟨vs, g, rfl⟩)) (by rw [empK r]; exact kn.here A h)
  | loc i =>
    obtain ⟨a, ev, hm⟩ := rx.locE
    subst ev
    unfold tTru at h
    dsimp only at h
    cases hc : u.M[i]? with
    | none => rw [hc] at h; exact h.elim
    | some cl =>
      rw [hc] at h
      have ok := A.cell i a cl hm hc
      cases cl with
      | dead => exact h.elim
      | ins _ _ => exact h.elim
      | li ds =>
        obtain ⟨vs, g, r⟩ := ok
        exact TB.ok (k := !vs.isEmpty) (.inl ⟨vs, SqL.of g, rfl⟩) (by rw [empL r]; exact kn.here A h)
      | di ds =>
        obtain ⟨vs, g, r⟩ := ok
        exact TB.ok (k := !vs.isEmpty) (.inr (.inr ⟨vs, g, rfl⟩)) (by rw [empK r]; exact kn.here A h)
  | pen => exact h.elim
  | ref _ => exact h.elim
  | cls _ => exact h.elim
  | ty _ => exact h.elim
  | obj _ _ _ => exact h.elim
  | exc _ _ _ => exact h.elim
  | fn _ _ _ _ _ => exact h.elim⟩
theorem POB.or {t1 t2 : TfB} (h1 : POB cs X W c1 t1) (h2 : POB cs X W c2 t2) : POB cs X W (c1 + c2) (fun d M post xp => t1 d M post xp ∨ t2 d M post xp) := ⟨fun u n H σ d x post xp Q A hn rx h kn kx => by
  rcases h with h | h
  · exact h1.run u n H σ d x post xp Q A (by omega) rx h (kn.le (by omega)) (kx.le (by omega))
  · exact h2.run u n H σ d x post xp Q A (by omega) rx h (kn.le (by omega)) (kx.le (by omega))⟩
theorem PO2.or {f : Value → Value → Sem Value} {t1 t2 : Tf2} (h1 : PO2 cs X W c1 f t1) (h2 : PO2 cs X W c2 f t2) : PO2 cs X W (c1 + c2) f (fun d d2 M post xp => t1 d d2 M post xp ∨ t2 d d2 M post xp) := ⟨fun u n H σ d d2 x y post xp Q A hn rx ry h kn kx => by
  rcases h with h | h
  · exact h1.run u n H σ d d2 x y post xp Q A (by omega) rx ry h (kn.le (by omega)) (kx.le (by omega))
  · exact h2.run u n H σ d d2 x y post xp Q A (by omega) rx ry h (kn.le (by omega)) (kx.le (by omega))⟩
theorem PO1.or {f : Value → Sem Value} {t1 t2 : Tf1} (h1 : PO1 cs X W c1 f t1) (h2 : PO1 cs X W c2 f t2) : PO1 cs X W (c1 + c2) f (fun d M post xp => t1 d M post xp ∨ t2 d M post xp) := ⟨fun u n H σ d x post xp Q A hn rx h kn kx => by
  rcases h with h | h
  · exact h1.run u n H σ d x post xp Q A (by omega) rx h (kn.le (by omega)) (kx.le (by omega))
  · exact h2.run u n H σ d x post xp Q A (by omega) rx h (kn.le (by omega)) (kx.le (by omega))⟩
theorem POC.or {f : Value} {t1 t2 : TfC} (h1 : POC cs X W c1 f t1) (h2 : POC cs X W c2 f t2) : POC cs X W (c1 + c2) f (fun d M post xp => t1 d M post xp ∨ t2 d M post xp) := ⟨fun u n H σ d x post xp Q A hn rx h kn kx => by
  rcases h with h | h
  · exact h1.run u n H σ d x post xp Q A (by omega) rx h (kn.le (by omega)) (kx.le (by omega))
  · exact h2.run u n H σ d x post xp Q A (by omega) rx h (kn.le (by omega)) (kx.le (by omega))⟩
/-- a value's truth as a test (the expression is no comparison, no and, or, not) -/
def tTest (ta : TfE) (tf : TfB) : TfT := fun Γ M post xp => ta Γ M (fun d M1 => tf d M1 post xp) xp
theorem pt_val {ta : TfE} {tf : TfB} (ha : PX cs X W c1 e ta) (ho : POB cs X W c2 tf) (he : ∀ whole, isTrue e X.env whole = (do let v ← whole; standAt e.pos; holding [v] (truthy v)) := by intro _; rfl) : PXT cs X W (c1 + c2) e (tTest ta tf) := ⟨fun u n H σ Γ post xp Q A hn q kn kx => TWT.mk fun pins s I => by
  rw [he]
  refine wpAny_bind (thn (ha.run u n H σ Γ _ xp (fun x H1 => ∀ s1 v, Inv X pins σ H1 s1 → RelV x v → wpAny (model X.prog X.w) X.A (truthy v) (TP X pins σ Q) X.xe s1) A (by omega) q (fun x d1 u1 H1 e1 B1 r1 q1 s1 v I1 rv => ?_) (kx.le (by omega)) pins s I) fun v s1 ⟨x, H1, I1, rv, q⟩ => wpAny_bind (wpAny_standAt (wpAny_holding (q s1 v I1 rv))))
  exact ho.run u1 (n + c1) H1 σ d1 x post xp Q B1 (by omega) r1 q1 (kn.go A.toWd e1 (by omega)) (kx.go A.toWd e1 (by omega)) pins s1 v I1 rv⟩
def tNotT (t : TfT) : TfT := fun Γ M post xp => t Γ M (fun k M1 => post (!k) M1) xp
theorem pt_not {t : TfT} (h : PXT cs X W c e t) : PXT cs X W c (.UnaryOp .Not e pos) (tNotT t) := ⟨fun u n H σ Γ post xp Q A hn q kn kx =>
  twt_of (L2.pt_not (twt_pt X e)) (h.run u n H σ Γ _ xp (fun k H1 => Q (!k) H1) A hn q (fun k u1 H1 e1 B1 q1 => kn _ u1 H1 e1 B1 q1) kx)⟩
theorem tww_pw (X : Cx) (e : Expr) : PW X e (fun σ H Q => ∀ (whole : Sem Value) (pins : List (Addr × Obj)) (s : Shared), Inv X pins σ H s → wpAny (model X.prog X.w) X.A (PySem.isTrue e X.env whole) (TP X pins σ Q) X.xe s) := ⟨fun whole pins s σ H Q I h => h whole pins s I⟩
theorem pw_one {op : BoolOp} {t : TfT} (h : PXT cs X W c a t) : PXW cs X W c (.BoolOp op [a] pos) t := ⟨fun u n H σ Γ post xp Q A hn q kn kx whole pins s I => by
  cases op with
  | And => exact (pw_and1 (twt_pt X a)).run whole pins s σ H Q I (h.run u n H σ Γ post xp Q A hn q kn kx)
  | Or => exact (pw_or1 (twt_pt X a)).run whole pins s σ H Q I (h.run u n H σ Γ post xp Q A hn q kn kx)⟩
def tAndT (ta tb : TfT) : TfT := fun Γ M post xp => ta Γ M (fun k M1 => (k = true → tb Γ M1 post xp) ∧ (k = false → post false M1)) xp
def tOrT (ta tb : TfT) : TfT := fun Γ M post xp => ta Γ M (fun k M1 => (k = false → tb Γ M1 post xp) ∧ (k = true → post true M1)) xp
theorem pw_and {rest : List Expr} {ta tb : TfT} (ha : PXT cs X W c1 a ta) (hb : PXW cs X W c2 (.BoolOp .And (b :: rest) pos) tb) : PXW cs X W (c1 + c2) (.BoolOp .And (a :: b :: rest) pos) (tAndT ta tb) := ⟨fun u n H σ Γ post xp Q A hn q kn kx whole pins s I => by
  refine (L2.pw_and (twt_pt X a) (tww_pw X _)).run whole pins s σ H Q I ?_
  refine ha.run u n H σ Γ _ xp _ A (by omega) q (fun k u1 H1 e1 B1 q1 => ?_) (kx.le (by omega))
  cases k with
  | true => exact fun whole pins s I => hb.run u1 (n + c1) H1 σ Γ post xp Q (A.step e1 B1) (by omega) (q1.1 rfl) (kn.go A.toWd e1 (by omega)) (kx.go A.toWd e1 (by omega)) whole pins s I
  | false => exact kn false u1 H1 e1 (B1.up (by omega)) (q1.2 rfl)⟩
theorem pw_or {rest : List Expr} {ta tb : TfT} (ha : PXT cs X W c1 a ta) (hb : PXW cs X W c2 (.BoolOp .Or (b :: rest) pos) tb) : PXW cs X W (c1 + c2) (.BoolOp .Or (a :: b :: rest) pos) (tOrT ta tb) := ⟨fun u n H σ Γ post xp Q A hn q kn kx whole pins s I => by
  refine (L2.pw_or (twt_pt X a) (tww_pw X _)).run whole pins s σ H Q I ?_
  refine ha.run u n H σ Γ _ xp _ A (by omega) q (fun k u1 H1 e1 B1 q1 => ?_) (kx.le (by omega))
  cases k with
  | false => exact fun whole pins s I => hb.run u1 (n + c1) H1 σ Γ post xp Q (A.step e1 B1) (by omega) (q1.1 rfl) (kn.go A.toWd e1 (by omega)) (kx.go A.toWd e1 (by omega)) whole pins s I
  | true => exact kn true u1 H1 e1 (B1.up (by omega)) (q1.2 rfl)⟩
/-! ### and, or, not, if as values -/
theorem px_one {op : BoolOp} {t : TfE} (h : PX cs X W c a t) : PX cs X W c (.BoolOp op [a] pos) t := ⟨fun u n H σ Γ post xp Q A hn q kn kx => tw_of (pe_one (tw_pe X a)) (h.run u n H σ Γ post xp Q A hn q kn kx)⟩
def tAnd (ta : TfE) (tf : TfB) (tb : TfE) : TfE := fun Γ M post xp => ta Γ M (fun d M1 => tf d M1 (fun k M2 => (k = true → tb Γ M2 post xp) ∧ (k = false → post d M2)) xp) xp
def tOr (ta : TfE) (tf : TfB) (tb : TfE) : TfE := fun Γ M post xp => ta Γ M (fun d M1 => tf d M1 (fun k M2 => (k = false → tb Γ M2 post xp) ∧ (k = true → post d M2)) xp) xp
theorem px_and {rest : List Expr} {ta tb : TfE} {tf : TfB} (ha : PX cs X W c1 a ta) (ho : POB cs X W c2 tf) (hb : PX cs X W c3 (.BoolOp .And (b :: rest) pos) tb) : PX cs X W (c1 + c2 + c3) (.BoolOp .And (a :: b :: rest) pos) (tAnd ta tf tb) := ⟨fun u n H σ Γ post xp Q A hn q kn kx => TW.mk fun pins s I => by
  refine BoolOp_and (thn (ha.run u n H σ Γ _ xp (fun x H1 => ∃ u1 d, Nx u H u1 H1 ∧ Wd cs u1 (n + c1) H1 ∧ Rep u1 H1 d x ∧ tf d u1.M (fun k M2 => (k = true → tb Γ M2 post xp) ∧ (k = false → post d M2)) xp) A (by omega) q (fun x d u1 H1 e1 B1 r1 q1 => ⟨u1, d, e1, B1, r1, q1⟩) (kx.le (by omega)) pins s I) fun v s1 ⟨x, H1, I1, rv, u1, d, e1, B1, r1, q1⟩ => ?_)
  refine thn (ho.run u1 (n + c1) H1 σ d x _ xp (fun k H2 => ∃ u2, Nx u1 H1 u2 H2 ∧ Wd cs u2 (n + c1 + c2) H2 ∧ (k = true → tb Γ u2.M post xp) ∧ (k = false → post d u2.M)) B1 (by omega) r1 q1 (fun k u2 H2 e2 B2 q2 => ⟨u2, e2, B2, q2⟩) (kx.go A.toWd e1 (by omega)) pins s1 v I1 rv) fun k s2 ⟨H2, I2, u2, e2, B2, h1, h2⟩ => ?_
  have e12 := e1.trans A.toWd e2
  cases k with
  | true => exact (hb.run u2 (n + c1 + c2) H2 σ Γ post xp Q (A.step e12 B2) (by omega) (h1 rfl) (kn.go A.toWd e12 (by omega)) (kx.go A.toWd e12 (by omega))) pins s2 I2
  | false => exact ⟨x, H2, I2, rv, kn x d u2 H2 e12 (B2.up (by omega)) (r1.go B1 e2) (h2 rfl)⟩⟩
theorem px_or {rest : List Expr} {ta tb : TfE} {tf : TfB} (ha : PX cs X W c1 a ta) (ho : POB cs X W c2 tf) (hb : PX cs X W c3 (.BoolOp .Or (b :: rest) pos) tb) : PX cs X W (c1 + c2 + c3) (.BoolOp .Or (a :: b :: rest) pos) (tOr ta tf tb) := ⟨fun u n H σ Γ post xp Q A hn q kn kx => TW.mk fun pins s I => by
  refine BoolOp_or (thn (ha.run u n H σ Γ _ xp (fun x H1 => ∃ u1 d, Nx u H u1 H1 ∧ Wd cs u1 (n + c1) H1 ∧ Rep u1 H1 d x ∧ tf d u1.M (fun k M2 => (k = false → tb Γ M2 post xp) ∧ (k = true → post d M2)) xp) A (by omega) q (fun x d u1 H1 e1 B1 r1 q1 => ⟨u1, d, e1, B1, r1, q1⟩) (kx.le (by omega)) pins s I) fun v s1 ⟨x, H1, I1, rv, u1, d, e1, B1, r1, q1⟩ => ?_)
  refine thn (ho.run u1 (n + c1) H1 σ d x _ xp (fun k H2 => ∃ u2, Nx u1 H1 u2 H2 ∧ Wd cs u2 (n + c1 + c2) H2 ∧ (k = false → tb Γ u2.M post xp) ∧ (k = true → post d u2.M)) B1 (by omega) r1 q1 (fun k u2 H2 e2 B2 q2 => ⟨u2, e2, B2, q2⟩) (kx.go A.toWd e1 (by omega)) pins s1 v I1 rv) fun k s2 ⟨H2, I2, u2, e2, B2, h1, h2⟩ => ?_
  have e12 := e1.trans A.toWd e2
  cases k with
  | false => exact (hb.run u2 (n + c1 + c2) H2 σ Γ post xp Q (A.step e12 B2) (by omega) (h1 rfl) (kn.go A.toWd e12 (by omega)) (kx.go A.toWd e12 (by omega))) pins s2 I2
  | true => exact ⟨x, H2, I2, rv, kn x d u2 H2 e12 (B2.up (by omega)) (r1.go B1 e2) (h2 rfl)⟩⟩
def tNot (ta : TfE) (tf : TfB) : TfE := fun Γ M post xp => ta Γ M (fun d M1 => tf d M1 (fun k M2 => post (.bl (!k)) M2) xp) xp
theorem px_not {ta : TfE} {tf : TfB} (ha : PX cs X W c1 a ta) (ho : POB cs X W c2 tf) : PX cs X W (c1 + c2) (.UnaryOp .Not a pos) (tNot ta tf) := ⟨fun u n H σ Γ post xp Q A hn q kn kx => TW.mk fun pins s I => by
  refine UnaryOp_ (thn (ha.run u n H σ Γ _ xp (fun x H1 => ∃ u1 d, Nx u H u1 H1 ∧ Wd cs u1 (n + c1) H1 ∧ Rep u1 H1 d x ∧ tf d u1.M (fun k M2 => post (.bl (!k)) M2) xp) A (by omega) q (fun x d u1 H1 e1 B1 r1 q1 => ⟨u1, d, e1, B1, r1, q1⟩) (kx.le (by omega)) pins s I) fun v s1 ⟨x, H1, I1, rv, u1, d, e1, B1, r1, q1⟩ => ?_)
  exact not_of (thn (ho.run u1 (n + c1) H1 σ d x _ xp (fun k H2 => Q (.bl (!k)) H2) B1 (by omega) r1 q1 (fun k u2 H2 e2 B2 q2 => kn (.bl (!k)) (.bl (!k)) u2 H2 (e1.trans A.toWd e2) (B2.up (by omega)) rfl q2) (kx.go A.toWd e1 (by omega)) pins s1 v I1 rv) fun k s2 ⟨H2, I2, q2⟩ => ⟨.bl (!k), H2, I2, rfl, q2⟩)⟩
def tIfx (t : TfT) (ta tb : TfE) : TfE := fun Γ M post xp => t Γ M (fun k M1 => (k = true → ta Γ M1 post xp) ∧ (k = false → tb Γ M1 post xp)) xp
theorem px_ifx {t : Expr} {tt : TfT} {ta tb : TfE} (ht : PXT cs X W c1 t tt) (ha : PX cs X W c2 a ta) (hb : PX cs X W c3 b tb) : PX cs X W (c1 + (c2 + c3)) (.IfExp t a b pos) (tIfx tt ta tb) := ⟨fun u n H σ Γ post xp Q A hn q kn kx => by
  refine tw_of (pe_ifExp (twt_pt X t) (tw_pe X a) (tw_pe X b)) ?_
  refine ht.run u n H σ Γ _ xp _ A (by omega) q (fun k u1 H1 e1 B1 ⟨h1, h2⟩ => ?_) (kx.le (by omega))
  cases k with
  | true => exact ha.run u1 (n + c1) H1 σ Γ post xp Q (A.step e1 B1) (by omega) (h1 rfl) (kn.go A.toWd e1 (by omega)) (kx.go A.toWd e1 (by omega))
  | false => exact hb.run u1 (n + c1) H1 σ Γ post xp Q (A.step e1 B1) (by omega) (h2 rfl) (kn.go A.toWd e1 (by omega)) (kx.go A.toWd e1 (by omega))⟩
/-! ### arguments, displays -/
def tNil : TfA := fun _ M post _ => post [] M
def tCons (ta : TfE) (tr : TfA) : TfA := fun Γ M post xp => ta Γ M (fun d M1 => tr Γ M1 (fun ds M2 => post (d :: ds) M2) xp) xp
theorem pa_nil : PXA cs X W 0 [] tNil := ⟨fun u n H σ Γ post xp Q A hn q kn kx => twa_of L2.pa_nil (kn [] [] u H Nx.refl A.toWd RepL.nil q)⟩
theorem pa_cons {es : List Expr} {ta : TfE} {tr : TfA} (ha : PX cs X W c1 e ta) (hr : PXA cs X W c2 es tr) (hs : starEach (e :: es) X.env = (false, eval e X.env) :: starEach es X.env := by rfl) : PXA cs X W (c1 + c2) (e :: es) (tCons ta tr) := ⟨fun u n H σ Γ post xp Q A hn q kn kx => by
  refine twa_of (L2.pa_cons (tw_pe X e) (twa_pa X es) hs) ?_
  refine ha.run u n H σ Γ _ xp _ A (by omega) q (fun v d u1 H1 e1 B1 r1 q1 => ?_) (kx.le (by omega))
  refine hr.run u1 (n + c1) H1 σ Γ _ xp _ (A.step e1 B1) (by omega) q1 (fun vs ds u2 H2 e2 B2 r2 q2 => ?_) (kx.go A.toWd e1 (by omega))
  exact kn (v :: vs) (d :: ds) u2 H2 (e1.trans A.toWd e2) (B2.up (by omega)) (RepL.cons (r1.go B1 e2) r2) q2⟩
def tTup (tr : TfA) : TfE := fun Γ M post xp => tr Γ M (fun ds M1 => ds.length ≤ sizeLine ∧ post (.tup ds) M1) xp
def tLst (tr : TfA) : TfE := fun Γ M post xp => tr Γ M (fun ds M1 => ds.length ≤ sizeLine ∧ post (.lst ds) M1) xp
theorem px_tup {es : List Expr} {x1} {tr : TfA} (h : PXA cs X W c es tr) : PX cs X W c (.Tuple es x1 pos) (tTup tr) := ⟨fun u n H σ Γ post xp Q A hn q kn kx => by
  refine tw_of (pe_tup (twa_pa X es)) ?_
  refine h.run u n H σ Γ _ xp _ A hn q (fun vs ds u1 H1 e1 B1 r1 ⟨hz, q1⟩ => ⟨by rw [r1.length]; exact hz, fun p hp => ?_⟩) kx
  exact (kn.go A.toWd e1 (Nat.le_refl _)).tup B1 r1 q1 hp⟩
theorem px_lst {es : List Expr} {tr : TfA} (h : PXA cs X W c es tr) : PX cs X W c (.List es pos) (tLst tr) := ⟨fun u n H σ Γ post xp Q A hn q kn kx => by
  refine tw_of (pe_lst (twa_pa X es)) ?_
  refine h.run u n H σ Γ _ xp _ A hn q (fun vs ds u1 H1 e1 B1 r1 ⟨hz, q1⟩ => ⟨by rw [r1.length]; exact hz, fun p hp => ?_⟩) kx
  exact (kn.go A.toWd e1 (Nat.le_refl _)).lst B1 r1 q1 hp⟩
theorem px_dnew : PX cs X W 0 (.Dict [] [] pos) (tCon (.dic [])) := ⟨fun u n H σ Γ post xp Q A hn q kn kx => tw_of pe_dnewK fun d hd => kn.dic A.toWd (ds := []) (vs := []) rfl q hd⟩
end
end Ev
-- EvE
namespace Ev
open PySem PySem.Spec PyProof.Rows L2
/-! ### texts -/
theorem str_ext {x y : Str} (h : x.cps.toList = y.cps.toList) : x = y := by
  cases x with | mk a => cases y with | mk b =>
  have h : a = b := Array.ext' h
  rw [h]
theorem cp_app (a b : Str) : (a ++ b).cps.toList = a.cps.toList ++ b.cps.toList := cps_toList_append a b
theorem len_cp (a : Str) : a.length = a.cps.toList.length := by simp [Str.length]
def ofL (l : List Nat) : Str := ⟨l.toArray⟩
theorem cp_ofL (l : List Nat) : (ofL l).cps.toList = l := rfl
/-- c * n -/
def repS (x : Str) (n : Int) : Str := ofL (List.replicate n.toNat x.cps.toList).flatten
theorem foldl_app : ∀ (n : Nat) (a x : Array Nat), (List.replicate n x).foldl (· ++ ·) a = a ++ ((List.replicate n x.toList).flatten).toArray
  | 0, a, x => by simp
  | n + 1, a, x => by
    rw [List.replicate_succ, List.foldl_cons, foldl_app n (a ++ x) x, List.replicate_succ, List.flatten_cons]
    apply Array.ext'
    simp
theorem op_mulS {X : Cx} : OpR X (binaryOp .Mult) (fun x y H Q => ∃ (z : Str) (n : Int), x = .str z ∧ y = .int n ∧ 0 ≤ n ∧ n < 2 ^ 62 ∧ z.length * n.toNat ≤ sizeLine ∧ Q (.str (repS z n)) H) := by
  intro pins s σ H x y v u Q I rx ry h
  obtain ⟨z, n, rfl, rfl, h0, h1, h2, q⟩ := h
  obtain ⟨t, rfl⟩ := rx
  obtain ⟨t', rfl⟩ := ry
  have e62 : (2 : Int) ^ 62 < 2 ^ 63 := by decide
  refine P.mul_str ?_ (fun hn1 hnx => ?_) (fun hn1 hnx => ?_) ?_
  · rw [decide_eq_false (by omega), decide_eq_false (by omega)]; rfl
  · intro hgt
    have hn : 0 < n := by omega
    have hz : (z.length : Int) * n ≤ 2 ^ 63 - 1 := by
      have : ((z.length * n.toNat : Nat) : Int) ≤ (sizeLine : Int) := by exact_mod_cast h2
      rw [Int.natCast_mul, Int.toNat_of_nonneg h0] at this
      have e : (sizeLine : Int) ≤ 2 ^ 63 - 1 := by decide
      omega
    have := (Int.le_ediv_iff_mul_le hn).mpr hz
    omega
  · unfold Builtin.Str.tooLong
    simp
    exact h2
  · by_cases hn : n < 1
    · rw [if_pos hn]
      have e0 : n.toNat = 0 := by omega
      have : repS z n = Str.empty := by unfold repS; rw [e0]; rfl
      rw [this] at q
      exact ⟨by decide, .str Str.empty, H, I.tok _, ⟨_, rfl⟩, q⟩
    · rw [if_neg hn]
      by_cases hx : (n == 1 || z.length == 0) = true
      · rw [if_pos hx]
        have : repS z n = z := by
          rcases Bool.or_eq_true_iff.mp hx with h | h
          · have : n = 1 := by simpa using h
            subst this
            apply str_ext
            unfold repS
            rw [cp_ofL]; simp
          · have : z.cps.toList = [] := by
              have h : z.length = 0 := by simpa using h
              rw [len_cp] at h
              exact List.length_eq_zero_iff.mp h
            apply str_ext
            unfold repS
            rw [cp_ofL, this]; simp
        rw [this] at q
        exact ⟨.str z, H, I, ⟨_, rfl⟩, q⟩
      · rw [if_neg hx]
        have e : (⟨(List.replicate n.toNat z.cps).foldl (· ++ ·) #[]⟩ : Str) = repS z n := by
          rw [foldl_app]
          apply str_ext
          unfold repS
          rw [cp_ofL]; simp
        rw [e]
        refine ⟨?_, .str (repS z n), H, I.tok _, ⟨_, rfl⟩, q⟩
        rw [len_cp]
        unfold repS
        rw [cp_ofL]
        rw [len_cp] at h2
        have e2 : ∀ (k : Nat) (l : List Nat), (List.replicate k l).flatten.length = l.length * k := fun k l => by simp [Nat.mul_comm]
        rw [e2]; exact h2
/-- how often a sign stands -/
def cN (c : Nat) (z : Str) : Nat := z.cps.toList.count c
theorem count_cN (c : Nat) (z : Str) : Txt.count z ⟨#[c]⟩ = (cN c z : Int) := by
  rw [count_is]
  unfold cN
  generalize z.cps.toList = l
  induction l with
  | nil => rfl
  | cons a l ih =>
    rw [List.map_cons, List.count_cons]
    by_cases h : a = c
    · subst h
      simp [countIn, ih, same]
      try omega
    · simp [countIn, ih, same, h]
      try omega
/-! ### sorted -/
theorem lt_of_sorted : ∀ (l : List Str), sortedS l = true → l.Pairwise (fun a b => ¬ b.cps.toList < a.cps.toList)
  | [], _ => List.Pairwise.nil
  | x :: r, h => by
    have go : ∀ (p : Str) (r : List Str), risingS p r = true → (∀ y ∈ r, ¬ y.cps.toList < p.cps.toList) ∧ r.Pairwise (fun a b => ¬ b.cps.toList < a.cps.toList) := by
      intro p r
      induction r generalizing p with
      | nil => intro _; exact ⟨by simp, List.Pairwise.nil⟩
      | cons y r ih =>
        intro h
        unfold risingS at h
        rw [Bool.and_eq_true_iff] at h
        obtain ⟨h1, h2⟩ := h
        rw [ltCps_eq] at h1
        have h1 : ¬ y.cps.toList < p.cps.toList := by simpa using h1
        obtain ⟨i1, i2⟩ := ih y h2
        refine ⟨fun w hw => ?_, List.Pairwise.cons i1 i2⟩
        rcases List.mem_cons.mp hw with e | hw
        · rw [e]; exact h1
        · have := i1 w hw
          exact List.not_lt.mpr (List.le_trans (List.not_lt.mp h1) (List.not_lt.mp this))
    exact List.Pairwise.cons (go x r h).1 (go x r h).2
theorem sorted_eq {as bs : List Str} (p : as.Perm bs) (ha : sortedS as = true) (hb : sortedS bs = true) : as = bs := by
  refine List.Perm.eq_of_pairwise (le := fun a b => ¬ b.cps.toList < a.cps.toList) (fun a b _ _ h1 h2 => ?_) (lt_of_sorted as ha) (lt_of_sorted bs hb) p
  exact str_ext (List.le_antisymm (List.not_lt.mp h1) (List.not_lt.mp h2))
/-! ### data of the library's kind -/
mutual
def pyD : D → Option PyData
  | .non => some .none
  | .bl b => some (.bool b)
  | .int i => some (.int i)
  | .str x => some (.str x)
  | .tup ds => (pyL ds).map .tuple
  | .lst ds => (pyL ds).map .list
  | _ => none
def pyL : List D → Option (List PyData)
  | [] => some []
  | d :: ds => match pyD d, pyL ds with
    | some y, some ys => some (y :: ys)
    | _, _ => none
end
theorem pyL_cons {d : D} {ds : List D} {ys : List PyData} (h : pyL (d :: ds) = some ys) : ∃ y r, pyD d = some y ∧ pyL ds = some r ∧ ys = y :: r := by
  unfold pyL at h
  cases e1 : pyD d with
  | none => rw [e1] at h; cases h
  | some y =>
    cases e2 : pyL ds with
    | none => rw [e1, e2] at h; cases h
    | some r => rw [e1, e2] at h; cases h; exact ⟨y, r, rfl, rfl, rfl⟩
mutual
theorem dp_rep {K : PySem.W.Frag} {u : U} {H : Hp} : ∀ (d : D) (v : V) (y : PyData), Rep u H d v → pyD d = some y → Dp K H v y
  | .non, v, y, r, h => by rw [show v = .non from r]; cases h; exact .non
  | .bl b, v, y, r, h => by rw [show v = .bl b from r]; cases h; exact .bl b
  | .int b, v, y, r, h => by rw [show v = .int b from r]; cases h; exact .int b
  | .str b, v, y, r, h => by rw [show v = .str b from r]; cases h; exact .str b
  | .pen, v, y, r, h => by cases h
  | .ref _, v, y, r, h => by cases h
  | .cls _, v, y, r, h => by cases h
  | .ty _, v, y, r, h => by cases h
  | .loc _, v, y, r, h => by cases h
  | .dic _, v, y, r, h => by cases h
  | .obj _ _ _, v, y, r, h => by cases h
  | .exc _ _ _, v, y, r, h => by cases h
  | .fn _ _ _ _ _, v, y, r, h => by cases h
  | .tup ds, v, y, r, h => by
    obtain ⟨a, vs, e, f, g, rl⟩ := r.tupE
    have h : (pyL ds).map PyData.tuple = some y := h
    cases e1 : pyL ds with
    | none => rw [e1] at h; cases h
    | some ys => rw [e1] at h; cases h; rw [e]; exact .tup (SqT.of g) (dp_repL ds vs ys rl e1)
  | .lst ds, v, y, r, h => by
    obtain ⟨a, vs, e, f, g, rl⟩ := r.lstE
    have h : (pyL ds).map PyData.list = some y := h
    cases e1 : pyL ds with
    | none => rw [e1] at h; cases h
    | some ys => rw [e1] at h; cases h; rw [e]; exact .lst (SqL.of g) (dp_repL ds vs ys rl e1)
theorem dp_repL {K : PySem.W.Frag} {u : U} {H : Hp} : ∀ (ds : List D) (vs : List V) (ys : List PyData), RepL u H ds vs → pyL ds = some ys → DpAll K H vs ys
  | [], vs, ys, r, h => by rw [show vs = [] from r]; cases h; exact .nil
  | d :: ds, vs, ys, r, h => by
    obtain ⟨v, w, e, a, b⟩ := r.uncons
    obtain ⟨y, z, h1, h2, h3⟩ := pyL_cons h
    rw [e, h3]; exact .cons (dp_rep d v y a h1) (dp_repL ds w z b h2)
end
section
variable {cs : CS} {X : Cx} {W : WX} {c c1 c2 c3 : Nat} {a b e : Expr} {pos : Pos}
/-! ### operators on data -/
/-- ** of less than 2 ^ 27 bits -/
def CPowW (i j : Int) : Prop := 0 ≤ j ∧ (i.natAbs.log2 + 1) * j.toNat ≤ 134217728
theorem op_powW {X : Cx} : OpR X (binaryOp .Pow) (rI CPowW fun i j => .int (i ^ j.toNat)) := opI fun i j _ _ _ _ _ hc q => pow_int hc.1 (by
  have b : Builtin.Int.intBits i ≤ i.natAbs.log2 + 1 := by
    unfold Builtin.Int.intBits
    split <;> omega
  have h1 : Builtin.Int.intBits i * j.toNat ≤ 134217728 := Nat.le_trans (Nat.mul_le_mul_right _ b) hc.2
  have h2 : ((j.toNat : Nat) : Int) = j := Int.toNat_of_nonneg hc.1
  have h3 : ((Builtin.Int.intBits i * j.toNat : Nat) : Int) ≤ ((134217728 : Nat) : Int) := Int.ofNat_le.mpr h1
  rw [Int.natCast_mul, h2] at h3
  exact Int.le_trans h3 (by decide)) q
def tAdd : Tf2 := fun d1 d2 M post _ => match d1, d2 with
  | .int i, .int j => post (.int (i + j)) M
  | .int i, .bl k => post (.int (i + b2i k)) M
  | .str x, .str y => x.length + y.length ≤ sizeLine ∧ post (.str (x ++ y)) M
  | .lst x, .lst y => x.length + y.length ≤ sizeLine ∧ post (.lst (x ++ y)) M
  | .tup x, .tup y => x.length + y.length ≤ sizeLine ∧ post (.tup (x ++ y)) M
  | _, _ => False
def tSub : Tf2 := fun d1 d2 M post _ => match d1, d2 with
  | .int i, .int j => post (.int (i - j)) M
  | _, _ => False
def tMul : Tf2 := fun d1 d2 M post _ => match d1, d2 with
  | .int i, .int j => (CMul i j ∨ CMulW i j) ∧ post (.int (i * j)) M
  | .str z, .int k => (0 ≤ k ∧ k < 2 ^ 62 ∧ z.length * k.toNat ≤ sizeLine) ∧ post (.str (repS z k)) M
  | .lst x, .int k => (0 ≤ k ∧ k < 2 ^ 62 ∧ x.length * k.toNat ≤ sizeLine) ∧ post (.lst (List.replicate k.toNat x).flatten) M
  | _, _ => False
def tMod : Tf2 := fun d1 d2 M post _ => match d1, d2 with
  | .int i, .int j => 0 < j ∧ post (.int (i % j)) M
  | _, _ => False
def tFdiv : Tf2 := fun d1 d2 M post _ => match d1, d2 with
  | .int i, .int j => CDivW i j ∧ post (.int (i / j)) M
  | _, _ => False
def tPow : Tf2 := fun d1 d2 M post _ => match d1, d2 with
  | .int i, .int j => CPowW i j ∧ post (.int (i ^ j.toNat)) M
  | _, _ => False
def tLt : Tf2 := fun d1 d2 M post _ => match d1, d2 with
  | .int i, .int j => post (.bl (decide (i < j))) M
  | .str i, .str j => post (.bl (decide (i.cps.toList < j.cps.toList))) M
  | _, _ => False
def tLe : Tf2 := fun d1 d2 M post _ => match d1, d2 with
  | .int i, .int j => post (.bl (decide (i ≤ j))) M
  | .str i, .str j => post (.bl (!decide (j.cps.toList < i.cps.toList))) M
  | _, _ => False
def tGt : Tf2 := fun d1 d2 M post _ => match d1, d2 with
  | .int i, .int j => post (.bl (decide (j < i))) M
  | _, _ => False
def tGe : Tf2 := fun d1 d2 M post _ => match d1, d2 with
  | .int i, .int j => post (.bl (decide (j ≤ i))) M
  | _, _ => False
/-- == and != of scalars -/
def scv : D → Option V
  | .non => some .non | .bl b => some (.bl b) | .int i => some (.int i) | .str x => some (.str x) | _ => none
theorem scv_rep {u : U} {H : Hp} {d : D} {v w : V} (h : scv d = some v) (r : Rep u H d w) : w = v := by
  cases d <;> simp [scv] at h <;> subst h <;> exact r
def tEqS (neg : Bool) : Tf2 := fun d1 d2 M post _ => ∃ v1 v2, scv d1 = some v1 ∧ scv d2 = some v2 ∧ scal v1 v2 = true ∧ post (.bl (if neg then !decide (v1 = v2) else decide (v1 = v2))) M
def tEqP (neg : Bool) : Tf2 := fun d1 d2 M post _ => ∃ y1 y2, pyD d1 = some y1 ∧ pyD d2 = some y2 ∧ SeqAt.shaped y1 = true ∧ SeqAt.shaped y2 = true ∧ post (.bl (if neg then !PyData.eqv y1 y2 else PyData.eqv y1 y2)) M
def tEq : Tf2 := fun d1 d2 M post xp => match d1, d2 with
  | .int i, .int j => post (.bl (decide (i = j))) M
  | .str i, .str j => post (.bl (decide (i = j))) M
  | .bl i, .bl j => post (.bl (i == j)) M
  | .non, .non => post (.bl true) M
  | d1, d2 => tEqS false d1 d2 M post xp ∨ tEqP false d1 d2 M post xp
def tNe : Tf2 := fun d1 d2 M post xp => match d1, d2 with
  | .int i, .int j => post (.bl (!decide (i = j))) M
  | .str i, .str j => post (.bl (!decide (i = j))) M
  | .bl i, .bl j => post (.bl (!(i == j))) M
  | .non, .non => post (.bl false) M
  | d1, d2 => tEqS true d1 d2 M post xp ∨ tEqP true d1 d2 M post xp
/-- is None, is True, is False -/
def D.isN : D → Bool | .non => true | _ => false
def tIsN (neg : Bool) : Tf2 := fun d1 d2 M post _ => d2 = .non ∧ post (.bl (if neg then !d1.isN else d1.isN)) M
/-- a sign in a text; flat data in a list or a tuple -/
def flatD : D → Bool
  | .non => true | .bl _ => true | .int _ => true | .str _ => true | _ => false
def vD : D → V
  | .bl b => .bl b | .int i => .int i | .str x => .str x | _ => .non
def tIn (neg : Bool) : Tf2 := fun d1 d2 M post _ => match d1, d2 with
  | .str x, .str z => post (.bl (if neg then !(!(Builtin.Str.occurrences z x 0 z.length 1).isEmpty) else !(Builtin.Str.occurrences z x 0 z.length 1).isEmpty)) M
  | d, .lst ds => flatD d = true ∧ ds.all flatD = true ∧ post (.bl (if neg then !inV (vD d) (ds.map vD) else inV (vD d) (ds.map vD))) M
  | d, .tup ds => flatD d = true ∧ ds.all flatD = true ∧ post (.bl (if neg then !inV (vD d) (ds.map vD) else inV (vD d) (ds.map vD))) M
  | _, _ => False
theorem flat_rep {u : U} {H : Hp} {d : D} {v : V} (h : flatD d = true) (r : Rep u H d v) : v = vD d ∧ flatV v = true := by
  cases d <;> first | (cases h; done) | (have r := (show v = _ from r); subst r; exact ⟨rfl, rfl⟩)
theorem flat_repL {u : U} {H : Hp} : ∀ {ds : List D} {vs : List V}, ds.all flatD = true → RepL u H ds vs → vs = ds.map vD ∧ vs.all flatV = true
  | [], vs, _, r => by rw [show vs = [] from r]; exact ⟨rfl, rfl⟩
  | d :: ds, vs, h, r => by
    obtain ⟨v, w, e, a, b⟩ := r.uncons
    rw [List.all_cons, Bool.and_eq_true] at h
    obtain ⟨h1, h2⟩ := flat_rep h.1 a
    obtain ⟨h3, h4⟩ := flat_repL h.2 b
    rw [e, List.all_cons, h2, h4, List.map_cons, ← h1, ← h3]; exact ⟨rfl, rfl⟩
theorem po2_of {f : Value → Value → Sem Value} {t : Tf2} {r : R2} (h : OpR X f r) (hr : ∀ (u : U) (n : Nat) (H : Hp) (d1 d2 : D) (x y : V) (post : DP) (xp : XP) (Q : VK), Wd cs u n H → Rep u H d1 x → Rep u H d2 y → t d1 d2 u.M post xp → KN cs u n H post Q → r x y H Q) : PO2 cs X W 0 f t :=
  ⟨fun u n H σ d1 d2 x y post xp Q A hn rx ry q kn kx => to_of h (hr u n H d1 d2 x y post xp Q A rx ry q kn)⟩
theorem opr_tof {f : Value → Value → Sem Value} {r : R2} {x y : V} {H : Hp} {Q : VK} {σ : L2.St} (h : OpR X f r) (q : r x y H Q) : TO X σ f x y H Q := to_of h q
theorem po_add : PO2 cs X W 0 (binaryOp .Add) tAdd := ⟨fun u n H σ d1 d2 x y post xp Q A hn rx ry q kn kx => by
  cases d1 <;> cases d2 <;> (try exact (show False from q).elim)
  case int.int i j => exact to_of op_add ⟨i, j, rx, ry, kn.here (d := .int (i + j)) A rfl q⟩
  case int.bl i k => exact to_of op_add_ib ⟨i, k, rx, ry, kn.here (d := .int (i + b2i k)) A rfl q⟩
  case str.str i j => exact to_of op_add_str ⟨i, j, rx, ry, q.1, kn.here (d := .str (i ++ j)) A rfl q.2⟩
  case lst.lst i j =>
    obtain ⟨p, vs, e1, f1, g1, r1⟩ := rx.lstE
    obtain ⟨p2, ws, e2, f2, g2, r2⟩ := ry.lstE
    have l1 := r1.length
    have l2 := r2.length
    subst e1; subst e2
    exact to_of op_cat ⟨p, p2, vs, ws, rfl, rfl, g1, g2, by have := q.1; omega, fun q' hq => kn.lst A (r1.append r2) q.2 hq⟩
  case tup.tup i j =>
    obtain ⟨p, vs, e1, f1, g1, r1⟩ := rx.tupE
    obtain ⟨p2, ws, e2, f2, g2, r2⟩ := ry.tupE
    have l1 := r1.length
    have l2 := r2.length
    have rx0 := rx
    have ry0 := ry
    subst e1; subst e2
    refine to_of op_catA ⟨p, p2, vs, ws, rfl, rfl, SqT.of g1, SqT.of g2, by have := q.1; omega, fun hx => ?_, fun _ hy => ?_, fun _ _ q' hq => kn.tup A (r1.append r2) q.2 hq⟩
    · subst hx
      have : i = [] := by cases i with
        | nil => rfl
        | cons _ _ => simp at l1
      subst this
      exact kn.here A ry0 q.2
    · subst hy
      have : j = [] := by cases j with
        | nil => rfl
        | cons _ _ => simp at l2
      subst this
      exact kn.here A rx0 (by have := q.2; rw [List.append_nil] at this; exact this)⟩
theorem po_sub : PO2 cs X W 0 (binaryOp .Sub) tSub := ⟨fun u n H σ d1 d2 x y post xp Q A hn rx ry q kn kx => by
  cases d1 <;> cases d2 <;> (try exact (show False from q).elim)
  case int.int i j => exact to_of op_sub ⟨i, j, rx, ry, kn.here (d := .int (i - j)) A rfl q⟩⟩
theorem po_mul : PO2 cs X W 0 (binaryOp .Mult) tMul := ⟨fun u n H σ d1 d2 x y post xp Q A hn rx ry q kn kx => by
  cases d1 <;> cases d2 <;> (try exact (show False from q).elim)
  case int.int i j =>
    rcases q.1 with h | h
    · exact to_of op_mul ⟨i, j, rx, ry, h, kn.here (d := .int (i * j)) A rfl q.2⟩
    · exact to_of op_mulW ⟨i, j, rx, ry, h, kn.here (d := .int (i * j)) A rfl q.2⟩
  case str.int i j => exact to_of op_mulS ⟨i, j, rx, ry, q.1.1, q.1.2.1, q.1.2.2, kn.here (d := .str (repS i j)) A rfl q.2⟩
  case lst.int i j =>
    obtain ⟨p, vs, e1, f1, g1, r1⟩ := rx.lstE
    have l1 := r1.length
    subst e1
    obtain ⟨⟨h0, h1, h2⟩, q⟩ := q
    have e62 : (2 : Int) ^ 62 < 2 ^ 63 := by decide
    refine to_of op_rep ⟨p, j, vs, rfl, ry, g1, by omega, by omega, by rw [l1]; exact h2, fun p' hp' => kn.lst A ?_ q hp'⟩
    generalize j.toNat = k
    induction k with
    | zero => exact RepL.nil
    | succ k ih => rw [List.replicate_succ, List.replicate_succ, List.flatten_cons, List.flatten_cons]; exact r1.append ih⟩
theorem po_mod : PO2 cs X W 0 (binaryOp .Mod) tMod := ⟨fun u n H σ d1 d2 x y post xp Q A hn rx ry q kn kx => by
  cases d1 <;> cases d2 <;> (try exact (show False from q).elim)
  case int.int i j => exact to_of op_mod ⟨i, j, rx, ry, q.1, kn.here (d := .int (i % j)) A rfl q.2⟩⟩
theorem po_fdiv : PO2 cs X W 0 (binaryOp .FloorDiv) tFdiv := ⟨fun u n H σ d1 d2 x y post xp Q A hn rx ry q kn kx => by
  cases d1 <;> cases d2 <;> (try exact (show False from q).elim)
  case int.int i j => exact to_of op_fdivW ⟨i, j, rx, ry, q.1, kn.here (d := .int (i / j)) A rfl q.2⟩⟩
theorem po_pow : PO2 cs X W 0 (binaryOp .Pow) tPow := ⟨fun u n H σ d1 d2 x y post xp Q A hn rx ry q kn kx => by
  cases d1 <;> cases d2 <;> (try exact (show False from q).elim)
  case int.int i j => exact to_of op_powW ⟨i, j, rx, ry, q.1, kn.here (d := .int (i ^ j.toNat)) A rfl q.2⟩⟩
theorem po_lt : PO2 cs X W 0 (compareOp .Lt) tLt := ⟨fun u n H σ d1 d2 x y post xp Q A hn rx ry q kn kx => by
  cases d1 <;> cases d2 <;> (try exact (show False from q).elim)
  case int.int i j => exact to_of op_lt ⟨i, j, rx, ry, kn.here (d := .bl (decide (i < j))) A rfl q⟩
  case str.str i j => exact to_of op_lt_str ⟨i, j, rx, ry, kn.here (d := .bl (decide (i.cps.toList < j.cps.toList))) A rfl q⟩⟩
theorem po_le : PO2 cs X W 0 (compareOp .LtE) tLe := ⟨fun u n H σ d1 d2 x y post xp Q A hn rx ry q kn kx => by
  cases d1 <;> cases d2 <;> (try exact (show False from q).elim)
  case int.int i j => exact to_of op_le ⟨i, j, rx, ry, kn.here (d := .bl (decide (i ≤ j))) A rfl q⟩
  case str.str i j => exact to_of op_le_str ⟨i, j, rx, ry, kn.here (d := .bl (!decide (j.cps.toList < i.cps.toList))) A rfl q⟩⟩
theorem po_gt : PO2 cs X W 0 (compareOp .Gt) tGt := ⟨fun u n H σ d1 d2 x y post xp Q A hn rx ry q kn kx => by
  cases d1 <;> cases d2 <;> (try exact (show False from q).elim)
  case int.int i j => exact to_of op_gt ⟨i, j, rx, ry, kn.here (d := .bl (decide (j < i))) A rfl q⟩⟩
theorem po_ge : PO2 cs X W 0 (compareOp .GtE) tGe := ⟨fun u n H σ d1 d2 x y post xp Q A hn rx ry q kn kx => by
  cases d1 <;> cases d2 <;> (try exact (show False from q).elim)
  case int.int i j => exact to_of op_ge ⟨i, j, rx, ry, kn.here (d := .bl (decide (j ≤ i))) A rfl q⟩⟩
theorem po_eqS : PO2 cs X W 0 (compareOp .Eq) (tEqS false) := ⟨fun u n H σ d1 d2 x y post xp Q A hn rx ry ⟨v1, v2, h1, h2, hs, q⟩ kn kx => by
  rw [scv_rep h1 rx, scv_rep h2 ry]
  exact to_of op_eq ⟨hs, kn.here (d := .bl (decide (v1 = v2))) A rfl q⟩⟩
theorem po_neS : PO2 cs X W 0 (compareOp .NotEq) (tEqS true) := ⟨fun u n H σ d1 d2 x y post xp Q A hn rx ry ⟨v1, v2, h1, h2, hs, q⟩ kn kx => by
  rw [scv_rep h1 rx, scv_rep h2 ry]
  exact to_of op_ne ⟨hs, kn.here (d := .bl (!decide (v1 = v2))) A rfl q⟩⟩
theorem po_eqP (hu : X.A.units + 64 < cLine) : PO2 cs X W 0 (compareOp .Eq) (tEqP false) := ⟨fun u n H σ d1 d2 x y post xp Q A hn rx ry ⟨v1, v2, h1, h2, s1, s2, q⟩ kn kx =>
  to_of (op_eqD hu) ⟨v1, v2, dp_rep _ _ _ rx h1, dp_rep _ _ _ ry h2, s1, s2, kn.here (d := .bl (PyData.eqv v1 v2)) A rfl q⟩⟩
theorem po_neP (hu : X.A.units + 64 < cLine) : PO2 cs X W 0 (compareOp .NotEq) (tEqP true) := ⟨fun u n H σ d1 d2 x y post xp Q A hn rx ry ⟨v1, v2, h1, h2, s1, s2, q⟩ kn kx =>
  to_of (op_neD hu) ⟨v1, v2, dp_rep _ _ _ rx h1, dp_rep _ _ _ ry h2, s1, s2, kn.here (d := .bl (!PyData.eqv v1 v2)) A rfl q⟩⟩
theorem po_eq (hu : X.A.units + 64 < cLine) : PO2 cs X W 0 (compareOp .Eq) tEq := ⟨fun u n H σ d1 d2 x y post xp Q A hn rx ry q kn kx => by
  have gen : tEqS false d1 d2 u.M post xp ∨ tEqP false d1 d2 u.M post xp → TO X σ (compareOp .Eq) x y H Q := fun z => z.elim (fun z => po_eqS.run u n H σ d1 d2 x y post xp Q A hn rx ry z kn kx) (fun z => (po_eqP hu).run u n H σ d1 d2 x y post xp Q A hn rx ry z kn kx)
  cases d1 <;> cases d2 <;> first
    | exact gen q
    | exact gen (.inl ⟨_, _, rfl, rfl, rfl, by rw [dec_int, Bool.beq_eq_decide_eq]; exact q⟩)
    | exact gen (.inl ⟨_, _, rfl, rfl, rfl, by rw [dec_str, Bool.beq_eq_decide_eq]; exact q⟩)
    | exact gen (.inl ⟨_, _, rfl, rfl, rfl, by rw [dec_bl]; exact q⟩)
    | exact gen (.inl ⟨_, _, rfl, rfl, rfl, by rw [decide_eq_true rfl]; exact q⟩)⟩
theorem po_ne (hu : X.A.units + 64 < cLine) : PO2 cs X W 0 (compareOp .NotEq) tNe := ⟨fun u n H σ d1 d2 x y post xp Q A hn rx ry q kn kx => by
  have gen : tEqS true d1 d2 u.M post xp ∨ tEqP true d1 d2 u.M post xp → TO X σ (compareOp .NotEq) x y H Q := fun z => z.elim (fun z => po_neS.run u n H σ d1 d2 x y post xp Q A hn rx ry z kn kx) (fun z => (po_neP hu).run u n H σ d1 d2 x y post xp Q A hn rx ry z kn kx)
  cases d1 <;> cases d2 <;> first
    | exact gen q
    | exact gen (.inl ⟨_, _, rfl, rfl, rfl, by rw [dec_int, Bool.beq_eq_decide_eq]; exact q⟩)
    | exact gen (.inl ⟨_, _, rfl, rfl, rfl, by rw [dec_str, Bool.beq_eq_decide_eq]; exact q⟩)
    | exact gen (.inl ⟨_, _, rfl, rfl, rfl, by rw [dec_bl]; exact q⟩)
    | exact gen (.inl ⟨_, _, rfl, rfl, rfl, by rw [decide_eq_true rfl]; exact q⟩)⟩
theorem rep_isN {u : U} {H : Hp} {d : D} {v : V} (r : Rep u H d v) : decide (v = .non) = d.isN := by
  cases d with
  | cls c =>
    exact decide_eq_false (show u.k.cls[c]? = some v ∧ v ≠ .non from r).2
  | tup b => obtain ⟨a, _, e, _⟩ := r.tupE; rw [e]; rfl
  | lst b => obtain ⟨a, _, e, _⟩ := r.lstE; rw [e]; rfl
  | dic b => obtain ⟨a, _, e, _⟩ := r.dicE; rw [e]; rfl
  | obj _ C b => obtain ⟨_, _, _, e, _⟩ := r.objE; rw [e]; rfl
  | exc _ C b => obtain ⟨_, _, _, e, _⟩ := r.excE; rw [e]; rfl
  | fn _ _ _ _ _ => obtain ⟨e, _⟩ := r.fnE; rw [e]; rfl
  | loc n => obtain ⟨_, e, _⟩ := r.locE; rw [e]; rfl
  | _ => (have r := (show v = _ from r); subst r; rfl)
theorem po_isN : PO2 cs X W 0 (compareOp .Is) (tIsN false) := ⟨fun u n H σ d1 d2 x y post xp Q A hn rx ry ⟨h, q⟩ kn kx => by
  subst h
  refine to_of op_isN ⟨ry, ?_⟩
  rw [rep_isN rx]; exact kn.here (d := .bl d1.isN) A rfl q⟩
theorem po_notN : PO2 cs X W 0 (compareOp .IsNot) (tIsN true) := ⟨fun u n H σ d1 d2 x y post xp Q A hn rx ry ⟨h, q⟩ kn kx => by
  subst h
  refine to_of op_notN ⟨ry, ?_⟩
  rw [rep_isN rx]; exact kn.here (d := .bl (!d1.isN)) A rfl q⟩
theorem po_in : PO2 cs X W 0 (compareOp .In) (tIn false) := ⟨fun u n H σ d1 d2 x y post xp Q A hn rx ry q kn kx => by
  have sq : ∀ {ds : List D} {vs : List V} {a : Addr}, y = .ref a → (SqL X.K H a vs ∨ SqT X.K H a vs) → RepL u H ds vs → flatD d1 = true ∧ ds.all flatD = true ∧ post (.bl (inV (vD d1) (ds.map vD))) u.M → TO X σ (compareOp .In) x y H Q := fun {ds vs a} ey hq rl ⟨h1, h2, q⟩ => by
    obtain ⟨e1, f1⟩ := flat_rep h1 rx
    obtain ⟨e2, f2⟩ := flat_repL h2 rl
    refine to_of op_in_seq ⟨a, vs, ey, hq, f1, f2, ?_⟩
    rw [e1, e2]; exact kn.here (d := .bl _) A rfl q
  cases d2 with
  | lst ds => obtain ⟨a, vs, e, f, g, rl⟩ := ry.lstE; exact sq e (.inl (SqL.of g)) rl (by cases d1 <;> exact q)
  | tup ds => obtain ⟨a, vs, e, f, g, rl⟩ := ry.tupE; exact sq e (.inr (SqT.of g)) rl (by cases d1 <;> exact q)
  | str z =>
    cases d1 <;> (try exact (show False from q).elim)
    exact to_of op_in_str ⟨_, z, rx, ry, kn.here (d := .bl _) A rfl q⟩
  | _ => cases d1 <;> exact (show False from q).elim⟩
theorem po_nin : PO2 cs X W 0 (compareOp .NotIn) (tIn true) := ⟨fun u n H σ d1 d2 x y post xp Q A hn rx ry q kn kx => by
  have sq : ∀ {ds : List D} {vs : List V} {a : Addr}, y = .ref a → (SqL X.K H a vs ∨ SqT X.K H a vs) → RepL u H ds vs → flatD d1 = true ∧ ds.all flatD = true ∧ post (.bl (!inV (vD d1) (ds.map vD))) u.M → TO X σ (compareOp .NotIn) x y H Q := fun {ds vs a} ey hq rl ⟨h1, h2, q⟩ => by
    obtain ⟨e1, f1⟩ := flat_rep h1 rx
    obtain ⟨e2, f2⟩ := flat_repL h2 rl
    refine to_of op_notIn_seq ⟨a, vs, ey, hq, f1, f2, ?_⟩
    rw [e1, e2]; exact kn.here (d := .bl _) A rfl q
  cases d2 with
  | lst ds => obtain ⟨a, vs, e, f, g, rl⟩ := ry.lstE; exact sq e (.inl (SqL.of g)) rl (by cases d1 <;> exact q)
  | tup ds => obtain ⟨a, vs, e, f, g, rl⟩ := ry.tupE; exact sq e (.inr (SqT.of g)) rl (by cases d1 <;> exact q)
  | str z =>
    cases d1 <;> (try exact (show False from q).elim)
    exact to_of op_notIn_str ⟨_, z, rx, ry, kn.here (d := .bl _) A rfl q⟩
  | _ => cases d1 <;> exact (show False from q).elim⟩
def tNeg : Tf1 := fun d M post _ => match d with
  | .int i => post (.int (-i)) M
  | _ => False
theorem po_neg : PO1 cs X W 0 (unaryOp .USub) tNeg := ⟨fun u n H σ d1 x post xp Q A hn rx q kn kx => by
  cases d1 <;> (try exact (show False from q).elim)
  case int i => exact tu_of un_neg ⟨i, rx, kn.here (d := .int (-i)) A rfl q⟩⟩
end
end Ev
-- EvF
namespace Ev
open PySem PySem.Spec PyProof.Rows L2
/-- a subscript by values -/
structure PIx (cs : CS) (X : Cx) (W : WX) (c : Nat) (t : Tf2) : Prop where
  run : ∀ (u : U) (n : Nat) (H : Hp) (σ : L2.St) (d1 d2 : D) (x y : V) (post : DP) (xp : XP) (Q : VK), Wd cs u n H → n + c ≤ lim → Rep u H d1 x → Rep u H d2 y → t d1 d2 u.M post xp → KN cs u (n + c) H post Q → KX cs u (n + c) H σ xp W →
    ∀ (value slice : Expr) (pins : List (Addr × Obj)) (s : Shared) (v w : Value), Inv X pins σ H s → RelV x v → RelV y w → subscripted slice false v w = operate [v, w] (getItem v w) → wpAny (model X.prog X.w) X.A (subscriptTail value slice v w) (EP X pins σ Q) X.xe s
section
variable {cs : CS} {X : Cx} {W : WX} {c c1 c2 c3 : Nat} {a b e : Expr} {pos : Pos}
theorem px_ix {ta tb : TfE} {tf : Tf2} (ha : PX cs X W c1 a ta) (hb : PX cs X W c2 b tb) (ho : PIx cs X W c3 tf) (hs : PlainIx b := by exact fun _ _ => rfl) : PX cs X W (c1 + c2 + c3) (.Subscript a b pos) (tBin ta tb tf) := ⟨fun u n H σ Γ post xp Q A hn q kn kx => TW.mk fun pins s I => by
  refine Subscript_ (thn (ha.run u n H σ Γ _ xp (fun x H1 => ∀ s1 v, Inv X pins σ H1 s1 → RelV x v → wpAny (model X.prog X.w) X.A (eval b X.env) (fun y s₂ => wpAny (model X.prog X.w) X.A (subscriptTail a b v y) (EP X pins σ Q) X.xe s₂) X.xe s1) A (by omega) q (fun x d1 u1 H1 e1 B1 r1 q1 s1 v I1 rv => ?_) (kx.le (by omega)) pins s I) fun v s1 ⟨x, H1, I1, rv, q⟩ => q s1 v I1 rv)
  refine thn (hb.run u1 (n + c1) H1 σ Γ _ xp (fun y H2 => ∀ s2 w, Inv X pins σ H2 s2 → RelV y w → wpAny (model X.prog X.w) X.A (subscriptTail a b v w) (EP X pins σ Q) X.xe s2) (A.step e1 B1) (by omega) q1 (fun y d2 u2 H2 e2 B2 r2 q2 s2 w I2 rw' => ?_) (kx.go A.toWd e1 (by omega)) pins s1 I1) fun w s2 ⟨y, H2, I2, rw', q⟩ => q s2 w I2 rw'
  have e12 := e1.trans A.toWd e2
  exact ho.run u2 (n + c1 + c2) H2 σ d1 d2 x y post xp Q B2 (by omega) (r1.go B1 e2) r2 q2 (kn.go A.toWd e12 (by omega)) (kx.go A.toWd e12 (by omega)) a b pins s2 v w I2 rv rw' (hs v w)⟩
theorem PIx.or {t1 t2 : Tf2} (h1 : PIx cs X W c1 t1) (h2 : PIx cs X W c2 t2) : PIx cs X W (c1 + c2) (fun d d2 M post xp => t1 d d2 M post xp ∨ t2 d d2 M post xp) := ⟨fun u n H σ d d2 x y post xp Q A hn rx ry h kn kx => by
  rcases h with h | h
  · exact h1.run u n H σ d d2 x y post xp Q A (by omega) rx ry h (kn.le (by omega)) (kx.le (by omega))
  · exact h2.run u n H σ d d2 x y post xp Q A (by omega) rx ry h (kn.le (by omega)) (kx.le (by omega))⟩
def keyD : D → Option Key
  | .int i => some (.inl i) | .str x => some (.inr x) | _ => none
def lkK (kvs : List (Key × D)) (k : Key) : Option D := (kvs.find? fun kv => decide (kv.1 = k)).map (·.2)
theorem key_rep {u : U} {H : Hp} {d : D} {k : Key} {v : V} (h : keyD d = some k) (r : Rep u H d v) : v = kV k := by
  cases d <;> first | (cases h; done) | (cases h; exact r)
theorem RepK.val {u : U} {H : Hp} {k : Key} : ∀ {kvs : List (Key × D)} {us : List (Key × V)}, RepK u H kvs us → (∀ d, lkK kvs k = some d → ∃ v, valV us k = some v ∧ Rep u H d v) ∧ (lkK kvs k = none → valV us k = none)
  | [], us, h => by rw [show us = [] from h]; exact ⟨fun d z => by simp [lkK] at z, fun _ => rfl⟩
  | (q, d) :: kvs, us, h => by
    obtain ⟨v, r, e, a, b⟩ := (show ∃ v r, us = (q, v) :: r ∧ Rep u H d v ∧ RepK u H kvs r from h)
    have ih := RepK.val (k := k) b
    subst e
    by_cases e : q = k
    · refine ⟨fun d' z => ⟨v, valV_pos (p := (q, v)) e, ?_⟩, fun z => ?_⟩
      · simp [lkK, List.find?_cons, e] at z
        rw [← z]; exact a
      · simp [lkK, List.find?_cons, e] at z
    · have z1 : lkK ((q, d) :: kvs) k = lkK kvs k := by simp [lkK, List.find?_cons, e]
      rw [valV_neg (p := (q, v)) e, z1]; exact ih
def tIx : Tf2 := fun d1 d2 M post _ => match d1, d2 with
  | .lst ds, .int i => ∃ d, atI ds i = some d ∧ post d M
  | .tup ds, .int i => ∃ d, atI ds i = some d ∧ post d M
  | .str z, .int i => z.length ≤ sizeLine ∧ ∃ ch, atI z.cps.toList i = some ch ∧ post (.str ⟨#[ch]⟩) M
  | .dic kvs, k => ∃ q d, keyD k = some q ∧ lkK kvs q = some d ∧ post d M
  | .loc n, k => match M[n]? with
    | some (.li ds) => ∃ i d, k = .int i ∧ atI ds i = some d ∧ post d M
    | some (.di kvs) => ∃ q d, keyD k = some q ∧ lkK kvs q = some d ∧ post d M
    | _ => False
  | _, _ => False
theorem at_rep {u : U} {H : Hp} {ds : List D} {d : D} {vs : List V} {i : Int} (rl : RepL u H ds vs) (hd : atI ds i = some d) : ∃ v', atI vs i = some v' ∧ Rep u H d v' := by
  unfold atI at hd ⊢
  rw [rl.length]
  cases hi : ixN ds.length i with
  | none => rw [hi] at hd; cases hd
  | some j => rw [hi] at hd; exact rl.get hd
theorem pix_dict {H : Hp} {σ : L2.St} {Q : VK} {a : Addr} {us : List (Key × V)} {k : Key} {w' : V} (hu : X.A.units + 1 < cLine) (g : H a = some (.dK us)) (hv : valV us k = some w') (q : Q w' H) (value slice : Expr) (pins : List (Addr × Obj)) (s : Shared) (w : Value) (I : Inv X pins σ H s) (rw : RelV (kV k) w) (hs : subscripted slice false (.ref a) w = operate [.ref a, w] (getItem (.ref a) w)) :
    wpAny (model X.prog X.w) X.A (subscriptTail value slice (.ref a) w) (EP X pins σ Q) X.xe s := by
  have dg : DGet H a (kV k) (some w') := by rw [← hv]; exact DGet.k g
  have h2 : wpAny (model X.prog X.w) X.A (getItem (.ref a) w) (EP X pins σ Q) X.xe s := d_getItem hu I dg rw fun w2 s3 I3 rw' => ⟨w', H, I3, rw', q⟩
  have hT := dict_typeIs I dg
  unfold subscriptTail
  refine wpAny_bind ?_
  rw [getitemInPython_of_ne hT.not_modules]
  refine wpAny_bind (wpAny_specialOf hT PySem.F.slot_dict_getitem.lookup ?_)
  have fin : wpAny (model X.prog X.w) X.A (subscripted slice false (.ref a) w) (fun r s₃ => wpAny (model X.prog X.w) X.A (letTemporaryGo value (.ref a) r >>= fun _ => pure r) (EP X pins σ Q) X.xe s₃) X.xe s := by
    rw [hs]
    exact wpAny_operating (wpAny_mono h2 (fun r s₃ h₃ => wpAny_bind (wpAny_letTemporaryGo (wpAny_pure h₃))) fun _ _ x => x)
  first
    | exact wpAny_pure (wpAny_bind fin)
    | exact wpAny_bind (wpAny_pure (wpAny_bind fin))
    | exact wpAny_bind fin
theorem pix_std (hu : X.A.units + 1 < cLine) : PIx cs X W 0 tIx := ⟨fun u n H σ d1 d2 x y post xp Q A hn rx ry q kn kx value slice pins s v w I rv rw hs => by
  have dict : ∀ {kvs : List (Key × D)} {us : List (Key × V)} {a : Addr}, x = .ref a → H a = some (.dK us) → RepK u H kvs us → (∃ q d, keyD d2 = some q ∧ lkK kvs q = some d ∧ post d u.M) → wpAny (model X.prog X.w) X.A (subscriptTail value slice v w) (EP X pins σ Q) X.xe s := fun {kvs us a} ex g rk ⟨k, d, hk, hl, qq⟩ => by
    subst ex
    obtain rfl : v = Value.ref a := rv
    obtain ⟨w', hv, rd⟩ := rk.val.1 d hl
    have ey := key_rep hk ry
    subst ey
    exact pix_dict hu g hv (kn.here A rd qq) value slice pins s w I rw hs
  have seq : ∀ {ds : List D} {vs : List V} {a : Addr}, x = .ref a → (SqL X.K H a vs ∨ SqT X.K H a vs) → RepL u H ds vs → (∃ i d, d2 = .int i ∧ atI ds i = some d ∧ post d u.M) → wpAny (model X.prog X.w) X.A (subscriptTail value slice v w) (EP X pins σ Q) X.xe s := fun {ds vs a} ex hq rl ⟨i, d, hk, hd, qq⟩ => by
    subst ex; subst hk
    obtain ⟨v', hv, rd⟩ := at_rep rl hd
    have ry : y = .int i := ry
    rcases hq with g | g
    · exact ix_list value slice pins s σ H _ y v w Q I rv rw ⟨a, vs, i, v', rfl, ry, g, hv, kn.here A rd qq⟩ hs
    · exact ix_tup value slice pins s σ H _ y v w Q I rv rw ⟨a, vs, i, v', rfl, ry, g, hv, kn.here A rd qq⟩ hs
  cases d1 with
  | lst ds =>
    obtain ⟨a, vs, e, f, g, rl⟩ := rx.lstE
    cases d2 <;> (try exact (show False from q).elim)
    exact seq e (.inl (SqL.of g)) rl ⟨_, _, rfl, q.choose_spec⟩
  | tup ds =>
    obtain ⟨a, vs, e, f, g, rl⟩ := rx.tupE
    cases d2 <;> (try exact (show False from q).elim)
    exact seq e (.inr (SqT.of g)) rl ⟨_, _, rfl, q.choose_spec⟩
  | str z =>
    cases d2 <;> (try exact (show False from q).elim)
    obtain ⟨hz, ch, hc, q⟩ := q
    exact ix_str value slice pins s σ H x y v w Q I rv rw ⟨z, _, ch, rx, ry, hz, hc, kn.here (d := .str ⟨#[ch]⟩) A rfl q⟩ hs
  | dic kvs =>
    obtain ⟨a, us, e, f, g, rk⟩ := rx.dicE
    exact dict e g rk (by cases d2 <;> exact q)
  | loc i =>
    obtain ⟨a, ev, hm⟩ := rx.locE
    have q : (match u.M[i]? with
      | some (.li ds) => ∃ i d, d2 = .int i ∧ atI ds i = some d ∧ post d u.M
      | some (.di kvs) => ∃ q d, keyD d2 = some q ∧ lkK kvs q = some d ∧ post d u.M
      | _ => False) := by cases d2 <;> exact q
    cases hc : u.M[i]? with
    | none => rw [hc] at q; exact q.elim
    | some cl =>
      rw [hc] at q
      have ok := A.cell i a cl hm hc
      cases cl with
      | dead => exact q.elim
      | ins _ _ => exact q.elim
      | li ds => obtain ⟨vs, g, rl⟩ := ok; exact seq ev (.inl (SqL.of g)) rl q
      | di kvs => obtain ⟨us, g, rk⟩ := ok; exact dict ev g rk q
  | _ => cases d2 <;> exact (show False from q).elim⟩
/-! ### slices -/
structure PXP (cs : CS) (X : Cx) (W : WX) (c : Nat) (e : Option Expr) (t : Gm → Store → (Option Int → Store → Prop) → XP → Prop) : Prop where
  run : ∀ (u : U) (n : Nat) (H : Hp) (σ : L2.St) (Γ : Gm) (post : Option Int → Store → Prop) (xp : XP) (Q : Option Int → Hp → Prop), At cs u n H σ Γ → n + c ≤ lim → t Γ u.M post xp → (∀ o u' H', Nx u H u' H' → Wd cs u' (n + c) H' → post o u'.M → Q o H') → KX cs u (n + c) H σ xp W →
    ∀ (pins : List (Addr × Obj)) (s : Shared), Inv X pins σ H s → wpAny (model X.prog X.w) X.A (evalPart e X.env) (fun u s' => ∃ o H', Inv X pins σ H' s' ∧ IsPart u o ∧ Q o H') X.xe s
def tNo : Gm → Store → (Option Int → Store → Prop) → XP → Prop := fun _ M post _ => post none M
def tSome (t : TfE) : Gm → Store → (Option Int → Store → Prop) → XP → Prop := fun Γ M post xp => t Γ M (fun d M1 => ∃ i, d = .int i ∧ post (some i) M1) xp
theorem pp_none : PXP cs X W 0 none tNo := ⟨fun u n H σ Γ post xp Q A hn q kn kx pins s I => po_none.run pins s σ H Q I (kn none u H Nx.refl A.toWd q)⟩
theorem pp_some {t : TfE} (h : PX cs X W c e t) : PXP cs X W c (some e) (tSome t) := ⟨fun u n H σ Γ post xp Q A hn q kn kx pins s I => by
  refine (po_some (tw_pe X e)).run pins s σ H Q I ?_
  refine h.run u n H σ Γ _ xp _ A hn q (fun v d u1 H1 e1 B1 r1 ⟨i, ed, q1⟩ => ?_) kx
  subst ed
  exact ⟨i, r1, kn (some i) u1 H1 e1 B1 q1⟩⟩
def cutD (xs : List D) (lo hi : Option Int) : List D := (xs.drop (HT.sIx xs.length 0 lo)).take (HT.sIx xs.length xs.length hi - HT.sIx xs.length 0 lo)
theorem RepL.cut {u : U} {H : Hp} {ds : List D} {vs : List V} (h : RepL u H ds vs) (lo hi : Option Int) : RepL u H (cutD ds lo hi) (cutV vs lo hi) := by
  unfold cutD cutV
  rw [h.length]
  exact (h.drop _).take _
theorem cutD_whole {ds : List D} {lo hi : Option Int} (h : HT.sIx ds.length 0 lo = 0 ∧ HT.sIx ds.length ds.length hi = ds.length) : cutD ds lo hi = ds := by
  unfold cutD
  rw [h.1, h.2]; simp
def tSl (te : TfE) (tl th : Gm → Store → (Option Int → Store → Prop) → XP → Prop) : TfE := fun Γ M post xp => te Γ M (fun d M1 => tl Γ M1 (fun l M2 => th Γ M2 (fun h M3 => match d with
  | .lst ds => post (.lst (cutD ds l h)) M3
  | .tup ds => post (.tup (cutD ds l h)) M3
  | .str z => z.length ≤ sizeLine ∧ post (.str (cutS z l h)) M3
  | .loc n => match M3[n]? with
    | some (.li ds) => post (.lst (cutD ds l h)) M3
    | _ => False
  | _ => False) xp) xp) xp
theorem px_sl {lo hi : Option Expr} {p2 : Pos} {te : TfE} {tl th : Gm → Store → (Option Int → Store → Prop) → XP → Prop} (he : PX cs X W c1 e te) (hl : PXP cs X W c2 lo tl) (hh : PXP cs X W c3 hi th) : PX cs X W (c1 + c2 + c3) (.Subscript e (.Slice lo hi none p2) pos) (tSl te tl th) := ⟨fun u n H σ Γ post xp Q A hn q kn kx => TW.mk fun pins s I => by
  have core : PE X (.Subscript e (.Slice lo hi none p2) pos) (L2.tSl (fun x lo hi H Q => rSlL X.K x lo hi H Q ∨ rSlS x lo hi H Q ∨ rSlA X.K x lo hi H Q) (TW X e) (fun σ H Q => ∀ pins s, Inv X pins σ H s → wpAny (model X.prog X.w) X.A (evalPart lo X.env) (fun u s' => ∃ o H', Inv X pins σ H' s' ∧ IsPart u o ∧ Q o H') X.xe s)
      (fun σ H Q => ∀ pins s, Inv X pins σ H s → wpAny (model X.prog X.w) X.A (evalPart hi X.env) (fun u s' => ∃ o H', Inv X pins σ H' s' ∧ IsPart u o ∧ Q o H') X.xe s)) :=
    pe_slice (SlR.or sl_list (SlR.or sl_str sl_tupA)) (tw_pe X e) ⟨fun pins s σ H Q I h => h pins s I⟩ ⟨fun pins s σ H Q I h => h pins s I⟩
  refine core.run pins s σ H Q I ?_
  refine he.run u n H σ Γ _ xp _ A (by omega) q (fun v d u1 H1 e1 B1 r1 q1 => ?_) (kx.le (by omega))
  refine hl.run u1 (n + c1) H1 σ Γ _ xp _ (A.step e1 B1) (by omega) q1 (fun l u2 H2 e2 B2 q2 => ?_) (kx.go A.toWd e1 (by omega))
  have e12 := e1.trans A.toWd e2
  refine hh.run u2 (n + c1 + c2) H2 σ Γ _ xp _ (A.step e12 B2) (by omega) q2 (fun o u3 H3 e3 B3 q3 => ?_) (kx.go A.toWd e12 (by omega))
  have e123 := e12.trans A.toWd e3
  have r3 := (r1.go B1 e2).go B2 e3
  have K3 := kn.go A.toWd e123 (l := n + c1 + c2 + c3) (by omega)
  cases d with
  | lst ds =>
    obtain ⟨a', vs, ev, f, g, rl⟩ := r3.lstE
    exact .inl ⟨a', vs, ev, SqL.of g, fun p hp => K3.lst B3 (rl.cut l o) q3 hp⟩
  | str z => exact .inr (.inl ⟨z, r3, q3.1, K3.here (d := .str (cutS z l o)) B3 rfl q3.2⟩)
  | tup ds =>
    obtain ⟨a', vs, ev, f, g, rl⟩ := r3.tupE
    refine .inr (.inr ⟨a', vs, ev, SqT.of g, fun hw => ?_, fun _ p hp => K3.tup B3 (rl.cut l o) q3 hp⟩)
    rw [rl.length] at hw
    have q3 : post (.tup (cutD ds l o)) u3.M := q3
    rw [cutD_whole hw] at q3
    exact K3.here (d := .tup ds) B3 (by rw [ev] at r3; exact r3) q3
  | loc i =>
    obtain ⟨a', ev, hm⟩ := r3.locE
    have q3 : (match u3.M[i]? with
      | some (.li ds) => post (.lst (cutD ds l o)) u3.M
      | _ => False) := q3
    cases hc : u3.M[i]? with
    | none => rw [hc] at q3; exact q3.elim
    | some cl =>
      rw [hc] at q3
      have ok := B3.cell i a' cl hm hc
      cases cl with
      | li ds =>
        obtain ⟨vs, g, rl⟩ := ok
        exact .inl ⟨a', vs, ev, SqL.of g, fun p hp => K3.lst B3 (rl.cut l o) q3 hp⟩
      | _ => exact q3.elim
  | _ => exact (show False from q3).elim⟩
/-! ### built-in functions and types, called by name -/
def tCall (ta : TfA) (tf : TfC) : TfE := fun Γ M post xp => ta Γ M (fun ds M1 => tf ds M1 post xp) xp
theorem px_callB {id : String} {x : Str} {p : Pos} {es : List Expr} {ta : TfA} {tf : TfC} (hm : X.mg x = none) (ha : PXA cs X W c1 (e :: es) ta) (ho : POC cs X W c2 (.builtin id) tf) (hv : bootBuiltins x = some (.builtin id) := by decide +kernel) (hg : Gl X x := by rfl) (hn' : x ≠ "__name__" := by decide) (hdb : (x == ("__debug__" : Str)) = false := by decide)
    (he : starEach (e :: es) X.env = (false, eval e X.env) :: starEach es X.env := by rfl) (hpl : (backTo pos (starEach es X.env)).any (·.1) = false := by rfl) : PX cs X W (c1 + c2) (.Call (.Name x p) (e :: es) [] pos) (tCall ta tf) := ⟨fun u n H σ Γ post xp Q A hn q kn kx => TW.mk fun pins s I => by
  refine wpAny_Call_Name_kw (ld_blt I hg hm hv ?_ hn' hdb)
  refine PyProof.Rows.callWith_builtin1 (thn (ha.run u n H σ Γ _ xp (fun vs H1 => ∀ s1 us, Inv X pins σ H1 s1 → Vals vs us → wpAny (model X.prog X.w) X.A (call (.builtin id) us) (EP X pins σ Q) X.xe s1) A (by omega) q (fun vs ds u1 H1 e1 B1 r1 q1 s1 us I1 ru => ?_) (kx.le (by omega)) pos pins s I) fun us s1 ⟨vs, H1, I1, r1, q1⟩ => q1 s1 us I1 r1) he hpl
  exact ho.run u1 (n + c1) H1 σ ds vs post xp Q B1 (by omega) r1 q1 (kn.go A.toWd e1 (by omega)) (kx.go A.toWd e1 (by omega)) pins s1 us I1 ru⟩
theorem px_callTy {T : String} {x : Str} {p : Pos} {es : List Expr} {ta : TfA} {tf : TfC} (hm : X.mg x = none) (ha : PXA cs X W c1 (e :: es) ta) (ho : POC cs X W c2 (.type T) tf) (hv : bootBuiltins x = some (.type T) := by decide +kernel) (hg : Gl X x := by rfl) (hn' : x ≠ "__name__" := by decide) (hdb : (x == ("__debug__" : Str)) = false := by decide)
    (he : starEach (e :: es) X.env = (false, eval e X.env) :: starEach es X.env := by rfl) (hpl : (backTo pos (starEach es X.env)).any (·.1) = false := by rfl) : PX cs X W (c1 + c2) (.Call (.Name x p) (e :: es) [] pos) (tCall ta tf) := ⟨fun u n H σ Γ post xp Q A hn q kn kx => TW.mk fun pins s I => by
  refine wpAny_Call_Name_kw (ld_blt I hg hm hv ?_ hn' hdb)
  refine PyProof.Rows.callWith_type1 (thn (ha.run u n H σ Γ _ xp (fun vs H1 => ∀ s1 us, Inv X pins σ H1 s1 → Vals vs us → wpAny (model X.prog X.w) X.A (call (.type T) us) (EP X pins σ Q) X.xe s1) A (by omega) q (fun vs ds u1 H1 e1 B1 r1 q1 s1 us I1 ru => ?_) (kx.le (by omega)) pos pins s I) fun us s1 ⟨vs, H1, I1, r1, q1⟩ => q1 s1 us I1 r1) he hpl
  exact ho.run u1 (n + c1) H1 σ ds vs post xp Q B1 (by omega) r1 q1 (kn.go A.toWd e1 (by omega)) (kx.go A.toWd e1 (by omega)) pins s1 us I1 ru⟩
/-- a rule of the layer, nothing raised, no draw -/
theorem poc_of {f : Value} {t : TfC} {r : List V → Hp → VK → Prop} (h : CallR X f r) (hr : ∀ (u : U) (n : Nat) (H : Hp) (ds : List D) (xs : List V) (post : DP) (xp : XP) (Q : VK), Wd cs u n H → RepL u H ds xs → t ds u.M post xp → KN cs u n H post Q → r xs H Q) : POC cs X W 0 f t :=
  ⟨fun u n H σ ds xs post xp Q A hn rx q kn kx => tc_of h (hr u n H ds xs post xp Q A rx q kn)⟩
/-- what is a list or a tuple: its items -/
def seqOf (M : Store) : D → Option (List D)
  | .lst ds => some ds
  | .tup ds => some ds
  | .loc n => match M[n]? with | some (.li ds) => some ds | _ => none
  | _ => none
theorem seq_rep {K : PySem.W.Frag} {u : U} {n : Nat} {H : Hp} {d : D} {ds : List D} {x : V} (A : Wd cs u n H) (h : seqOf u.M d = some ds) (r : Rep u H d x) : ∃ a vs, x = .ref a ∧ (SqL K H a vs ∨ SqT K H a vs) ∧ RepL u H ds vs := by
  cases d with
  | lst es => cases h; obtain ⟨a, vs, e, f, g, rl⟩ := r.lstE; exact ⟨a, vs, e, .inl (SqL.of g), rl⟩
  | tup es => cases h; obtain ⟨a, vs, e, f, g, rl⟩ := r.tupE; exact ⟨a, vs, e, .inr (SqT.of g), rl⟩
  | loc i =>
    obtain ⟨a, e, hm⟩ := r.locE
    unfold seqOf at h
    dsimp only at h
    cases hc : u.M[i]? with
    | none => rw [hc] at h; cases h
    | some cl =>
      rw [hc] at h
      have ok := A.cell i a cl hm hc
      cases cl with
      | li es => cases h; obtain ⟨vs, g, rl⟩ := ok; exact ⟨a, vs, e, .inl (SqL.of g), rl⟩
      | _ => cases h
  | _ => cases h
def dicOf (M : Store) : D → Option (List (Key × D))
  | .dic ds => some ds
  | .loc n => match M[n]? with | some (.di ds) => some ds | _ => none
  | _ => none
theorem dic_rep {u : U} {n : Nat} {H : Hp} {d : D} {ds : List (Key × D)} {x : V} (A : Wd cs u n H) (h : dicOf u.M d = some ds) (r : Rep u H d x) : ∃ a vs, x = .ref a ∧ H a = some (.dK vs) ∧ RepK u H ds vs := by
  cases d with
  | dic es => cases h; obtain ⟨a, vs, e, f, g, rl⟩ := r.dicE; exact ⟨a, vs, e, g, rl⟩
  | loc i =>
    obtain ⟨a, e, hm⟩ := r.locE
    unfold dicOf at h
    dsimp only at h
    cases hc : u.M[i]? with
    | none => rw [hc] at h; cases h
    | some cl =>
      rw [hc] at h
      have ok := A.cell i a cl hm hc
      cases cl with
      | di es => cases h; obtain ⟨vs, g, rl⟩ := ok; exact ⟨a, vs, e, g, rl⟩
      | _ => cases h
  | _ => cases h
/-- what a one-place built-in makes of its argument -/
abbrev TfC.one (t : D → Store → DP → Prop) : TfC := fun ds M post _ => ∃ d, ds = [d] ∧ t d M post
def tLen : TfC := TfC.one fun d M post => match d with
  | .str z => z.length ≤ sizeLine ∧ post (.int z.length) M
  | d => (∃ ds, seqOf M d = some ds ∧ post (.int ds.length) M) ∨ ∃ kvs, dicOf M d = some kvs ∧ post (.int kvs.length) M
theorem po_len : POC cs X W 0 (.builtin "len") tLen := ⟨fun u n H σ ds xs post xp Q A hn rx hq kn kx => by
  obtain ⟨d, ed, q⟩ := hq
  subst ed
  obtain ⟨x, e, r⟩ := rx.one
  subst e
  have gen : ((∃ ds, seqOf u.M d = some ds ∧ post (.int ds.length) u.M) ∨ ∃ kvs, dicOf u.M d = some kvs ∧ post (.int kvs.length) u.M) → TC X σ (.builtin "len") [x] H Q := fun h => by
    rcases h with ⟨ds, hs, q⟩ | ⟨ds, hs, q⟩
    · obtain ⟨a, vs, e, hq, rl⟩ := seq_rep (K := X.K) A hs r
      exact tc_of call_len_seq ⟨a, vs, by rw [e], hq, by rw [rl.length]; exact kn.here (d := .int ds.length) A rfl q⟩
    · obtain ⟨a, vs, e, hq, rl⟩ := dic_rep A hs r
      exact tc_of call_lenD ⟨a, vs, by rw [e], hq, by rw [rl.length]; exact kn.here (d := .int ds.length) A rfl q⟩
  cases d <;> first
    | exact gen q
    | exact tc_of call_len_str ⟨_, by rw [show x = .str _ from r], q.1, kn.here (d := .int _) A rfl q.2⟩⟩
def tInt : TfC := TfC.one fun d M post => match d with
  | .int i => post (.int i) M
  | .bl k => post (.int (if k then 1 else 0)) M
  | .str z => ∃ i, PySem.intText? z = some i ∧ z.length ≤ 640 ∧ post (.int i) M
  | _ => False
theorem po_int : POC cs X W 0 (.type "int") tInt := ⟨fun u n H σ ds xs post xp Q A hn rx hq kn kx => by
  obtain ⟨d, ed, q⟩ := hq
  subst ed
  obtain ⟨x, e, r⟩ := rx.one
  subst e
  cases d <;> (try exact (show False from q).elim)
  case int i => exact tc_of call_int1 (.inl ⟨i, by rw [show x = .int i from r], kn.here (d := .int i) A rfl q⟩)
  case bl i => exact tc_of call_int1 (.inr ⟨i, by rw [show x = .bl i from r], kn.here (d := .int (if i then 1 else 0)) A rfl q⟩)
  case str z => obtain ⟨i, h1, h2, q⟩ := q; exact tc_of call_int_str ⟨z, i, by rw [show x = .str z from r], h1, h2, kn.here (d := .int i) A rfl q⟩⟩
def tAbs : TfC := TfC.one fun d M post => match d with
  | .int i => post (.int (if i < 0 then -i else i)) M
  | _ => False
theorem po_abs : POC cs X W 0 (.builtin "abs") tAbs := ⟨fun u n H σ ds xs post xp Q A hn rx hq kn kx => by
  obtain ⟨d, ed, q⟩ := hq
  subst ed
  obtain ⟨x, e, r⟩ := rx.one
  subst e
  cases d <;> (try exact (show False from q).elim)
  case int i => exact tc_of call_abs ⟨i, by rw [show x = .int i from r], kn.here (d := .int (if i < 0 then -i else i)) A rfl q⟩⟩
def tBool : TfC := TfC.one fun d M post => match d with
  | .int i => post (.bl (i != 0)) M
  | .bl k => post (.bl k) M
  | _ => False
theorem po_bool : POC cs X W 0 (.type "bool") tBool := ⟨fun u n H σ ds xs post xp Q A hn rx hq kn kx => by
  obtain ⟨d, ed, q⟩ := hq
  subst ed
  obtain ⟨x, e, r⟩ := rx.one
  subst e
  cases d <;> (try exact (show False from q).elim)
  case int i => exact tc_of call_bool1 (.inl ⟨i, by rw [show x = .int i from r], kn.here (d := .bl (i != 0)) A rfl q⟩)
  case bl i => exact tc_of call_bool1 (.inr ⟨i, by rw [show x = .bl i from r], kn.here (d := .bl i) A rfl q⟩)⟩
def tStr : TfC := TfC.one fun d M post => match d with
  | .int i => i.natAbs.log2 < 1920 ∧ post (.str (toString i)) M
  | .str z => post (.str z) M
  | _ => False
theorem po_str : POC cs X W 0 (.type "str") tStr := ⟨fun u n H σ ds xs post xp Q A hn rx hq kn kx => by
  obtain ⟨d, ed, q⟩ := hq
  subst ed
  obtain ⟨x, e, r⟩ := rx.one
  subst e
  cases d <;> (try exact (show False from q).elim)
  case int i => exact tc_of call_str_int ⟨i, by rw [show x = .int i from r], q.1, kn.here (d := .str (toString i)) A rfl q.2⟩
  case str z => exact tc_of SkE.call_str_str ⟨z, by rw [show x = .str z from r], kn.here (d := .str z) A rfl q⟩⟩
def tList : TfC := TfC.one fun d M post => ∃ ds, seqOf M d = some ds ∧ post (.lst ds) M
theorem po_list : POC cs X W 0 (.type "list") tList := ⟨fun u n H σ ds xs post xp Q A hn rx hq kn kx => by
  obtain ⟨d, ed, es, hs, q⟩ := hq
  subst ed
  obtain ⟨x, e, r⟩ := rx.one
  subst e
  obtain ⟨a, vs, e, hq, rl⟩ := seq_rep (K := X.K) A hs r
  exact tc_of call_list_of ⟨a, vs, by rw [e], hq, fun l hl => kn.lst A rl q hl⟩⟩
def tTuple : TfC := TfC.one fun d M post => ∃ ds, seqOf M d = some ds ∧ post (.tup ds) M
theorem po_tuple : POC cs X W 0 (.type "tuple") tTuple := ⟨fun u n H σ ds xs post xp Q A hn rx hq kn kx => by
  obtain ⟨d, ed, es, hs, q⟩ := hq
  subst ed
  obtain ⟨x, e, r⟩ := rx.one
  subst e
  cases d with
  | tup ds' =>
    cases hs
    obtain ⟨a, vs, e, f, g, rl⟩ := r.tupE
    refine tc_of call_tuple_of ⟨a, vs, by rw [e], .inr ⟨SqT.of g, ?_⟩⟩
    exact kn.here (d := .tup es) A (by rw [← e]; exact r) q
  | lst ds' =>
    cases hs
    obtain ⟨a, vs, e, f, g, rl⟩ := r.lstE
    exact tc_of call_tuple_of ⟨a, vs, by rw [e], .inl ⟨SqL.of g, fun l hl => kn.tup A rl q hl⟩⟩
  | loc i =>
    obtain ⟨a, e, hm⟩ := r.locE
    unfold seqOf at hs
    dsimp only at hs
    cases hc : u.M[i]? with
    | none => rw [hc] at hs; cases hs
    | some cl =>
      rw [hc] at hs
      have ok := A.cell i a cl hm hc
      cases cl with
      | li es' => cases hs; obtain ⟨vs, g, rl⟩ := ok; exact tc_of call_tuple_of ⟨a, vs, by rw [e], .inl ⟨SqL.of g, fun l hl => kn.tup A rl q hl⟩⟩
      | _ => cases hs
  | _ => cases hs⟩
end
end Ev
-- EvG
namespace Ev
open PySem PySem.Spec PyProof.Rows L2
section
variable {cs : CS} {X : Cx} {W : WX} {c c1 c2 c3 : Nat} {a b e : Expr} {pos : Pos}
/-! ### sums, all, any, sorted, greatest and least -/
def tSum : TfC := fun ds M post _ => ∃ ns : List Int, ds = [.lst (ns.map D.int)] ∧ post (.int ns.sum) M
theorem po_sum (hc : X.calm = true := by rfl) : POC cs X W 0 (.builtin "sum") tSum := ⟨fun u n H σ ds xs post xp Q A hn rx hq kn kx => by
  obtain ⟨ns, ed, q⟩ := hq
  subst ed
  obtain ⟨x, e, r⟩ := rx.one
  obtain ⟨a, vs, e1, f, g, rl⟩ := r.lstE
  rw [rl.ints] at g
  exact tc_of (cr_sum hc) ⟨a, ns, by rw [e, e1], SqL.of g, kn.here (d := .int ns.sum) A rfl q⟩⟩
def tAll : TfC := fun ds M post _ => ∃ ns : List Bool, ds = [.lst (ns.map D.bl)] ∧ post (.bl (ns.all id)) M
theorem po_all (hc : X.calm = true := by rfl) : POC cs X W 0 (.builtin "all") tAll := ⟨fun u n H σ ds xs post xp Q A hn rx hq kn kx => by
  obtain ⟨ns, ed, q⟩ := hq
  subst ed
  obtain ⟨x, e, r⟩ := rx.one
  obtain ⟨a, vs, e1, f, g, rl⟩ := r.lstE
  rw [rl.bools] at g
  exact tc_of (cr_all hc) ⟨a, ns, by rw [e, e1], SqL.of g, kn.here (d := .bl (ns.all id)) A rfl q⟩⟩
def tAny : TfC := fun ds M post _ => ∃ ns : List Bool, ds = [.lst (ns.map D.bl)] ∧ post (.bl (ns.any id)) M
theorem po_any (hc : X.calm = true := by rfl) : POC cs X W 0 (.builtin "any") tAny := ⟨fun u n H σ ds xs post xp Q A hn rx hq kn kx => by
  obtain ⟨ns, ed, q⟩ := hq
  subst ed
  obtain ⟨x, e, r⟩ := rx.one
  obtain ⟨a, vs, e1, f, g, rl⟩ := r.lstE
  rw [rl.bools] at g
  exact tc_of (cr_any hc) ⟨a, ns, by rw [e, e1], SqL.of g, kn.here (d := .bl (ns.any id)) A rfl q⟩⟩
def tSortS : TfC := fun ds M post _ => ∃ ws : List Str, ds = [.lst (ws.map D.str)] ∧ ws.length < 64 ∧ ∀ ys : List Str, ys.Perm ws → sortedS ys = true → post (.lst (ys.map D.str)) M
theorem po_sortS : POC cs X W 0 (.builtin "sorted") tSortS := ⟨fun u n H σ ds xs post xp Q A hn rx hq kn kx => by
  obtain ⟨ws, ed, hl, q⟩ := hq
  subst ed
  obtain ⟨x, e, r⟩ := rx.one
  obtain ⟨a, vs, e1, f, g, rl⟩ := r.lstE
  rw [rl.strs] at g
  exact tc_of cr_sortedS ⟨a, ws, by rw [e, e1], SqL.of g, hl, fun ys p hp hs hf => kn.lst A RepL.ofStrs (q ys hp hs) hf⟩⟩
def tMaxI : TfC := fun ds M post _ => (∃ i j, ds = [.int i, .int j] ∧ post (.int (if j > i then j else i)) M) ∨ ∃ ns : List Int, ds = [.lst (ns.map D.int)] ∧ 0 < ns.length ∧ ∀ m, m ∈ ns → (∀ y, y ∈ ns → y ≤ m) → post (.int m) M
theorem po_maxI (hc : X.calm = true := by rfl) : POC cs X W 0 (.builtin "max") tMaxI := ⟨fun u n H σ ds xs post xp Q A hn rx hq kn kx => by
  rcases hq with ⟨i, j, ed, q⟩ | ⟨ns, ed, hl, q⟩
  · subst ed
    obtain ⟨x, y, e, rx, ry⟩ := rx.two
    exact tc_of (call_max2 hc) ⟨i, j, by rw [e, show x = .int i from rx, show y = .int j from ry], kn.here (d := .int _) A rfl q⟩
  · subst ed
    obtain ⟨x, e, r⟩ := rx.one
    obtain ⟨a, vs, e1, f, g, rl⟩ := r.lstE
    rw [rl.ints] at g
    exact tc_of (cr_max hc) ⟨a, ns, by rw [e, e1], SqL.of g, hl, fun m h1 h2 => kn.here (d := .int m) A rfl (q m h1 h2)⟩⟩
def tMinI : TfC := fun ds M post _ => (∃ i j, ds = [.int i, .int j] ∧ post (.int (if j < i then j else i)) M) ∨ ∃ ns : List Int, ds = [.lst (ns.map D.int)] ∧ 0 < ns.length ∧ ∀ m, m ∈ ns → (∀ y, y ∈ ns → m ≤ y) → post (.int m) M
theorem po_minI (hc : X.calm = true := by rfl) : POC cs X W 0 (.builtin "min") tMinI := ⟨fun u n H σ ds xs post xp Q A hn rx hq kn kx => by
  rcases hq with ⟨i, j, ed, q⟩ | ⟨ns, ed, hl, q⟩
  · subst ed
    obtain ⟨x, y, e, rx, ry⟩ := rx.two
    exact tc_of (call_min2 hc) ⟨i, j, by rw [e, show x = .int i from rx, show y = .int j from ry], kn.here (d := .int _) A rfl q⟩
  · subst ed
    obtain ⟨x, e, r⟩ := rx.one
    obtain ⟨a, vs, e1, f, g, rl⟩ := r.lstE
    rw [rl.ints] at g
    exact tc_of (cr_min hc) ⟨a, ns, by rw [e, e1], SqL.of g, hl, fun m h1 h2 => kn.here (d := .int m) A rfl (q m h1 h2)⟩⟩
/-! ### isinstance -/
/-- the kind of data: a built-in type, or an own class -/
inductive Kd where | ty (n : Bt) | ob (c : Nat)
def kdOf (M : Store) : D → Option Kd
  | .non => some (.ty .none) | .bl _ => some (.ty .bool) | .int _ => some (.ty .int) | .str _ => some (.ty .str) | .tup _ => some (.ty .tuple) | .lst _ => some (.ty .list) | .dic _ => some (.ty .dict)
  | .obj _ c _ => some (.ob c)
  | .loc n => match M[n]? with | some (.li _) => some (.ty .list) | some (.di _) => some (.ty .dict) | some (.ins c _) => some (.ob c) | _ => none
  | _ => none
/-- what isinstance asks of an own class whose instances may come -/
structure InsT (K : PySem.W.Frag) (C : Addr) : Prop where
  cl : Cls K C
  ha : PySem.W.findIn K (.ref C) "__class__" = some (some (.builtin "object.__class__"))
  hn : PySem.W.specialIn K (.builtin "object.__class__") "__get__" = some (some (.builtin "getset_descriptor.__get__"))
  htk : PySem.W.takesIn K (.builtin "object.__class__") = some true
  hm : PySem.W.mroIn K C (.type "object") = some true
def tysA : List Bt := [.none, .bool, .int, .str, .tuple, .list, .dict]
def tysB : List Bt := [.bool, .int, .str, .tuple, .list, .dict]
/-- what is known of the classes os, by their numbers -/
structure KitF (K : PySem.W.Frag) (cs : CS) (os : List Nat) (sub : Nat → Nat → Bool) : Prop where
  at_ : ∀ c ∈ os, ∃ C, cs.cls[c]? = some (.ref C) ∧ InsT K C ∧ (∀ T ∈ tysB, PySem.W.kitOne K (.ref C) (.type T.nm) = some false) ∧ (∀ T ∈ tysA, PySem.W.kitOne K (.type T.nm) (.ref C) = some false) ∧
    ∀ c' ∈ os, ∀ C', cs.cls[c']? = some (.ref C') → PySem.W.kitOne K (.ref C) (.ref C') = some (sub c c')
theorem kd_rep {K : PySem.W.Frag} {u : U} {n : Nat} {H : Hp} {d : D} {v : V} {k : Kd} (A : Wd cs u n H) (r : Rep u H d v) (h : kdOf u.M d = some k) : (∀ T, k = .ty T → T ∈ tysA ∧ TyX K H v (.type T.nm)) ∧ ∀ c, k = .ob c → ∀ C, cs.cls[c]? = some (.ref C) → InsT K C → TyX K H v (.ref C) := by
  have ty : ∀ (T0 : Bt), T0 ∈ tysA → TyX K H v (.type T0.nm) → some (Kd.ty T0) = some k → (∀ T, k = .ty T → T ∈ tysA ∧ TyX K H v (.type T.nm)) ∧ ∀ c, k = .ob c → ∀ C, cs.cls[c]? = some (.ref C) → InsT K C → TyX K H v (.ref C) := fun T0 h0 t h => by
    cases h
    exact ⟨fun T e => by cases e; exact ⟨h0, t⟩, fun c e => by cases e⟩
  have ins : ∀ {a C dx : Addr} {us : List (Str × V)} {c : Nat}, u.k.cls[c]? = some (.ref C) → v = .ref a → H a = some (.ins C dx us) → some (Kd.ob c) = some k → (∀ T, k = .ty T → T ∈ tysA ∧ TyX K H v (.type T.nm)) ∧ ∀ c, k = .ob c → ∀ C, cs.cls[c]? = some (.ref C) → InsT K C → TyX K H v (.ref C) := fun {a C dx us c} hc ev g h => by
    rw [A.ks.1] at hc
    cases h
    refine ⟨fun T e => by (cases e), fun c' e C' hC T => ?_⟩
    cases e
    rw [hc] at hC; cases hC
    rw [ev]
    exact .base (.ins g T.cl T.ha T.hn T.htk T.hm)
  cases d with
  | non => exact ty .none (by decide) (by rw [show v = .non from r]; exact .base .non) h
  | bl b => exact ty .bool (by decide) (by rw [show v = .bl b from r]; exact .base (.bl b)) h
  | int b => exact ty .int (by decide) (by rw [show v = .int b from r]; exact .base (.int b)) h
  | str b => exact ty .str (by decide) (by rw [show v = .str b from r]; exact .base (.str b)) h
  | tup ds => obtain ⟨a, vs, e, f, g, _⟩ := r.tupE; exact ty .tuple (by decide) (by rw [e]; exact .base (.tup g)) h
  | lst ds => obtain ⟨a, vs, e, f, g, _⟩ := r.lstE; exact ty .list (by decide) (by rw [e]; exact .base (.lst g)) h
  | dic ds => obtain ⟨a, vs, e, f, g, _⟩ := r.dicE; exact ty .dict (by decide) (by rw [e]; exact .base (.dK g)) h
  | obj a' c ds => obtain ⟨C, dx, vs, e, f, hc, g, _⟩ := r.objE; exact ins hc e g h
  | loc i =>
    obtain ⟨a, e, hm⟩ := r.locE
    unfold kdOf at h
    dsimp only at h
    cases hc : u.M[i]? with
    | none => rw [hc] at h; cases h
    | some cl =>
      rw [hc] at h
      have ok := A.cell i a cl hm hc
      cases cl with
      | li ds => obtain ⟨vs, g, _⟩ := ok; exact ty .list (by decide) (by rw [e]; exact .base (.lst g)) h
      | di ds => obtain ⟨vs, g, _⟩ := ok; exact ty .dict (by decide) (by rw [e]; exact .base (.dK g)) h
      | ins c fs => obtain ⟨C, dx, us, hc', g, _⟩ := ok; exact ins hc' e g h
      | dead => cases h
  | _ => cases h
/-- isinstance's answer -/
def isiB (os : List Nat) (sub : Nat → Nat → Bool) : Kd → D → Option Bool
  | .ty n, .ty T => if T ∈ tysB then some (n == T || (n == .bool && T == .int)) else none
  | .ty _, .cls c => if c ∈ os then some false else none
  | .ob c, .ty T => if c ∈ os ∧ T ∈ tysB then some false else none
  | .ob c, .cls c' => if c ∈ os ∧ c' ∈ os then some (sub c c') else none
  | _, _ => none
def tIsi (os : List Nat) (sub : Nat → Nat → Bool) : TfC := fun ds M post _ => ∃ d cd kd b, ds = [d, cd] ∧ kdOf M d = some kd ∧ isiB os sub kd cd = some b ∧ post (.bl b) M
theorem kit_bt : ∀ n ∈ tysA, ∀ T ∈ tysB, kitB n.nm T.nm = some (n == T || (n == .bool && T == .int)) := by decide +kernel
theorem isi_core {os : List Nat} {sub : Nat → Nat → Bool} {K : PySem.W.Frag} (F : KitF K cs os sub) {u : U} {n : Nat} {H : Hp} {d cd : D} {x y : V} {kd : Kd} {b : Bool} (A : Wd cs u n H) (r1 : Rep u H d x) (r2 : Rep u H cd y) (h1 : kdOf u.M d = some kd) (h2 : isiB os sub kd cd = some b) :
    ∃ t w, ClsV y w ∧ TyX K H x t ∧ PySem.W.kitOne K t w = some b := by
  obtain ⟨hT, hO⟩ := kd_rep (K := K) A r1 h1
  have own : ∀ {c : Nat} {C : Addr}, cd = .cls c → cs.cls[c]? = some (.ref C) → ClsV y (.ref C) := fun {c C} e hC => by
    subst e
    have r2 : u.k.cls[c]? = some y ∧ y ≠ .non := r2
    rw [A.ks.1, hC] at r2
    cases r2.1
    exact .own C
  have bty : ∀ {T : Bt}, cd = .ty T → ClsV y (.type T.nm) := fun {T} e => by
    subst e
    rw [show y = .ty T.nm from r2]; exact .ty T.nm
  cases kd with
  | ty m =>
    obtain ⟨hm, tx⟩ := hT m rfl
    cases cd with
    | ty T =>
      unfold isiB at h2
      dsimp only at h2
      split at h2
      · rename_i hT'
        cases h2
        exact ⟨_, _, bty rfl, tx, kit_ty (kit_bt m hm T hT')⟩
      · cases h2
    | cls c =>
      unfold isiB at h2
      dsimp only at h2
      split at h2
      · rename_i hc
        cases h2
        obtain ⟨C, hC, _, _, k3, _⟩ := F.at_ c hc
        exact ⟨_, _, own rfl hC, tx, k3 m hm⟩
      · cases h2
    | _ => cases h2
  | ob c =>
    cases cd with
    | ty T =>
      unfold isiB at h2
      dsimp only at h2
      split at h2
      · rename_i hc
        cases h2
        obtain ⟨C, hC, I, k2, _, _⟩ := F.at_ c hc.1
        exact ⟨_, _, bty rfl, hO c rfl C hC I, k2 T hc.2⟩
      · cases h2
    | cls c' =>
      unfold isiB at h2
      dsimp only at h2
      split at h2
      · rename_i hc
        cases h2
        obtain ⟨C, hC, I, _, _, k4⟩ := F.at_ c hc.1
        obtain ⟨C', hC', _⟩ := F.at_ c' hc.2
        exact ⟨_, _, own rfl hC', hO c rfl C hC I, k4 c' hc.2 C' hC'⟩
      · cases h2
    | _ => cases h2
theorem po_isi {os : List Nat} {sub : Nat → Nat → Bool} (F : KitF X.K cs os sub) : POC cs X W 0 (.builtin "isinstance") (tIsi os sub) := ⟨fun u n H σ ds xs post xp Q A hn rx hq kn kx => by
  obtain ⟨d, cd, kd, b, ed, h1, h2, q⟩ := hq
  subst ed
  obtain ⟨x, y, e, r1, r2⟩ := rx.two
  obtain ⟨t, w, k1, k2, k3⟩ := isi_core F A r1 r2 h1 h2
  exact tc_of call_isi ⟨x, y, t, w, b, e, k1, k2, k3, kn.here (d := .bl b) A rfl q⟩⟩
/-- isinstance(x, (c1, ..)) -/
def isiL (os : List Nat) (sub : Nat → Nat → Bool) (k : Kd) : List D → Option Bool
  | [] => some false
  | cd :: r => match isiB os sub k cd with
    | some true => some true
    | some false => isiL os sub k r
    | none => none
end
end Ev
-- EvH
namespace Ev
open PySem PySem.Spec PyProof.Rows L2 ClX
/-- an attribute by values -/
structure PAt (cs : CS) (X : Cx) (W : WX) (c : Nat) (f : Str) (t : Tf1) : Prop where
  run : ∀ (u : U) (n : Nat) (H : Hp) (σ : L2.St) (d : D) (x : V) (post : DP) (xp : XP) (Q : VK), Wd cs u n H → n + c ≤ lim → Rep u H d x → t d u.M post xp → KN cs u (n + c) H post Q → KX cs u (n + c) H σ xp W →
    ∀ (b : Bool) (pins : List (Addr × Obj)) (s : Shared) (v : Value), Inv X pins σ H s → RelV x v → wpAny (model X.prog X.w) X.A (getAttr v f b) (EP X pins σ Q) X.xe s
section
variable {cs : CS} {X : Cx} {W : WX} {c c1 c2 c3 : Nat} {a b e : Expr} {pos : Pos} {f : Str}
theorem px_attr {ta : TfE} {tf : Tf1} (ha : PX cs X W c1 e ta) (ho : PAt cs X W c2 f tf) (hb : attributeBase e f X.env (eval e X.env) = eval e X.env := by rfl) : PX cs X W (c1 + c2) (.Attribute e f pos) (tUn ta tf) := ⟨fun u n H σ Γ post xp Q A hn q kn kx => TW.mk fun pins s I => by
  refine attr_of hb (thn (ha.run u n H σ Γ _ xp (fun x H1 => ∀ s1 v b, Inv X pins σ H1 s1 → RelV x v → wpAny (model X.prog X.w) X.A (getAttr v f b) (EP X pins σ Q) X.xe s1) A (by omega) q (fun x d1 u1 H1 e1 B1 r1 q1 s1 v b I1 rv => ?_) (kx.le (by omega)) pins s I) fun v s1 ⟨x, H1, I1, rv, q⟩ => q s1 v _ I1 rv)
  exact ho.run u1 (n + c1) H1 σ d1 x post xp Q B1 (by omega) r1 q1 (kn.go A.toWd e1 (by omega)) (kx.go A.toWd e1 (by omega)) b pins s1 v I1 rv⟩
theorem PAt.or {t1 t2 : Tf1} (h1 : PAt cs X W c1 f t1) (h2 : PAt cs X W c2 f t2) : PAt cs X W (c1 + c2) f (fun d M post xp => t1 d M post xp ∨ t2 d M post xp) := ⟨fun u n H σ d x post xp Q A hn rx h kn kx => by
  rcases h with h | h
  · exact h1.run u n H σ d x post xp Q A (by omega) rx h (kn.le (by omega)) (kx.le (by omega))
  · exact h2.run u n H σ d x post xp Q A (by omega) rx h (kn.le (by omega)) (kx.le (by omega))⟩
/-- an instance: its class, its fields -/
def insOf (M : Store) : D → Option (Nat × List (Str × D))
  | .obj _ c fs => some (c, fs)
  | .loc n => match M[n]? with | some (.ins c fs) => some (c, fs) | _ => none
  | _ => none
theorem ins_rep {u : U} {n : Nat} {H : Hp} {d : D} {c : Nat} {fs : List (Str × D)} {x : V} (A : Wd cs u n H) (h : insOf u.M d = some (c, fs)) (r : Rep u H d x) : ∃ a C dx us, x = .ref a ∧ cs.cls[c]? = some (.ref C) ∧ H a = some (.ins C dx us) ∧ RepF u H fs us := by
  cases d with
  | obj a' c' fs' =>
    cases h
    obtain ⟨C, dx, us, e, f, hc, g, rf⟩ := r.objE
    rw [A.ks.1] at hc
    exact ⟨a', C, dx, us, e, hc, g, rf⟩
  | loc i =>
    obtain ⟨a, e, hm⟩ := r.locE
    unfold insOf at h
    dsimp only at h
    cases hc : u.M[i]? with
    | none => rw [hc] at h; cases h
    | some cl =>
      rw [hc] at h
      have ok := A.cell i a cl hm hc
      cases cl with
      | ins c' fs' =>
        cases h
        obtain ⟨C, dx, us, hc', g, rf⟩ := ok
        rw [A.ks.1] at hc'
        exact ⟨a, C, dx, us, e, hc', g, rf⟩
      | _ => cases h
  | _ => cases h
/-- the classes cl have a field f -/
structure FldF (K : PySem.W.Frag) (cs : CS) (f : Str) (cl : List Nat) : Prop where
  at_ : ∀ c ∈ cl, ∀ C, cs.cls[c]? = some (.ref C) → Cls K C ∧ NoAttr K C f
def tFld (f : Str) (cl : List Nat) : Tf1 := fun d M post _ => ∃ c fs r, insOf M d = some (c, fs) ∧ c ∈ cl ∧ fs.lookup f = some r ∧ post r M
theorem pat_fld {cl : List Nat} (F : FldF X.K cs f cl) : PAt cs X W 0 f (tFld f cl) := ⟨fun u n H σ d x post xp Q A hn rx hq kn kx b pins s v I rv => by
  obtain ⟨c, fs, r, h1, h2, h3, q⟩ := hq
  obtain ⟨a, C, dx, us, ex, hc, g, rf⟩ := ins_rep A h1 rx
  subst ex
  obtain rfl : v = Value.ref a := rv
  obtain ⟨k1, k2⟩ := F.at_ c h2 C hc
  obtain ⟨w, hw, rw'⟩ := rf.lookup.1 r h3
  exact getattr_ok I g k1 k2 hw fun u' s2 I2 ru => ⟨w, H, I2, ru, kn.here A rw' q⟩⟩
/-- a constant of an instance's class -/
structure ConF (K : PySem.W.Frag) (cs : CS) (f : Str) (cl : List (Nat × D)) : Prop where
  at_ : ∀ p ∈ cl, ∀ C, cs.cls[p.1]? = some (.ref C) → Cls K C ∧ ∃ v w, Con K C f v w ∧ flatD p.2 = true ∧ v = vD p.2
theorem flat_of {u : U} {H : Hp} {d : D} (h : flatD d = true) : Rep u H d (vD d) := by
  cases d <;> first | (cases h; done) | rfl
def tCon1 (f : Str) (cl : List (Nat × D)) : Tf1 := fun d M post _ => ∃ c fs r, insOf M d = some (c, fs) ∧ (c, r) ∈ cl ∧ fs.lookup f = none ∧ post r M
theorem pat_con {cl : List (Nat × D)} (F : ConF X.K cs f cl) : PAt cs X W 0 f (tCon1 f cl) := ⟨fun u n H σ d x post xp Q A hn rx hq kn kx b pins s v I rv => by
  obtain ⟨c, fs, r, h1, h2, h3, q⟩ := hq
  obtain ⟨a, C, dx, us, ex, hc, g, rf⟩ := ins_rep A h1 rx
  subst ex
  obtain rfl : v = Value.ref a := rv
  obtain ⟨k1, v', w', k2, k3, rfl⟩ := F.at_ (c, r) h2 C hc
  exact getcon_ok I g k1 k2 (rf.lookup.2 h3) fun s2 I2 => ⟨_, H, I2, k2.rel, kn.here A (flat_of k3) q⟩⟩
/-- a constant of a class -/
structure CValF (K : PySem.W.Frag) (cs : CS) (f : Str) (cl : List (Nat × D)) : Prop where
  at_ : ∀ p ∈ cl, ∀ C, cs.cls[p.1]? = some (.ref C) → ∃ mc v w, CRead K C mc ∧ CVal K C mc f v w ∧ flatD p.2 = true ∧ v = vD p.2
def tCVal1 (cs : CS) (cl : List (Nat × D)) : Tf1 := fun d M post _ => ∃ c r, d = .cls c ∧ (∃ C, cs.cls[c]? = some (.ref C)) ∧ (c, r) ∈ cl ∧ post r M
theorem pat_cval {cl : List (Nat × D)} (F : CValF X.K cs f cl) : PAt cs X W 0 f (tCVal1 cs cl) := ⟨fun u n H σ d x post xp Q A hn rx hq kn kx b pins s v I rv => by
  obtain ⟨c, r, ed, ⟨C, hC⟩, h2, q⟩ := hq
  subst ed
  have rx : u.k.cls[c]? = some x ∧ x ≠ .non := rx
  rw [A.ks.1, hC] at rx
  cases rx.1
  obtain rfl : v = Value.ref C := rv
  obtain ⟨mc, v', w', k1, k2, k3, rfl⟩ := F.at_ (c, r) h2 C hC
  exact getcval_ok I k1 k2 fun s2 I2 => ⟨_, H, I2, k2.rel, kn.here A (flat_of k3) q⟩⟩
/-- a field of a caught exception -/
structure XfF (K : PySem.W.Frag) (cs : CS) (f : Str) (cl : List Nat) : Prop where
  at_ : ∀ c ∈ cl, ∀ C, cs.cls[c]? = some (.ref C) → XfC K C ∧ PySem.W.findIn K (.ref C) f = some none
def tXf1 (cs : CS) (f : Str) (cl : List Nat) : Tf1 := fun d M post _ => ∃ a c fs r, d = .exc a c fs ∧ c ∈ cl ∧ (∃ C, cs.cls[c]? = some (.ref C)) ∧ fs.lookup f = some r ∧ post r M
theorem pat_xf {cl : List Nat} (F : XfF X.K cs f cl) : PAt cs X W 0 f (tXf1 cs f cl) := ⟨fun u n H σ d x post xp Q A hn rx hq kn kx b pins s v I rv => by
  obtain ⟨a, c, fs, r, ed, h1, ⟨C, hC⟩, h3, q⟩ := hq
  subst ed
  obtain ⟨C', od, us, ev, fa, hc, g, rf, z⟩ := rx.excE
  rw [A.ks.1, hC] at hc
  cases hc
  subst ev
  obtain rfl : v = Value.ref a := rv
  obtain ⟨T, hno⟩ := F.at_ c h1 C hC
  obtain ⟨w, hw, rw'⟩ := rf.lookup.1 r h3
  rcases z with ⟨z, _⟩ | ⟨dd, z1, z2, z3⟩
  · subst z; simp at hw
  · subst z1
    obtain ⟨⟨oe, vs, cv, rc, ho, hz, hd⟩, _, _⟩ := (show _ ∧ _ ∧ _ from I.hok a _ g)
    obtain rfl : cv = Value.ref C := rc
    have hx : ObjOk X.prog X.w H s.heap dd (.xd us) := I.hok dd _ z3
    obtain ⟨mA, hns, hr⟩ := hx
    obtain ⟨od, ho2, hl⟩ := lookIn_ns hns
    obtain ⟨u', hu, ru⟩ := RelO.some_of (v := w) (o := mA f) (by rw [← hw]; exact hr f)
    have J : PySem.W.InstAt s.heap a oe C (some od) := ⟨ho, hz.1, by unfold PySem.W.notCls; rw [hd] <;> rfl, by rw [hz.2]; exact ho2⟩
    exact HandSPX.exc_get I.kIn J T.ga T.gg T.exC (PySem.W.findObj_own T.hdC hno rfl (by rw [hl, hu])) (handed_of ru) ⟨w, H, I.tok _, ru, kn.here A rw' q⟩⟩
/-! ### methods of built-in types -/
def tyM (M : Store) (T : String) : D → Prop
  | .str _ => T = "str"
  | .lst _ => T = "list"
  | .dic _ => T = "dict"
  | .int _ => T = "int"
  | .loc n => match M[n]? with | some (.li _) => T = "list" | some (.di _) => T = "dict" | _ => False
  | _ => False
theorem tyM_rep {u : U} {n : Nat} {H : Hp} {T : String} {d : D} {v : V} (A : Wd cs u n H) (h : tyM u.M T d) (r : Rep u H d v) : tyV X.K T v H := by
  cases d with
  | str x => rw [show v = .str x from r]; exact h
  | int x => rw [show v = .int x from r]; exact h
  | lst ds => obtain ⟨a, vs, e, f, g, _⟩ := r.lstE; rw [e]; exact .inl ⟨h, vs, SqL.of g⟩
  | dic ds => obtain ⟨a, vs, e, f, g, _⟩ := r.dicE; rw [e]; exact .inr (.inr (.inl ⟨h, .inl ⟨vs, g⟩⟩))
  | loc i =>
    obtain ⟨a, e, hm⟩ := r.locE
    unfold tyM at h
    dsimp only at h
    cases hc : u.M[i]? with
    | none => rw [hc] at h; exact h.elim
    | some cl =>
      rw [hc] at h
      have ok := A.cell i a cl hm hc
      cases cl with
      | li ds => obtain ⟨vs, g, _⟩ := ok; rw [e]; exact .inl ⟨h, vs, SqL.of g⟩
      | di ds => obtain ⟨vs, g, _⟩ := ok; rw [e]; exact .inr (.inr (.inl ⟨h, .inl ⟨vs, g⟩⟩))
      | _ => exact h.elim
  | _ => exact h.elim
/-- what a method of a built-in type makes of its receiver and arguments -/
abbrev TfM := D → List D → Store → DP → Prop
structure POM (cs : CS) (X : Cx) (id : String) (t : TfM) : Prop where
  run : ∃ r, MtR X id r ∧ ∀ (u : U) (n : Nat) (H : Hp) (d : D) (ds : List D) (x : V) (xs : List V) (post : DP) (Q : VK), Wd cs u n H → Rep u H d x → RepL u H ds xs → t d ds u.M post → KN cs u n H post Q → r x xs H Q
def tBm (T : String) (ta : TfE) (tr : TfA) (tf : TfM) : TfE := fun Γ M post xp => ta Γ M (fun d M1 => tyM M1 T d ∧ tr Γ M1 (fun ds M2 => tf d ds M2 post) xp) xp
theorem px_bm {T id : String} {o : Expr} {name : Str} {apos cpos : Pos} {es : List Expr} {ta : TfE} {tr : TfA} {tf : TfM} (pa : PlainAttrs T) (slot : Slot T name id) (hty : typeOf (.builtin id) = pure (.type "method_descriptor")) (hm : POM cs X id tf)
    (ho : PX cs X W c1 o ta) (ha : PXA cs X W c2 (e :: es) tr) (hbase : attributeBase o name X.env (eval o X.env) = eval o X.env := by rfl)
    (hfew : ((backTo cpos (starEach (e :: es) X.env)).all (fun x => !x.1) && (backToKw cpos (keywordEach [] X.env)).all (fun x => x.1.isSome) && decide ((e :: es).length + ([] : List Keyword).length + (if ([] : List Keyword).isEmpty then 0 else 1) < 30)) = true := by rfl)
    (hline : (apos.endLine == cpos.line) = true := by rfl) (hs : starEach (e :: es) X.env = (false, eval e X.env) :: starEach es X.env := by rfl) (hplain : (backTo cpos (starEach es X.env)).any (·.1) = false := by rfl) :
    PX cs X W (c1 + c2) (.Call (.Attribute o name apos) (e :: es) [] cpos) (tBm T ta tr tf) := ⟨fun u n H σ Γ post xp Q A hn q kn kx => by
  obtain ⟨r, hm, hr⟩ := hm.run
  refine tw_of (pe_bm pa slot hty hm (tw_pe X o) (twa_pa X (e :: es)) hbase hfew hline hs hplain) ?_
  refine ho.run u n H σ Γ _ xp _ A (by omega) q (fun v d u1 H1 e1 B1 r1 ⟨ht, q1⟩ => ⟨tyM_rep (X := X) B1 ht r1, ?_⟩) (kx.le (by omega))
  refine ha.run u1 (n + c1) H1 σ Γ _ xp _ (A.step e1 B1) (by omega) q1 (fun vs ds u2 H2 e2 B2 r2 q2 => ?_) (kx.go A.toWd e1 (by omega))
  exact hr u2 (n + c1 + c2) H2 d ds v vs post Q B2 (r1.go B1 e2) r2 q2 (kn.go A.toWd (e1.trans A.toWd e2) (by omega))⟩
theorem px_bm0 {T id : String} {o : Expr} {name : Str} {apos cpos : Pos} {ta : TfE} {tf : TfM} (pa : PlainAttrs T) (slot : Slot T name id) (hty : typeOf (.builtin id) = pure (.type "method_descriptor")) (hm : POM cs X id tf)
    (ho : PX cs X W c1 o ta) (hbase : attributeBase o name X.env (eval o X.env) = eval o X.env := by rfl) (hline : (apos.endLine == cpos.line) = true := by rfl) :
    PX cs X W c1 (.Call (.Attribute o name apos) [] [] cpos) (tBm T ta tNil tf) := ⟨fun u n H σ Γ post xp Q A hn q kn kx => by
  obtain ⟨r, hm, hr⟩ := hm.run
  refine tw_of (pe_bm0 pa slot hty hm (tw_pe X o) hbase hline) ?_
  refine ho.run u n H σ Γ _ xp _ A (by omega) q (fun v d u1 H1 e1 B1 r1 ⟨ht, q1⟩ => ⟨tyM_rep (X := X) B1 ht r1, ?_⟩) (kx.le (by omega))
  exact hr u1 (n + c1) H1 d [] v [] post Q B1 r1 RepL.nil q1 (kn.go A.toWd e1 (by omega))⟩
def tCountS : TfM := fun d ds M post => ∃ z w, d = .str z ∧ ds = [.str w] ∧ post (.int (Txt.count z w)) M
theorem pom_count : POM cs X "str.count" tCountS := ⟨_, mt_count, fun u n H d ds x xs post Q A rx rs hq kn => by
  obtain ⟨z, w, ed, es, q⟩ := hq
  subst ed; subst es
  obtain ⟨y, e, ry⟩ := rs.one
  exact ⟨z, w, rx, by rw [e, show y = .str w from ry], kn.here (d := .int _) A rfl q⟩⟩
def tJoin : TfM := fun d ds M post => ∃ z d1 ws, d = .str z ∧ ds = [d1] ∧ seqOf M d1 = some (ws.map D.str) ∧ (ws.map (·.length)).sum + ws.length * z.length ≤ 16777216 ∧ post (.str (Txt.join z ws)) M
theorem pom_join : POM cs X "str.join" tJoin := ⟨_, mt_join, fun u n H d ds x xs post Q A rx rs hq kn => by
  obtain ⟨z, d1, ws, ed, es, hs, hz, q⟩ := hq
  subst ed; subst es
  obtain ⟨y, e, ry⟩ := rs.one
  obtain ⟨a, vs, ey, hv, rl⟩ := seq_rep (K := X.K) A hs ry
  rw [rl.strs] at hv
  exact ⟨z, a, ws, rx, by rw [e, ey], hv, hz, kn.here (d := .str _) A rfl q⟩⟩
def tPart : TfM := fun d ds M post => ∃ z w, d = .str z ∧ ds = [.str w] ∧ (w.length == 0) = false ∧ z.length ≤ sizeLine ∧ post (.tup [.str (Txt.partition z w).1, .str (Txt.partition z w).2.1, .str (Txt.partition z w).2.2]) M
theorem pom_partition : POM cs X "str.partition" tPart := ⟨_, mt_partition, fun u n H d ds x xs post Q A rx rs hq kn => by
  obtain ⟨z, w, ed, es, hw, hz, q⟩ := hq
  subst ed; subst es
  obtain ⟨y, e, ry⟩ := rs.one
  exact ⟨z, w, rx, by rw [e, show y = .str w from ry], hw, hz, fun p hp => kn.tup A (RepL.ofStrs (ns := [_, _, _])) q hp⟩⟩
def tSplit : TfM := fun d ds M post => ∃ z w, d = .str z ∧ ds = [.str w] ∧ (w.length == 0) = false ∧ z.length + 2 ≤ sizeLine ∧ post (.lst ((Txt.split z w).map D.str)) M
theorem pom_split : POM cs X "str.split" tSplit := ⟨_, mt_split, fun u n H d ds x xs post Q A rx rs hq kn => by
  obtain ⟨z, w, ed, es, hw, hz, q⟩ := hq
  subst ed; subst es
  obtain ⟨y, e, ry⟩ := rs.one
  exact ⟨z, w, rx, by rw [e, show y = .str w from ry], hw, hz, fun p hp => kn.lst A RepL.ofStrs q hp⟩⟩
end
end Ev
-- EvI
namespace Ev
open PySem PySem.Spec PyProof.Rows L2 ClX
/-! ### the store written -/
def U.wr (u : U) (i : Nat) (c : Cell) : U := { u with M := u.M.set i c }
section
variable {cs : CS} {u : U} {n : Nat} {H : Hp} {i : Nat} {a : Addr} {c c' : Cell} {o : HO}
theorem get_set {α : Type} {l : List α} {i j : Nat} {x y : α} (h : (l.set j x)[i]? = some y) : (i = j ∧ y = x) ∨ (i ≠ j ∧ l[i]? = some y) := by
  by_cases e : i = j
  · subst e
    by_cases hl : i < l.length
    · rw [List.getElem?_set_self hl] at h; cases h; exact .inl ⟨rfl, rfl⟩
    · rw [List.getElem?_eq_none (by simpa using hl)] at h; cases h
  · rw [List.getElem?_set_ne (Ne.symm e)] at h; exact .inr ⟨e, h⟩
theorem set_at {α : Type} {l : List α} {i : Nat} {x y : α} (h : l[i]? = some y) : (l.set i x)[i]? = some x := List.getElem?_set_self (List.getElem?_eq_some_iff.mp h).1
theorem wrF {b : Addr} (hc : u.M[i]? = some c) (hd : c ≠ .dead) (f : (u.wr i c').F b) : u.F b := by
  rcases f with (f | ⟨j, q, h1, h2, h3⟩) | f
  · exact .inl (.inl f)
  · rcases get_set h2 with ⟨e1, e2⟩ | ⟨e1, e2⟩
    · subst e1; exact .inl (.inr ⟨j, c, h1, hc, hd⟩)
    · exact .inl (.inr ⟨j, q, h1, e2, h3⟩)
  · exact .inr f
theorem wr_nx (hm : u.μ[i]? = some a) (hc : u.M[i]? = some c) (hd : c ≠ .dead) (ha : ∃ q, H a = some q) : Nx u H (u.wr i c') (upd H a o) := by
  have fa : u.L a := .inr ⟨i, c, hm, hc, hd⟩
  refine ⟨rfl, rfl, fun _ h => h, fun _ h => .inl h, fun _ _ h => h, fun j hj => ?_, fun j b h1 h2 => ?_, fun b q f _ e => ?_, fun b q e => ?_⟩
  · show (u.M.set i c')[j]? = some .dead
    rw [List.getElem?_set_ne]
    · exact hj
    · intro e
      subst e
      rw [hc] at hj; cases hj; exact hd rfl
  · have h1 : u.μ[j]? = some b := h1
    rw [List.getElem?_eq_none h2] at h1; cases h1
  · rw [upd_ne (fun z => f (by rw [z]; exact fa))]; exact e
  · by_cases hb : b = a
    · exact ⟨o, by rw [hb]; exact upd_same⟩
    · exact ⟨q, by rw [upd_ne hb]; exact e⟩
theorem wr_wd (A : Wd cs u n H) (hm : u.μ[i]? = some a) (hc : u.M[i]? = some c) (hd : c ≠ .dead) (ok : CellOk (u.wr i c') (upd H a o) a c') : Wd cs (u.wr i c') n (upd H a o) := by
  have fa : u.F a := .inl (.inr ⟨i, c, hm, hc, hd⟩)
  obtain ⟨q0, hq0, hz0⟩ := A.dom a fa
  have x : Nx u H (u.wr i c') (upd H a o) := wr_nx hm hc hd ⟨q0, hq0⟩
  refine ⟨A.ks, ?_, fun f => A.cF (wrF hc hd f), by show u.μ.length = (u.M.set i c').length; rw [List.length_set]; exact A.len, A.inj, A.np, fun b h => (by obtain ⟨vs, e⟩ := A.xl b h; exact ⟨vs, by rw [upd_ne (fun z => (A.xd b h).2 i (by rw [z]; exact hm))]; exact e⟩), A.xd, fun j b q h1 h2 => ?_⟩
  · obtain ⟨ns, t, r, a1, a4, a5, a6, a7, a8, a9, a10, a11⟩ := A.pen
    refine ⟨ns, t, r, ?_, ?_, a5, a6, a7, a8, a9, a10, tabs_upd a11 hq0 hz0⟩
    · show upd H a o u.p = _
      rw [upd_ne (fun z => A.np i (by rw [z]; exact hm))]; exact a1
    · show upd H a o u.k.cl = _
      rw [upd_ne (fun z => A.cF (by rw [z]; exact fa))]; exact a4
  · rcases get_set h2 with ⟨e1, e2⟩ | ⟨e1, e2⟩
    · subst e1; subst e2
      have h1 : u.μ[j]? = some b := h1
      rw [hm] at h1; cases h1
      exact ok
    · have ne : b ≠ a := fun z => e1 (A.inj j i a (by rw [← z]; exact h1) hm)
      exact (A.cell j b q h1 e2).mono (x.cy A) (fun o' _ e => by rw [upd_ne ne]; exact e) (fun o' e => ⟨o', by rw [upd_ne ne]; exact e⟩)
/-- a new cell -/
def U.add (u : U) (a : Addr) (c : Cell) : U := { u with μ := u.μ ++ [a], M := u.M ++ [c] }
theorem addF {b : Addr} (A : Wd cs u n H) (f : (u.add a c).F b) : u.F b ∨ b = a := by
  rcases f with (f | ⟨j, q, h1, h2, h3⟩) | f
  · exact .inl (.inl (.inl f))
  · have h1 : (u.μ ++ [a])[j]? = some b := h1
    have h2 : (u.M ++ [c])[j]? = some q := h2
    by_cases hj : j < u.μ.length
    · rw [List.getElem?_append_left hj] at h1
      rw [List.getElem?_append_left (by rw [← A.len]; exact hj)] at h2
      exact .inl (.inl (.inr ⟨j, q, h1, h2, h3⟩))
    · have hj2 : j < (u.μ ++ [a]).length := (List.getElem?_eq_some_iff.mp h1).1
      have e : j = u.μ.length := by simp at hj2; omega
      subst e
      simp at h1
      exact .inr h1.symm
  · exact .inl (.inr f)
theorem add_nx (A : Wd cs u n H) {H' : Hp} (k : Keep H H') (ha : H a = none) : Nx u H (u.add a c) H' := by
  refine ⟨rfl, rfl, fun _ h => h, fun _ h => .inl h, fun j b h => ?_, fun j hj => ?_, fun j b h1 h2 => ?_, fun b q f _ e => k b q e, fun b q e => ⟨q, k b q e⟩⟩
  · show (u.μ ++ [a])[j]? = some b
    rw [List.getElem?_append_left (List.getElem?_eq_some_iff.mp h).1]; exact h
  · show (u.M ++ [c])[j]? = some .dead
    rw [List.getElem?_append_left (List.getElem?_eq_some_iff.mp hj).1]; exact hj
  · have h1 : (u.μ ++ [a])[j]? = some b := h1
    have hj2 : j < (u.μ ++ [a]).length := (List.getElem?_eq_some_iff.mp h1).1
    have e : j = u.μ.length := by simp at hj2; omega
    subst e
    simp at h1
    rw [← h1]; exact ha
theorem add_wd (A : Wd cs u n H) {H' : Hp} (k : Keep H H') (ha : H a = none) (ok : CellOk (u.add a c) H' a c) : Wd cs (u.add a c) n H' := by
  have x := add_nx (c := c) A k ha
  refine ⟨A.ks, (A.pen.keep k).as rfl rfl, fun f => ?_, by show (u.μ ++ [a]).length = (u.M ++ [c]).length; simp [A.len], fun i j b h1 h2 => ?_, fun j h => ?_, fun b h => (by obtain ⟨vs, e⟩ := A.xl b h; exact ⟨vs, k _ _ e⟩), fun b h => ⟨(A.xd b h).1, fun j hj => ?_⟩, fun j b q h1 h2 => ?_⟩
  · rcases addF A f with f | f
    · exact A.cF f
    · obtain ⟨ns, t, r, a1, a4, _⟩ := A.pen
      have f : u.k.cl = a := f
      rw [f, ha] at a4; cases a4
  · have nin : ∀ {l : Nat}, u.μ[l]? ≠ some a := fun {l} h => by
      obtain ⟨q, hq⟩ := A.of_mu h
      obtain ⟨o, ho⟩ := (A.cell l a q h hq).there
      rw [ha] at ho; cases ho
    have g : ∀ {l : Nat} {b : Addr}, (u.μ ++ [a])[l]? = some b → (u.μ[l]? = some b) ∨ (l = u.μ.length ∧ b = a) := fun {l b} h => by
      by_cases hl : l < u.μ.length
      · rw [List.getElem?_append_left hl] at h; exact .inl h
      · have hj2 : l < (u.μ ++ [a]).length := (List.getElem?_eq_some_iff.mp h).1
        have e : l = u.μ.length := by simp at hj2; omega
        subst e
        simp at h
        exact .inr ⟨rfl, h.symm⟩
    rcases g h1 with h1 | ⟨e1, f1⟩
    · rcases g h2 with h2 | ⟨e2, f2⟩
      · exact A.inj i j b h1 h2
      · rw [f2] at h1; exact absurd h1 nin
    · rcases g h2 with h2 | ⟨e2, f2⟩
      · rw [f1] at h2; exact absurd h2 nin
      · rw [e1, e2]
  · have h : (u.μ ++ [a])[j]? = some u.p := h
    by_cases hl : j < u.μ.length
    · rw [List.getElem?_append_left hl] at h; exact A.np j h
    · have hj2 : j < (u.μ ++ [a]).length := (List.getElem?_eq_some_iff.mp h).1
      have e : j = u.μ.length := by simp at hj2; omega
      subst e
      simp at h
      obtain ⟨vs, hp⟩ := A.pen.there
      rw [← h, ha] at hp; cases hp
  · have hj : (u.μ ++ [a])[j]? = some b := hj
    by_cases hl : j < u.μ.length
    · rw [List.getElem?_append_left hl] at hj; exact (A.xd b h).2 j hj
    · have hj2 : j < (u.μ ++ [a]).length := (List.getElem?_eq_some_iff.mp hj).1
      have e : j = u.μ.length := by simp at hj2; omega
      subst e
      simp at hj
      obtain ⟨vs, hv⟩ := A.xl b h
      rw [← hj, ha] at hv; cases hv
  · have h1 : (u.μ ++ [a])[j]? = some b := h1
    have h2 : (u.M ++ [c])[j]? = some q := h2
    by_cases hj : j < u.μ.length
    · rw [List.getElem?_append_left hj] at h1
      rw [List.getElem?_append_left (by rw [← A.len]; exact hj)] at h2
      exact (A.cell j b q h1 h2).mono (x.cy A) (fun o' _ e => k _ _ e) (fun o' e => ⟨o', k _ _ e⟩)
    · have hj2 : j < (u.μ ++ [a]).length := (List.getElem?_eq_some_iff.mp h1).1
      have e : j = u.μ.length := by simp at hj2; omega
      subst e
      simp at h1
      rw [A.len] at h2
      simp at h2
      subst h1; subst h2
      exact ok
theorem add_at : (u.add a c).M = u.M ++ [c] := rfl
theorem add_mu (A : Wd cs u n H) : (u.add a c).μ[u.M.length]? = some a := by
  show (u.μ ++ [a])[u.M.length]? = some a
  rw [← A.len]; simp
/-- a cell that is let go -/
theorem dead_nx (A : Wd cs u n H) (hm : u.μ[i]? = some a) (hc : u.M[i]? = some c) : Nx u H (u.wr i .dead) H := by
  refine ⟨rfl, rfl, fun _ h => h, fun _ h => .inl h, fun _ _ h => h, fun j hj => ?_, fun j b h1 h2 => ?_, fun b q f _ e => e, fun b q e => ⟨q, e⟩⟩
  · show (u.M.set i .dead)[j]? = some .dead
    by_cases e : j = i
    · subst e; exact set_at hc
    · rw [List.getElem?_set_ne (Ne.symm e)]; exact hj
  · have h1 : u.μ[j]? = some b := h1
    rw [List.getElem?_eq_none h2] at h1; cases h1
theorem deadF {b : Addr} (f : (u.wr i .dead).F b) : u.F b ∧ (b = u.p ∨ (∃ j, j ≠ i ∧ u.μ[j]? = some b) ∨ b ∈ u.x) := by
  rcases f with (f | ⟨j, q, h1, h2, h3⟩) | f
  · exact ⟨.inl (.inl f), .inl f⟩
  · rcases get_set h2 with ⟨e1, e2⟩ | ⟨e1, e2⟩
    · subst e2; exact absurd rfl h3
    · exact ⟨.inl (.inr ⟨j, q, h1, e2, h3⟩), .inr (.inl ⟨j, e1, h1⟩)⟩
  · exact ⟨.inr f, .inr (.inr f)⟩
theorem dead_notF (A : Wd cs u n H) (hm : u.μ[i]? = some a) : ¬ (u.wr i .dead).F a := fun f => by
  rcases (deadF f).2 with e | ⟨j, e, h⟩ | h
  · exact A.np i (by rw [← e]; exact hm)
  · exact e (A.inj j i a h hm)
  · exact (A.xd a h).2 i hm
theorem dead_wd (A : Wd cs u n H) (hm : u.μ[i]? = some a) (hc : u.M[i]? = some c) : Wd cs (u.wr i .dead) n H := by
  have x := dead_nx A hm hc
  refine ⟨A.ks, A.pen.as rfl rfl, fun f => A.cF (deadF f).1, by show u.μ.length = (u.M.set i .dead).length; rw [List.length_set]; exact A.len, A.inj, A.np, A.xl, A.xd, fun j b q h1 h2 => ?_⟩
  rcases get_set h2 with ⟨e1, e2⟩ | ⟨e1, e2⟩
  · subst e1; subst e2
    exact (A.cell j b c h1 hc).there
  · exact (A.cell j b q h1 e2).mono (x.cy A) (fun o' _ e => e) (fun o' e => ⟨o', e⟩)
end
/-- write, in one -/
theorem KN.wr {cs : CS} {u : U} {n : Nat} {H : Hp} {post : DP} {Q : VK} (k : KN cs u n H post Q) (A : Wd cs u n H) {i : Nat} {a : Addr} {c c' : Cell} {o : HO} (hm : u.μ[i]? = some a) (hc : u.M[i]? = some c) (hd : c ≠ .dead)
    (ok : Cy u (u.wr i c') H (upd H a o) → CellOk (u.wr i c') (upd H a o) a c') {d : D} {v : V} (r : Cy u (u.wr i c') H (upd H a o) → Rep (u.wr i c') (upd H a o) d v) (q : post d (u.M.set i c')) : Q v (upd H a o) := by
  obtain ⟨q0, hq0, _⟩ := A.dom a (.inl (.inr ⟨i, c, hm, hc, hd⟩))
  have x : Nx u H (u.wr i c') (upd H a o) := wr_nx hm hc hd ⟨q0, hq0⟩
  exact k v d _ _ x (wr_wd A hm hc hd (ok (x.cy A))) (r (x.cy A)) q
section
variable {cs : CS} {X : Cx}
/-! ### methods that change lists of the store -/
def liAt (M : Store) (d : D) (i : Nat) (ds : List D) : Prop := d = .loc i ∧ M[i]? = some (.li ds)
theorem li_rep {u : U} {n : Nat} {H : Hp} {d : D} {i : Nat} {ds : List D} {x : V} (A : Wd cs u n H) (h : liAt u.M d i ds) (r : Rep u H d x) : ∃ a vs, x = .ref a ∧ u.μ[i]? = some a ∧ u.M[i]? = some (.li ds) ∧ H a = some (.lst vs) ∧ RepL u H ds vs := by
  obtain ⟨ed, hc⟩ := h
  subst ed
  obtain ⟨a, e, hm⟩ := r.locE
  obtain ⟨vs, g, rl⟩ := A.cell i a _ hm hc
  exact ⟨a, vs, e, hm, hc, g, rl⟩
def tAppend : TfM := fun d ds M post => ∃ i es x, liAt M d i es ∧ ds = [x] ∧ es.length < sizeLine ∧ post .non (M.set i (.li (es ++ [x])))
theorem pom_append : POM cs X "list.append" tAppend := ⟨_, mt_append, fun u n H d ds x xs post Q A rx rs hq kn => by
  obtain ⟨i, es, y, hl, ed, hz, q⟩ := hq
  subst ed
  obtain ⟨a, vs, ex, hm, hc, g, rl⟩ := li_rep A hl rx
  obtain ⟨w, ew, rw'⟩ := rs.one
  exact ⟨a, vs, w, ex, ew, g, by rw [rl.length]; exact hz, kn.wr (c' := .li (es ++ [y])) (d := .non) A hm hc nofun (fun c => ⟨_, upd_same, RepL.append (RepL.mono c _ _ rl) (RepL.cons (Rep.mono c _ _ rw') RepL.nil)⟩) (fun _ => rfl) q⟩⟩
def tPop0 : TfM := fun d ds M post => ∃ i es x, liAt M d i es ∧ ds = [] ∧ es[es.length - 1]? = some x ∧ post x (M.set i (.li es.dropLast))
theorem RepL.dropLast {u : U} {H : Hp} {ds : List D} {vs : List V} (h : RepL u H ds vs) : RepL u H ds.dropLast vs.dropLast := by
  rw [List.dropLast_eq_take, List.dropLast_eq_take, h.length]; exact h.take _
theorem pom_pop : POM cs X "list.pop" tPop0 := ⟨_, mt_pop, fun u n H d ds x xs post Q A rx rs hq kn => by
  obtain ⟨i, es, y, hl, ed, hy, q⟩ := hq
  subst ed
  obtain ⟨a, vs, ex, hm, hc, g, rl⟩ := li_rep A hl rx
  obtain ⟨w, hw, rw'⟩ := rl.get hy
  have e0 : xs = [] := rs
  exact ⟨a, vs, w, ex, e0, g, by rw [rl.length]; exact hw, kn.wr (c' := .li es.dropLast) (d := y) A hm hc nofun (fun c => ⟨_, upd_same, (RepL.mono c _ _ rl).dropLast⟩) (fun c => Rep.mono c _ _ rw') q⟩⟩
end
/-! ### what is wanted behind a statement -/
structure Out where
  nx : Gm → Store → Prop
  rt : D → Store → Prop
  bk : Gm → Store → Prop := fun _ _ => False
  ct : Gm → Store → Prop := fun _ _ => False
  xx : Gm → XP := fun _ _ _ _ => False
structure KO (cs : CS) (u : U) (n : Nat) (H : Hp) (O : Out) (W : WX) (E : Ends) : Prop where
  nx : ∀ Γ σ u' H', Nx u H u' H' → At cs u' n H' σ Γ → O.nx Γ u'.M → E.nx σ H'
  rt : ∀ v d u' H', Nx u H u' H' → Wd cs u' n H' → Rep u' H' d v → O.rt d u'.M → E.rt v H'
  bk : ∀ Γ σ u' H', Nx u H u' H' → At cs u' n H' σ Γ → O.bk Γ u'.M → E.bk σ H'
  ct : ∀ Γ σ u' H', Nx u H u' H' → At cs u' n H' σ Γ → O.ct Γ u'.M → E.ct σ H'
  xx : ∀ cls od c fs Γ σ u' H', Nx u H u' H' → At cs u' n H' σ Γ → RepX u' H' cls od c fs → O.xx Γ c fs u'.M → W cls od σ H'
structure TWS (X : Cx) (st : Stmt) (D : Ends) (σ : L2.St) (H : Hp) : Prop where
  run : ∀ (pins : List (Addr × Obj)) (s : Shared), Inv X pins σ H s → wpAny (model X.prog X.w) X.A (exec st X.env) (SP X pins D) X.xe s
structure TWSs (X : Cx) (st : List Stmt) (D : Ends) (σ : L2.St) (H : Hp) : Prop where
  run : ∀ (pins : List (Addr × Obj)) (s : Shared), Inv X pins σ H s → wpAny (model X.prog X.w) X.A (execs st X.env) (SP X pins D) X.xe s
theorem tws_ps (X : Cx) (st : Stmt) : PS X st (TWS X st) := ⟨fun pins s σ H D I h => h.run pins s I⟩
theorem twss_pss (X : Cx) (st : List Stmt) : PSs X st (TWSs X st) := ⟨fun pins s σ H D I h => h.run pins s I⟩
theorem tws_of {X : Cx} {st : Stmt} {t : TS} {D : Ends} {σ : L2.St} {H : Hp} (h : PS X st t) (q : t D σ H) : TWS X st D σ H := ⟨fun pins s I => h.run pins s σ H D I q⟩
theorem twss_of {X : Cx} {st : List Stmt} {t : TS} {D : Ends} {σ : L2.St} {H : Hp} (h : PSs X st t) (q : t D σ H) : TWSs X st D σ H := ⟨fun pins s I => h.run pins s σ H D I q⟩
abbrev TfS := Gm → Store → Out → Prop
structure PST (cs : CS) (X : Cx) (W : WX) (c : Nat) (st : Stmt) (t : TfS) : Prop where
  run : ∀ (u : U) (n : Nat) (H : Hp) (σ : L2.St) (Γ : Gm) (O : Out) (E : Ends), At cs u n H σ Γ → n + c ≤ lim → t Γ u.M O → KO cs u (n + c) H O W E → TWS X st E σ H
structure PSU (cs : CS) (X : Cx) (W : WX) (c : Nat) (st : List Stmt) (t : TfS) : Prop where
  run : ∀ (u : U) (n : Nat) (H : Hp) (σ : L2.St) (Γ : Gm) (O : Out) (E : Ends), At cs u n H σ Γ → n + c ≤ lim → t Γ u.M O → KO cs u (n + c) H O W E → TWSs X st E σ H
section
variable {cs : CS} {u u' : U} {n m : Nat} {H H' : Hp} {O : Out} {W : WX} {E : Ends} {Γ : Gm} {σ : L2.St}
theorem KO.go (k : KO cs u n H O W E) (A : Wd cs u m H) (e : Nx u H u' H') {l : Nat} (hl : l ≤ n) : KO cs u' l H' O W E :=
  ⟨fun Γ σ u2 H2 e2 B q => k.nx Γ σ u2 H2 (e.trans A e2) (B.up hl) q, fun v d u2 H2 e2 B r q => k.rt v d u2 H2 (e.trans A e2) (B.up hl) r q, fun Γ σ u2 H2 e2 B q => k.bk Γ σ u2 H2 (e.trans A e2) (B.up hl) q, fun Γ σ u2 H2 e2 B q => k.ct Γ σ u2 H2 (e.trans A e2) (B.up hl) q,
    fun cls od c fs Γ σ u2 H2 e2 B r q => k.xx cls od c fs Γ σ u2 H2 (e.trans A e2) (B.up hl) r q⟩
theorem KO.le (k : KO cs u n H O W E) {l : Nat} (hl : l ≤ n) : KO cs u l H O W E :=
  ⟨fun Γ σ u2 H2 e2 B q => k.nx Γ σ u2 H2 e2 (B.up hl) q, fun v d u2 H2 e2 B r q => k.rt v d u2 H2 e2 (B.up hl) r q, fun Γ σ u2 H2 e2 B q => k.bk Γ σ u2 H2 e2 (B.up hl) q, fun Γ σ u2 H2 e2 B q => k.ct Γ σ u2 H2 e2 (B.up hl) q,
    fun cls od c fs Γ σ u2 H2 e2 B r q => k.xx cls od c fs Γ σ u2 H2 e2 (B.up hl) r q⟩
/-- the exceptions of an evaluation -/
theorem KO.kx (k : KO cs u n H O W E) (A : At cs u m H σ Γ) {l : Nat} (hl : l ≤ n) : KX cs u l H σ (O.xx Γ) W := fun cls od c fs u2 H2 e2 B r q => k.xx cls od c fs Γ σ u2 H2 e2 (A.step e2 (B.up hl)) r q
end
section
variable {cs : CS} {X : Cx} {W : WX} {c c1 c2 c3 : Nat} {a b e : Expr} {pos : Pos} {st : Stmt} {sts : List Stmt}
def tSkip : TfS := fun Γ M O => O.nx Γ M
def tSeq (t1 t2 : TfS) : TfS := fun Γ M O => t1 Γ M { O with nx := fun Γ' M' => t2 Γ' M' O }
/-- told by what holds between -/
def tCut (t1 t2 : TfS) : TfS := fun Γ M O => ∃ Mid : Gm → Store → Prop, t1 Γ M { O with nx := Mid } ∧ ∀ Γ' M', Mid Γ' M' → t2 Γ' M' O
theorem su_nil : PSU cs X W 0 [] tSkip := ⟨fun u n H σ Γ O E A hn q k => twss_of pss_nil (k.nx Γ σ u H Nx.refl A q)⟩
theorem su_cons {t1 t2 : TfS} (h1 : PST cs X W c1 st t1) (h2 : PSU cs X W c2 sts t2) : PSU cs X W (c1 + c2) (st :: sts) (tSeq t1 t2) := ⟨fun u n H σ Γ O E A hn q k => by
  refine twss_of (pss_cons (tws_ps X st) (twss_pss X sts)) ?_
  refine h1.run u n H σ Γ _ { E with nx := TWSs X sts E } A (by omega) q ⟨fun Γ' σ' u' H' e B q => ?_, (k.le (by omega)).rt, (k.le (by omega)).bk, (k.le (by omega)).ct, (k.le (by omega)).xx⟩
  exact h2.run u' (n + c1) H' σ' Γ' O E B (by omega) q (k.go A.toWd e (by omega))⟩
theorem su_cut {t1 t2 : TfS} (h1 : PST cs X W c1 st t1) (h2 : PSU cs X W c2 sts t2) : PSU cs X W (c1 + c2) (st :: sts) (tCut t1 t2) := ⟨fun u n H σ Γ O E A hn ⟨Mid, q, hm⟩ k => by
  refine twss_of (pss_cons (tws_ps X st) (twss_pss X sts)) ?_
  refine h1.run u n H σ Γ _ { E with nx := TWSs X sts E } A (by omega) q ⟨fun Γ' σ' u' H' e B q => ?_, (k.le (by omega)).rt, (k.le (by omega)).bk, (k.le (by omega)).ct, (k.le (by omega)).xx⟩
  exact h2.run u' (n + c1) H' σ' Γ' O E B (by omega) (hm _ _ q) (k.go A.toWd e (by omega))⟩
def tPass : TfS := fun Γ M O => O.nx Γ M
def tBreak : TfS := fun Γ M O => O.bk Γ M
def tCont : TfS := fun Γ M O => O.ct Γ M
theorem st_pass : PST cs X W 0 (.Pass pos) tPass := ⟨fun u n H σ Γ O E A hn q k => tws_of ps_pass (k.nx Γ σ u H Nx.refl A q)⟩
theorem st_break : PST cs X W 0 (.Break pos) tBreak := ⟨fun u n H σ Γ O E A hn q k => tws_of ps_break (k.bk Γ σ u H Nx.refl A q)⟩
theorem st_cont : PST cs X W 0 (.Continue pos) tCont := ⟨fun u n H σ Γ O E A hn q k => tws_of ps_continue (k.ct Γ σ u H Nx.refl A q)⟩
/-- code that is never come to -/
def tNever : TfS := fun _ _ _ => False
theorem st_never : PST cs X W 0 st tNever := ⟨fun u n H σ Γ O E A hn q k => q.elim⟩
theorem su_never : PSU cs X W 0 sts tNever := ⟨fun u n H σ Γ O E A hn q k => q.elim⟩
/-- x = e -/
def tAsg (i : Nat) (te : TfE) : TfS := fun Γ M O => te Γ M (fun d M' => O.nx (Γ.set i (some d)) M') (O.xx Γ)
theorem st_asg (i : Nat) {x : Str} {p' : Pos} {te : TfE} (hN : X.N.Nodup) (he : PX cs X W c e te) (hi : X.N[i]? = some x := by rfl) (hx : L2.Loc X.env.scope x := by first | exact Or.inl rfl | exact Or.inr rfl) (hs : swapsWith e (some (.Name x p')) pos.line X.env = pure false := by rfl)
    (hf : X.fn x = true ∨ X.env.scope.names.lookup x = some .local := by first | exact Or.inl rfl | exact Or.inr rfl) : PST cs X W c (.Assign [.Name x p'] e pos) (tAsg i te) := ⟨fun u n H σ Γ O E A hn q k => by
  refine tws_of (ps_set hN hi hx (tw_pe X e) hs hf) ?_
  exact he.run u n H σ Γ _ _ _ A hn q (fun v d u1 H1 e1 B1 r1 q1 => k.nx _ _ u1 H1 e1 ((A.step e1 B1).set r1) q1) (k.kx A (Nat.le_refl _))⟩
def tIf (tt : TfT) (ta tb : TfS) : TfS := fun Γ M O => tt Γ M (fun k M' => (k = true → ta Γ M' O) ∧ (k = false → tb Γ M' O)) (O.xx Γ)
theorem st_if {t : Expr} {as bs : List Stmt} {tt : TfT} {ta tb : TfS} (ht : PXT cs X W c1 t tt) (ha : PSU cs X W c2 as ta) (hb : PSU cs X W c3 bs tb) : PST cs X W (c1 + (c2 + c3)) (.If t as bs pos) (tIf tt ta tb) := ⟨fun u n H σ Γ O E A hn q k => by
  refine tws_of (ps_if (twt_pt X t) (twss_pss X as) (twss_pss X bs)) ?_
  refine ht.run u n H σ Γ _ _ _ A (by omega) q (fun b u1 H1 e1 B1 ⟨q1, q2⟩ => ?_) (k.kx A (by omega))
  cases b with
  | true => exact ha.run u1 (n + c1) H1 σ Γ O E (A.step e1 B1) (by omega) (q1 rfl) (k.go A.toWd e1 (by omega))
  | false => exact hb.run u1 (n + c1) H1 σ Γ O E (A.step e1 B1) (by omega) (q2 rfl) (k.go A.toWd e1 (by omega))⟩
def tRet (te : TfE) : TfS := fun Γ M O => te Γ M O.rt (O.xx Γ)
theorem st_ret {te : TfE} (he : PX cs X W c e te) : PST cs X W c (.Return (some e) pos) (tRet te) := ⟨fun u n H σ Γ O E A hn q k => by
  refine tws_of (ps_ret (tw_pe X e)) ?_
  exact he.run u n H σ Γ _ _ _ A hn q (fun v d u1 H1 e1 B1 r1 q1 => k.rt v d u1 H1 e1 B1 r1 q1) (k.kx A (Nat.le_refl _))⟩
def tRetN : TfS := fun _ M O => O.rt .non M
theorem st_retN : PST cs X W 0 (.Return none pos) tRetN := ⟨fun u n H σ Γ O E A hn q k => tws_of ps_retN (k.rt .non .non u H Nx.refl A.toWd rfl q)⟩
def tDrop (te : TfE) : TfS := fun Γ M O => te Γ M (fun _ M' => O.nx Γ M') (O.xx Γ)
theorem st_expr {te : TfE} (he : PX cs X W c e te) (hs : swapsWith e none pos.line X.env = pure false := by rfl) : PST cs X W c (.Expr e pos) (tDrop te) := ⟨fun u n H σ Γ O E A hn q k => by
  refine tws_of (ps_expr (tw_pe X e) hs) ?_
  exact he.run u n H σ Γ _ _ _ A hn q (fun v d u1 H1 e1 B1 r1 q1 => k.nx _ _ u1 H1 e1 (A.step e1 B1) q1) (k.kx A (Nat.le_refl _))⟩
/-- a, b = x, y -/
def tPar (i j : Nat) (ta : TfA) : TfS := fun Γ M O => ta Γ M (fun ds M' => ∃ d1 d2, ds = [d1, d2] ∧ O.nx ((Γ.set i (some d1)).set j (some d2)) M') (O.xx Γ)
theorem st_par (i j : Nat) {x y : Str} {px py pt : Pos} {kt k2 pt2} {ta : TfA} (hN : X.N.Nodup) (hij : i ≠ j) (ha : PXA cs X W c [a, b] ta) (hc : X.calm = true := by rfl) (hi : X.N[i]? = some x := by rfl) (hj : X.N[j]? = some y := by rfl)
    (hx : X.env.scope.names.lookup x = some .local := by rfl) (hy : X.env.scope.names.lookup y = some .local := by rfl)
    (hw : swappedStores [.Tuple [.Name x px, .Name y py] kt pt] (.Tuple [a, b] k2 pt2) X.env = pure (some [x, y]) := by rfl)
    (hs : swapsWithSole [.Tuple [.Name x px, .Name y py] kt pt] (.Tuple [a, b] k2 pt2) pos.line X.env = pure false := by rfl) :
    PST cs X W c (.Assign [.Tuple [.Name x px, .Name y py] kt pt] (.Tuple [a, b] k2 pt2) pos) (tPar i j ta) := ⟨fun u n H σ Γ O E A hn q k => by
  refine tws_of (ps_par hc hN hi hj hij hx hy (twa_pa X [a, b]) hw hs) ?_
  refine ha.run u n H σ Γ _ _ _ A hn q (fun vs ds u1 H1 e1 B1 r1 ⟨d1, d2, ed, q1⟩ => ?_) (k.kx A (Nat.le_refl _))
  subst ed
  obtain ⟨v1, v2, ev, r1, r2⟩ := r1.two
  exact ⟨v1, v2, ev, k.nx _ _ u1 H1 e1 (((A.step e1 B1).set r1).set r2) q1⟩⟩
theorem su_le {t : TfS} (h : PSU cs X W c sts t) (hc : c ≤ c1) : PSU cs X W c1 sts t := ⟨fun u n H σ Γ O E A hn q k => h.run u n H σ Γ O E A (by omega) q (k.le (by omega))⟩
end
end Ev
-- EvJ
namespace Ev
open PySem PySem.Spec PyProof.Rows L2 ClX
/-! ### what is walked -/
def sgn (ch : Nat) : D := .str ⟨#[ch]⟩
def signs (z : Str) : List D := z.cps.toList.map sgn
/-- an iterator over ds, that goes on while the store is S -/
structure WalkE (cs : CS) (u : U) (H0 : Hp) (J : It) (ds : List D) (S : Store → Prop) : Prop where
  ex : ∃ (G : Hp → Prop) (Y : Nat → Hp → V → Hp → Prop), Walk J ds.length G Y ∧ (∀ u' n H', Nx u H0 u' H' → Wd cs u' n H' → S u'.M → G H') ∧ ∀ u' n i H x H', Nx u H0 u' H → Wd cs u' n H → S u'.M → i < ds.length → Y i H x H' → Keep H H' ∧ ∃ d, ds[i]? = some d ∧ Rep u' H' d x
structure TWI (X : Cx) (tg e : Expr) (σ : L2.St) (H : Hp) (R : It → Hp → Prop) : Prop where
  run : ∀ (pins : List (Addr × Obj)) (s : Shared), Inv X pins σ H s → wpAny (model X.prog X.w) X.A (eval e X.env) (fun v s1 => wpAny (model X.prog X.w) X.A (pyIter v) (PIE X pins σ tg R) X.xe s1) X.xe s
theorem twi_pi (X : Cx) (tg e : Expr) : PI X tg e (TWI X tg e) := ⟨fun pins s σ H R I h => h.run pins s I⟩
theorem twi_of {X : Cx} {tg e : Expr} {t : TI} {σ : L2.St} {H : Hp} {R : It → Hp → Prop} (h : PI X tg e t) (q : t σ H R) : TWI X tg e σ H R := ⟨fun pins s I => h.run pins s σ H R I q⟩
abbrev TfI := Gm → Store → (List D → (Store → Prop) → Store → Prop) → XP → Prop
structure PXI (cs : CS) (X : Cx) (W : WX) (c : Nat) (tg e : Expr) (t : TfI) : Prop where
  run : ∀ (u : U) (n : Nat) (H : Hp) (σ : L2.St) (Γ : Gm) (post : List D → (Store → Prop) → Store → Prop) (xp : XP) (R : It → Hp → Prop), At cs u n H σ Γ → n + c ≤ lim → t Γ u.M post xp → (∀ J ds S u' H', Nx u H u' H' → Wd cs u' (n + c) H' → WalkE cs u' H' J ds S → post ds S u'.M → R J H') → KX cs u (n + c) H σ xp W → TWI X tg e σ H R
section
variable {cs : CS} {X : Cx} {W : WX} {c c1 c2 c3 : Nat} {a b e : Expr} {pos : Pos} {tg : Expr}
def iAny (K : PySem.W.Frag) (tl : TE) : TI := fun σ H R => tl σ H fun x H1 => (∃ a, x = .ref a ∧ (∃ xs, SqL K H1 a xs) ∧ R (Itl K a) H1) ∨ (∃ a, x = .ref a ∧ (∃ xs, SqT K H1 a xs) ∧ R (Itt K a) H1) ∨ ∃ z, x = .str z ∧ R (Its z) H1
theorem pi_any {l : Expr} {tl : TE} (hl : PE X l tl) : PI X tg l (iAny X.K tl) := by
  refine ⟨fun pins s σ H R I h => ?_⟩
  refine thn (hl.run pins s σ H _ I h) fun v s1 ⟨x, H1, I1, r1, q1⟩ => ?_
  rcases q1 with ⟨a, e, ⟨xs, hq⟩, q⟩ | ⟨a, e, ⟨xs, hq⟩, q⟩ | ⟨z, ex, q⟩
  · subst e
    cases r1
    obtain ⟨its, rv, p, hz⟩ := I1.list hq
    refine wpAny_pyIter_list p.isList ?_
    refine ⟨s1.heap.objs.size, [s1.heap.objs.size], _, _, H1, rfl, I1.kept (t' := s1.toks) fun b o e => Heap.get?_push_of_some _ e, turn_list a _, ⟨_, Heap.get?_push_size _ rfl, rfl, rfl⟩, fun b hb => ?_, q⟩
    have e : b = s1.heap.objs.size := by simpa using hb
    subst e
    exact I1.fpOk (Nat.le_refl _) (I1.hok.fresh (Nat.le_refl _))
  · subst e
    cases r1
    obtain ⟨its, rv, p, hz⟩ := I1.tuple hq
    refine wpAny_pyIter_tuple (show s1.heap.IsTuple a its.toArray from p) ?_
    refine ⟨s1.heap.objs.size, [s1.heap.objs.size], _, _, H1, rfl, I1.kept (t' := s1.toks) fun b o e => Heap.get?_push_of_some _ e, turn_tuple a _, ⟨_, Heap.get?_push_size _ rfl, rfl, rfl⟩, fun b hb => ?_, q⟩
    have e : b = s1.heap.objs.size := by simpa using hb
    subst e
    exact I1.fpOk (Nat.le_refl _) (I1.hok.fresh (Nat.le_refl _))
  · subst ex
    obtain ⟨t, rfl⟩ := r1
    cases ha : z.cps.all (· < 128)
    · exact wpAny_pyIter_wide ha (pi_one (tk := s1.toks) I1 _ (turn_str _ z t "str_iterator" (.inr rfl)) ⟨_, Heap.get?_push_size _ rfl, rfl, rfl⟩ q)
    · exact wpAny_pyIter_ascii ha (pi_one (tk := s1.toks) I1 _ (turn_str _ z t "str_ascii_iterator" (.inl rfl)) ⟨_, Heap.get?_push_size _ rfl, rfl, rfl⟩ q)
abbrev STrue : Store → Prop := fun _ => True
/-- a list, a tuple, a text -/
def tIt (te : TfE) : TfI := fun Γ M post xp => te Γ M (fun d M1 => match d with
  | .lst ds => post ds STrue M1
  | .tup ds => post ds STrue M1
  | .str z => post (signs z) STrue M1
  | .loc n => match M1[n]? with
    | some (.li ds) => post ds (fun M' => M'[n]? = some (.li ds)) M1
    | _ => False
  | _ => False) xp
theorem xi_std {te : TfE} (he : PX cs X W c e te) : PXI cs X W c tg e (tIt te) := ⟨fun u n H σ Γ post xp R A hn q kn kx => by
  refine twi_of (pi_any (tw_pe X e)) ?_
  refine he.run u n H σ Γ _ xp _ A hn q (fun v d u1 H1 e1 B1 r1 q1 => ?_) kx
  cases d with
  | lst ds =>
    obtain ⟨a, vs, ev, f, g, rl⟩ := r1.lstE
    refine .inl ⟨a, ev, ⟨vs, SqL.of g⟩, kn _ ds _ u1 H1 e1 B1 ⟨fun H => SqL X.K H a vs, YAt vs, by rw [← rl.length]; exact walk_list, fun u' m H2 x2 B2 _ => SqL.of (x2.go a _ (fun h => f (.inl h)) nofun g), fun u' m i H2 y H3 x2 B2 _ hi hy => ?_⟩ q1⟩
    obtain ⟨eH, hx⟩ := hy
    subst eH
    obtain ⟨d, hd', rd⟩ := rl.getV hx
    exact ⟨fun _ _ z => z, d, hd', rd.go B1 x2⟩
  | tup ds =>
    obtain ⟨a, vs, ev, f, g, rl⟩ := r1.tupE
    refine .inr (.inl ⟨a, ev, ⟨vs, SqT.of g⟩, kn _ ds _ u1 H1 e1 B1 ⟨fun H => SqT X.K H a vs, YAt vs, by rw [← rl.length]; exact walk_tup, fun u' m H2 x2 B2 _ => SqT.of (x2.go a _ (fun h => f (.inl h)) nofun g), fun u' m i H2 y H3 x2 B2 _ hi hy => ?_⟩ q1⟩)
    obtain ⟨eH, hx⟩ := hy
    subst eH
    obtain ⟨d, hd', rd⟩ := rl.getV hx
    exact ⟨fun _ _ z => z, d, hd', rd.go B1 x2⟩
  | str z =>
    refine .inr (.inr ⟨z, r1, kn _ (signs z) _ u1 H1 e1 B1 ⟨fun _ => True, _, by have w := walk_str (z := z); rw [show (signs z).length = z.cps.size from by simp [signs]]; exact w, fun _ _ _ _ _ _ => trivial, fun u' m i H2 y H3 x2 B2 _ hi hy => ?_⟩ q1⟩)
    obtain ⟨eH, ch, hc, ex⟩ := hy
    subst eH
    refine ⟨fun _ _ z => z, .str ⟨#[ch]⟩, ?_, ex⟩
    unfold signs
    rw [List.getElem?_map, show z.cps.toList[i]? = some ch from by simpa using hc]
    rfl
  | loc j =>
    obtain ⟨a, ev, hm⟩ := r1.locE
    have q1 : (match u1.M[j]? with
      | some (.li ds) => post ds (fun M' => M'[j]? = some (.li ds)) u1.M
      | _ => False) := q1
    cases hc : u1.M[j]? with
    | none => rw [hc] at q1; exact q1.elim
    | some cl =>
      rw [hc] at q1
      have ok := B1.cell j a cl hm hc
      cases cl with
      | li ds =>
        obtain ⟨vs, g, rl⟩ := ok
        have stay : ∀ {u' : U} {m : Nat} {H2 : Hp}, Nx u1 H1 u' H2 → Wd cs u' m H2 → u'.M[j]? = some (.li ds) → ∃ ws, H2 a = some (.lst ws) ∧ RepL u' H2 ds ws := fun x2 B2 h => B2.cell j a _ (x2.mu j a hm) h
        refine .inl ⟨a, ev, ⟨vs, SqL.of g⟩, kn _ ds _ u1 H1 e1 B1 ⟨fun H => ∃ ws, ws.length = ds.length ∧ H a = some (.lst ws), fun i H v H' => H' = H ∧ ∀ ws, H a = some (.lst ws) → ws[i]? = some v, ?_, fun u' m H2 x2 B2 h => ?_, fun u' m i H2 y H3 x2 B2 h hi hy => ?_⟩ q1⟩
        · refine ⟨fun i H hi ⟨ws, hl, hw⟩ => (walk_list (xs := ws)).goes i H (by omega) (SqL.of hw), fun H ⟨ws, hl, hw⟩ => by rw [← hl]; exact (walk_list (xs := ws)).stops H (SqL.of hw), fun i H x H' hi ⟨ws, hl, hw⟩ y => ?_⟩
          obtain ⟨e1, e2⟩ := (walk_list (xs := ws)).yields i H x H' (by omega) (SqL.of hw) y
          refine ⟨e1, fun ws' h' => ?_⟩
          rw [hw] at h'
          cases h'
          exact e2
        · obtain ⟨ws, g2, r2⟩ := stay x2 B2 h
          exact ⟨ws, r2.length, g2⟩
        · obtain ⟨ws, g2, r2⟩ := stay x2 B2 h
          obtain ⟨eH, hx⟩ := hy
          subst eH
          obtain ⟨d, hd', rd⟩ := r2.getV (hx ws g2)
          exact ⟨fun _ _ z => z, d, hd', rd⟩
      | _ => exact q1.elim
  | _ => exact (show False from q1).elim⟩
def tRg1 (ta : TfA) : TfI := fun Γ M post xp => ta Γ M (fun ds M1 => ∃ j : Int, ds = [.int j] ∧ -(2 ^ 62) ≤ j ∧ j < 2 ^ 62 ∧ post ((List.range j.toNat).map fun (i : Nat) => D.int (i : Int)) STrue M1) xp
theorem xi_range1 {p : Pos} {ta : TfA} (hm : X.mg "range" = none) (ha : PXA cs X W c [a] ta) (hg : Gl X "range" := by rfl) (hs : starEach [a] X.env = [(false, eval a X.env)] := by rfl) : PXI cs X W c tg (.Call (.Name "range" p) [a] [] pos) (tRg1 ta) := ⟨fun u n H σ Γ post xp R A hn q kn kx => by
  refine twi_of (pi_range1 hg hm (twa_pa X [a]) hs) ?_
  refine ha.run u n H σ Γ _ xp _ A hn q (fun vs ds u1 H1 e1 B1 r1 ⟨j, ed, h1, h2, q1⟩ => ?_) kx
  subst ed
  obtain ⟨x, ev, rx⟩ := r1.one
  refine ⟨j, by rw [ev, show x = .int j from rx], h1, h2, kn _ _ _ u1 H1 e1 B1 ⟨fun _ => True, _, by rw [List.length_map, List.length_range]; exact walk_range, fun _ _ _ _ _ _ => trivial, fun u' m i H2 y H3 x2 B2 _ hi hy => ?_⟩ q1⟩
  obtain ⟨eH, ex⟩ := hy
  subst eH
  rw [List.length_map, List.length_range] at hi
  refine ⟨fun _ _ z => z, .int (i : Int), ?_, ?_⟩
  · rw [List.getElem?_map, List.getElem?_range hi]; rfl
  · show y = V.int (i : Int)
    rw [ex]; show V.int (0 + (i : Int)) = _; rw [Int.zero_add]⟩
def tRg2 (ta : TfA) : TfI := fun Γ M post xp => ta Γ M (fun ds M1 => ∃ i j : Int, ds = [.int i, .int j] ∧ (-(2 ^ 62) ≤ i ∧ i < 2 ^ 62 ∧ -(2 ^ 62) ≤ j ∧ j < 2 ^ 62) ∧ post ((List.range (j - i).toNat).map fun (k : Nat) => D.int (i + (k : Int))) STrue M1) xp
theorem xi_range2 {p : Pos} {ta : TfA} (hm : X.mg "range" = none) (ha : PXA cs X W c [a, b] ta) (hg : Gl X "range" := by rfl) (hs : starEach [a, b] X.env = [(false, eval a X.env), (false, eval b X.env)] := by rfl) (hs2 : starEach [b] X.env = [(false, eval b X.env)] := by rfl) :
    PXI cs X W c tg (.Call (.Name "range" p) [a, b] [] pos) (tRg2 ta) := ⟨fun u n H σ Γ post xp R A hn q kn kx => by
  refine twi_of (pi_range2 hg hm (twa_pa X [a, b]) hs hs2) ?_
  refine ha.run u n H σ Γ _ xp _ A hn q (fun vs ds u1 H1 e1 B1 r1 ⟨i, j, ed, hb, q1⟩ => ?_) kx
  subst ed
  obtain ⟨x, y, ev, rx, ry⟩ := r1.two
  refine ⟨i, j, by rw [ev, show x = .int i from rx, show y = .int j from ry], hb, kn _ _ _ u1 H1 e1 B1 ⟨fun _ => True, _, by rw [List.length_map, List.length_range]; exact walk_range, fun _ _ _ _ _ _ => trivial, fun u' m k H2 y H3 x2 B2 _ hi hy => ?_⟩ q1⟩
  obtain ⟨eH, ex⟩ := hy
  subst eH
  rw [List.length_map, List.length_range] at hi
  refine ⟨fun _ _ z => z, .int (i + (k : Int)), ?_, ex⟩
  rw [List.getElem?_map, List.getElem?_range hi]; rfl⟩
/-! ### targets -/
abbrev TfG := D → Gm → (Gm → Prop) → Prop
structure TWG (X : Cx) (tg : Expr) (v : V) (σ : L2.St) (H : Hp) (Q : L2.St → Hp → Prop) : Prop where
  run : ∀ (pins : List (Addr × Obj)) (s : Shared) (u : Value), Inv X pins σ H s → RelV v u → wpAny (model X.prog X.w) X.A (assign tg X.env u) (fun _ s' => ∃ σ' H', Inv X pins σ' H' s' ∧ Q σ' H') X.xe s
theorem twg_pg (X : Cx) (tg : Expr) : PG X tg (TWG X tg) := ⟨fun pins s σ H v u Q I r h => h.run pins s u I r⟩
theorem twg_of {g : TG} {v : V} {σ : L2.St} {H : Hp} {Q : L2.St → Hp → Prop} (h : PG X tg g) (q : g v σ H Q) : TWG X tg v σ H Q := ⟨fun pins s u I r => h.run pins s σ H v u Q I r q⟩
structure TWGs (X : Cx) (ts : List Expr) (vs : List V) (σ : L2.St) (H : Hp) (Q : L2.St → Hp → Prop) : Prop where
  run : ∀ (pins : List (Addr × Obj)) (s : Shared) (us : List Value), Inv X pins σ H s → Vals vs us → wpAny (model X.prog X.w) X.A (assignInOrder ((assignEach ts X.env).map (·.2)) us) (fun _ s' => ∃ σ' H', Inv X pins σ' H' s' ∧ Q σ' H') X.xe s
theorem twgs_pgs (X : Cx) (ts : List Expr) : PGs X ts (TWGs X ts) := ⟨fun pins s σ H v u Q I r h => h.run pins s u I r⟩
theorem twgs_of {ts : List Expr} {g : TGs} {v : List V} {σ : L2.St} {H : Hp} {Q : L2.St → Hp → Prop} (h : PGs X ts g) (q : g v σ H Q) : TWGs X ts v σ H Q := ⟨fun pins s u I r => h.run pins s σ H v u Q I r q⟩
/-- the slots is forgotten -/
theorem wipe_set {i : Nat} {x : Option V} : ∀ {js : List Nat} {σ : L2.St}, i ∈ js → wipe (σ.set i x) js = wipe σ js
  | j :: js, σ, h => by
    unfold wipe
    by_cases e : i = j
    · subst e
      by_cases hm : i ∈ js
      · rw [wipe_set hm]
      · have : ∀ {js : List Nat} {σ : L2.St}, i ∉ js → wipe (σ.set i x) js = (wipe σ js).set i x := by
          intro js
          induction js with
          | nil => intro σ _; rfl
          | cons k js ih =>
            intro σ h
            have hk : k ≠ i := fun z => h (by rw [z]; exact List.mem_cons_self)
            unfold wipe
            rw [ih (fun z => h (List.mem_cons_of_mem _ z)), List.set_comm _ _ (Ne.symm hk)]
        rw [this hm, List.set_set]
    · have hm : i ∈ js := by
        rcases List.mem_cons.mp h with h | h
        · exact absurd h e
        · exact h
      rw [wipe_set hm]
structure PXG (cs : CS) (X : Cx) (tg : Expr) (is : List Nat) (g : TfG) : Prop where
  run : ∀ (u : U) (n : Nat) (H : Hp) (σ : L2.St) (Γ : Gm) (d : D) (v : V) (nx : Gm → Prop) (Q : L2.St → Hp → Prop), At cs u n H σ Γ → Rep u H d v → g d Γ nx → (∀ Γ' σ', At cs u n H σ' Γ' → (∀ js : List Nat, (∀ i ∈ is, i ∈ js) → wipe σ' js = wipe σ js) → nx Γ' → Q σ' H) → TWG X tg v σ H Q
structure PXGs (cs : CS) (X : Cx) (ts : List Expr) (is : List Nat) (g : List D → Gm → (Gm → Prop) → Prop) : Prop where
  run : ∀ (u : U) (n : Nat) (H : Hp) (σ : L2.St) (Γ : Gm) (ds : List D) (vs : List V) (nx : Gm → Prop) (Q : L2.St → Hp → Prop), At cs u n H σ Γ → RepL u H ds vs → g ds Γ nx → (∀ Γ' σ', At cs u n H σ' Γ' → (∀ js : List Nat, (∀ i ∈ is, i ∈ js) → wipe σ' js = wipe σ js) → nx Γ' → Q σ' H) → TWGs X ts vs σ H Q
def gNm (i : Nat) : TfG := fun d Γ nx => nx (Γ.set i (some d))
theorem xg_name (i : Nat) {x : Str} (hN : X.N.Nodup) (hi : X.N[i]? = some x := by rfl) (hx : L2.Loc X.env.scope x := by first | exact Or.inl rfl | exact Or.inr rfl) (hf : X.fn x = true ∨ X.env.scope.names.lookup x = some .local := by first | exact Or.inl rfl | exact Or.inr rfl) : PXG cs X (.Name x pos) [i] (gNm i) := ⟨fun u n H σ Γ d v nx Q A r q k =>
  twg_of (pg_name hN hi hx hf) (k _ _ (A.set r) (fun js h => wipe_set (h i (by simp))) q)⟩
def gNil : List D → Gm → (Gm → Prop) → Prop := fun ds Γ nx => ds = [] ∧ nx Γ
def gCons (g : TfG) (gs : List D → Gm → (Gm → Prop) → Prop) : List D → Gm → (Gm → Prop) → Prop := fun ds Γ nx => ∃ d r, ds = d :: r ∧ g d Γ (fun Γ' => gs r Γ' nx)
theorem xgs_nil : PXGs cs X [] [] gNil := ⟨fun u n H σ Γ ds vs nx Q A r ⟨e, q⟩ k => by
  subst e
  exact twgs_of pgs_nil ⟨r, k _ _ A (fun _ _ => rfl) q⟩⟩
theorem xgs_cons {t : Expr} {ts : List Expr} {g : TfG} {gs : List D → Gm → (Gm → Prop) → Prop} {is js : List Nat} (h1 : PXG cs X t is g) (h2 : PXGs cs X ts js gs) (hs : (assignEach (t :: ts) X.env).map (·.2) = assign t X.env :: (assignEach ts X.env).map (·.2) := by rfl) : PXGs cs X (t :: ts) (is ++ js) (gCons g gs) := ⟨fun u n H σ Γ ds vs nx Q A r ⟨d, dr, e, q⟩ k => by
  subst e
  obtain ⟨v, vr, ev, r1, r2⟩ := r.uncons
  subst ev
  refine twgs_of (pgs_cons (twg_pg X t) (twgs_pgs X ts) hs) ⟨v, vr, rfl, ?_⟩
  exact h1.run u n H σ Γ d v _ _ A r1 q fun Γ' σ' A' w1 q' => h2.run u n H σ' Γ' dr vr nx Q A' r2 q' fun Γ2 σ2 A2 w2 q2 => k Γ2 σ2 A2 (fun ls hl => (w2 ls fun i hi => hl i (List.mem_append_right _ hi)).trans (w1 ls fun i hi => hl i (List.mem_append_left _ hi))) q2⟩
def gTup (n : Nat) (gs : List D → Gm → (Gm → Prop) → Prop) : TfG := fun d Γ nx => ∃ ds, d = .tup ds ∧ ds.length = n ∧ gs ds Γ nx
theorem xg_tup {es : List Expr} {k n : Nat} {gs : List D → Gm → (Gm → Prop) → Prop} {is : List Nat} (h : PXGs cs X es is gs) (hn : (assignEach es X.env).length = n := by rfl) (hc : X.calm = true := by rfl) (hst : (assignEach es X.env).findIdx? (·.1) = none := by rfl) : PXG cs X (.Tuple es k pos) is (gTup n gs) := ⟨fun u m H σ Γ d v nx Q A r ⟨ds, e, hl, q⟩ kk => by
  subst e
  obtain ⟨a, vs, ev, f, g, rl⟩ := r.tupE
  exact twg_of (pg_tup hc (twgs_pgs X es) hn hst) ⟨a, vs, ev, SqT.of g, by rw [rl.length, hl], h.run u m H σ Γ ds vs nx Q A rl q kk⟩⟩
/-- a, b = e -/
def tUnp (te : TfE) (g : TfG) : TfS := fun Γ M O => te Γ M (fun d M' => g d Γ (fun Γ' => O.nx Γ' M')) (O.xx Γ)
theorem st_unp {te : TfE} {g : TfG} {is : List Nat} (he : PX cs X W c e te) (hg : PXG cs X tg is g) (hs : swapsWithSole [tg] e pos.line X.env = pure false := by rfl) (hw : swappedStores [tg] e X.env = pure none := by rfl)
    (h1 : (assignEach [tg] X.env).map (·.2) = [assign tg X.env] := by rfl) : PST cs X W c (.Assign [tg] e pos) (tUnp te g) := ⟨fun u n H σ Γ O E A hn q k => by
  refine tws_of (ps_asg (tw_pe X e) (twg_pg X tg) hs hw h1) ?_
  exact he.run u n H σ Γ _ _ _ A hn q (fun v d u1 H1 e1 B1 r1 q1 => hg.run u1 (n + c) H1 σ Γ d v _ _ (A.step e1 B1) r1 q1 fun Γ' σ' A' _ q' => k.nx Γ' σ' u1 H1 e1 A' q') (k.kx A (Nat.le_refl _))⟩
/-! ### loops -/
/-- the most turns of a loop -/
def LL : Nat := 2 ^ 63
def tFor (g : TfG) (ti : TfI) (tb : TfS) : TfS := fun Γ M O => ti Γ M (fun ds S M1 => ds.length ≤ LL ∧ ∃ I : Nat → Gm → Store → Prop, I 0 Γ M1 ∧ (∀ k Γ' M', k ≤ ds.length → I k Γ' M' → S M') ∧ (∀ Γ' M', I ds.length Γ' M' → O.nx Γ' M') ∧
  ∀ k d Γ' M', ds[k]? = some d → I k Γ' M' → g d Γ' (fun Γ2 => tb Γ2 M' { nx := I (k + 1), ct := I (k + 1), bk := O.nx, rt := O.rt, xx := O.xx })) (O.xx Γ)
theorem st_for {iter : Expr} {body : List Stmt} {g : TfG} {ti : TfI} {tb : TfS} {is : List Nat} (hp : PassesOwn (model X.prog X.w) X.A X.env X.xe) (hg : PXG cs X tg is g) (hi : PXI cs X W c1 tg iter ti) (hb : PSU cs X W c2 body tb) (hc : X.calm = true := by rfl)
    (hs : ∀ x, foldedSetIterable iter X.env x = pure x := by intro _; rfl) : PST cs X W (c1 + LL * c2) (.For tg iter body [] pos) (tFor g ti tb) := ⟨fun u n H σ Γ O E A hn q k => by
  refine tws_of (ps_for hp hc (twi_pi X _ iter) (twg_pg X tg) (twss_pss X body) hs) ?_
  refine hi.run u n H σ Γ _ _ _ A (by omega) q (fun J ds S u1 H1 e1 B1 wk ⟨hm, I, h0, hS, hd, hst⟩ => ?_) (k.kx A (by omega))
  obtain ⟨G, Y, wl, hG, hY⟩ := wk.ex
  have hmul : ∀ i, i ≤ ds.length → i * c2 ≤ LL * c2 := fun i hi => Nat.mul_le_mul_right _ (Nat.le_trans hi hm)
  refine for_it wl (fun i σ' Hc => ∃ Γ' u', Nx u1 H1 u' Hc ∧ At cs u' (n + c1 + i * c2) Hc σ' Γ' ∧ I i Γ' u'.M) ⟨Γ, u1, Nx.refl, by simpa using A.step e1 B1, h0⟩ (fun i σ' Hc hi ⟨Γ', u', x, T, hI⟩ => hG u' _ Hc x T.toWd (hS i Γ' _ hi hI)) (fun i v σ' Hc Hc' hi ⟨Γ', u', x, T, hI⟩ hy => ?_) (fun σ' Hc ⟨Γ', u', x, T, hI⟩ => ?_)
  · have hbm := hmul (i + 1) hi
    have hs1 : (i + 1) * c2 = i * c2 + c2 := by rw [Nat.succ_mul]
    obtain ⟨kp, d, hd', rd⟩ := hY u' _ i Hc v Hc' x T.toWd (hS i Γ' _ (Nat.le_of_lt hi) hI) hi hy
    have T1 : At cs u' (n + c1 + i * c2) Hc' σ' Γ' := T.step kp.nx (kp.wd T.toWd)
    have x1 : Nx u1 H1 u' Hc' := x.trans B1 kp.nx
    refine hg.run u' _ Hc' σ' Γ' d v _ _ T1 rd (hst i d Γ' _ hd' hI) fun Γ2 σ2 A2 _ q2 => ?_
    have ex : Nx u H u' Hc' := e1.trans A.toWd x1
    refine hb.run u' (n + c1 + i * c2) Hc' σ2 Γ2 _ _ A2 (by omega) q2 ⟨fun Γ3 σ3 u3 H3 x3 A3 q3 => ⟨Γ3, u3, x1.trans B1 x3, by rw [hs1, ← Nat.add_assoc]; exact A3, q3⟩, fun v3 d3 u3 H3 x3 B3 r3 q3 => k.rt v3 d3 u3 H3 (ex.trans A.toWd x3) (B3.up (by omega)) r3 q3,
      fun Γ3 σ3 u3 H3 x3 A3 q3 => k.nx Γ3 σ3 u3 H3 (ex.trans A.toWd x3) (A3.up (by omega)) q3, fun Γ3 σ3 u3 H3 x3 A3 q3 => ⟨Γ3, u3, x1.trans B1 x3, by rw [hs1, ← Nat.add_assoc]; exact A3, q3⟩, fun cls od c fs Γ3 σ3 u3 H3 x3 A3 r3 q3 => k.xx cls od c fs Γ3 σ3 u3 H3 (ex.trans A.toWd x3) (A3.up (by omega)) r3 q3⟩
  · have hbm := hmul ds.length (Nat.le_refl _)
    exact k.nx Γ' σ' u' Hc (e1.trans A.toWd x) (T.up (by omega)) (hd Γ' _ hI)⟩
/-- while t: body -/
def tWhile (tt : TfT) (tb : TfS) : TfS := fun Γ M O => ∃ (m0 : Nat) (I : Nat → Gm → Store → Prop), m0 < LL ∧ I m0 Γ M ∧ ∀ (m : Nat) (Γ' : Gm) (M' : Store), m ≤ m0 → I m Γ' M' → tt Γ' M' (fun k M2 => (k = true → tb Γ' M2 { nx := fun Γ2 M3 => ∃ m', m' < m ∧ I m' Γ2 M3, ct := fun Γ2 M3 => ∃ m', m' < m ∧ I m' Γ2 M3, bk := O.nx, rt := O.rt, xx := O.xx }) ∧ (k = false → O.nx Γ' M2)) (O.xx Γ')
theorem st_while {t : Expr} {body : List Stmt} {tt : TfT} {tb : TfS} (hp : PassesOwn (model X.prog X.w) X.A X.env X.xe) (ht : PXT cs X W c1 t tt) (hb : PSU cs X W c2 body tb) : PST cs X W (LL * (c1 + c2)) (.While t body [] pos) (tWhile tt tb) := ⟨fun u n H σ Γ O E A hn ⟨m0, I, hm0, h0, h⟩ k => by
  refine tws_of (ps_while hp (twt_pt X t) (twss_pss X body)) ?_
  refine ⟨fun m σ' Hc => m ≤ m0 ∧ ∃ Γ' u', Nx u H u' Hc ∧ At cs u' (n + (m0 - m) * (c1 + c2)) Hc σ' Γ' ∧ I m Γ' u'.M, ⟨m0, Nat.le_refl _, Γ, u, Nx.refl, by simpa using A, h0⟩, fun m σ' Hc ⟨hm, Γ', u', x, T, hI⟩ => ?_⟩
  have hmul : (m0 - m) * (c1 + c2) + (c1 + c2) ≤ LL * (c1 + c2) := by
    rw [← Nat.succ_mul]; exact Nat.mul_le_mul_right _ (by omega)
  refine ht.run u' _ Hc σ' Γ' _ _ _ T (by omega) (h m Γ' _ hm hI) (fun bb u1 H1 x1 B1 ⟨q1, q2⟩ => ?_) ((k.go A.toWd x (by omega)).kx T (Nat.le_refl _))
  have x01 := x.trans A.toWd x1
  have T1 : At cs u1 (n + (m0 - m) * (c1 + c2) + c1) H1 σ' Γ' := T.step x1 B1
  have fin : ∀ m', m' < m → (m0 - m) * (c1 + c2) + (c1 + c2) ≤ (m0 - m') * (c1 + c2) := fun m' h' => by
    rw [← Nat.succ_mul]; exact Nat.mul_le_mul_right _ (by omega)
  cases bb with
  | true =>
    show ∃ N : L2.St → Hp → Prop, _
    refine ⟨fun σ2 H2 => ∃ m', m' < m ∧ (m' ≤ m0 ∧ ∃ Γ2 u2, Nx u H u2 H2 ∧ At cs u2 (n + (m0 - m') * (c1 + c2)) H2 σ2 Γ2 ∧ I m' Γ2 u2.M), fun σ2 H2 z => z, ?_⟩
    refine hb.run u1 _ H1 σ' Γ' _ _ T1 (by omega) (q1 rfl) ⟨fun Γ2 σ2 u2 H2 x2 A2 ⟨m', l, q⟩ => ⟨m', l, by omega, Γ2, u2, x01.trans A.toWd x2, A2.up (by have := fin m' l; omega), q⟩, fun v2 d2 u2 H2 x2 B2 r2 q2 => k.rt v2 d2 u2 H2 (x01.trans A.toWd x2) (B2.up (by omega)) r2 q2, fun Γ2 σ2 u2 H2 x2 A2 q2 => k.nx Γ2 σ2 u2 H2 (x01.trans A.toWd x2) (A2.up (by omega)) q2,
      fun Γ2 σ2 u2 H2 x2 A2 ⟨m', l, q⟩ => ⟨m', l, by omega, Γ2, u2, x01.trans A.toWd x2, A2.up (by have := fin m' l; omega), q⟩, fun cls od c fs Γ2 σ2 u2 H2 x2 A2 r2 q2 => k.xx cls od c fs Γ2 σ2 u2 H2 (x01.trans A.toWd x2) (A2.up (by omega)) r2 q2⟩
  | false => exact k.nx Γ' σ' u1 H1 x01 (T1.up (by omega)) (q2 rfl)⟩
end
end Ev
-- EvK
namespace Ev
open PySem PySem.Spec PyProof.Rows L2 ClX
/-! ### list comprehensions -/
abbrev XNo : XP := fun _ _ _ => False
abbrev WN : WX := fun _ _ _ _ => False
def wG (Γ : Gm) : List Nat → Gm
  | [] => Γ
  | v :: vs => (wG Γ vs).set v none
theorem At.wipe {cs : CS} {u : U} {n : Nat} {H : Hp} {σ : L2.St} {Γ : Gm} (A : At cs u n H σ Γ) : ∀ (js : List Nat), At cs u n H (L2.wipe σ js) (wG Γ js)
  | [] => A
  | j :: js => by
    have B := A.wipe js
    refine ⟨B.toWd, by unfold L2.wipe wG; rw [List.length_set, List.length_set]; exact B.lenS, fun i d g => ?_⟩
    unfold wG at g
    rcases get_set g with ⟨_, e⟩ | ⟨ne, g⟩
    · cases e
    · obtain ⟨v, h1, h2⟩ := B.sl i d g
      exact ⟨v, by unfold L2.wipe; rw [List.getElem?_set_ne (Ne.symm ne)]; exact h1, h2⟩
/-- the context of a comprehension's block -/
abbrev Blk (X : Cx) (scope : Scope) (s : Shared) (H : Hp) (C : Addr) (cl : List (Str × Addr)) (fp : List Addr) : Cx := X.blk s H scope (compEnvC scope cl C X.env) fp
def tYesT : TfT := fun _ M post _ => post true M
structure PXC (cs : CS) (X : Cx) (c : Nat) (ifs : List Expr) (t : TfT) : Prop where
  run : ∃ tt : TT, PTs X ifs tt ∧ ∀ (u : U) (n : Nat) (H : Hp) (σ : L2.St) (Γ : Gm) (post : Bool → Store → Prop) (Q : Bool → Hp → Prop), At cs u n H σ Γ → n + c ≤ lim → t Γ u.M post XNo → KB cs u (n + c) H post Q → tt σ H Q
theorem kxN {cs : CS} {u : U} {n : Nat} {H : Hp} {σ : L2.St} {W : WX} : KX cs u n H σ XNo W := fun _ _ _ _ _ _ _ _ _ h => h.elim
def tLc (g : TfG) (js : List Nat) (ti : TfI) (tt : TfT) (te : TfE) : TfE := fun Γ M post xp => ti Γ M (fun ds S M1 => ds.length ≤ 100000 ∧ ∃ I : Nat → List D → Store → Prop, I 0 [] M1 ∧ (∀ k acc M', k ≤ ds.length → I k acc M' → S M') ∧ (∀ acc M', I ds.length acc M' → post (.lst acc) M') ∧
  ∀ k d acc M', ds[k]? = some d → I k acc M' → g d (wG Γ js) (fun Γ' => tt Γ' M' (fun b M2 => (b = true → te Γ' M2 (fun y M3 => I (k + 1) (acc ++ [y]) M3) XNo) ∧ (b = false → I (k + 1) acc M2)) XNo)) xp
/-! ### a list that is held back -/
section
variable {cs : CS} {u : U} {n : Nat} {H H' : Hp} {a : Addr} {σ : L2.St} {Γ : Gm}
def U.hold (u : U) (a : Addr) : U := { u with x := a :: u.x }
def U.give (u : U) (x : List Addr) : U := { u with x := x }
theorem hold_nx (ha : H a = none) (k : Keep H H') : Nx u H (u.hold a) H' := ⟨rfl, rfl, fun _ h => List.mem_cons_of_mem _ h, fun b h => by
    rcases List.mem_cons.mp h with h | h
    · rw [h]; exact .inr ha
    · exact .inl h, fun _ _ h => h, fun _ h => h, fun i b h hi => (by have h : u.μ[i]? = some b := h; rw [List.getElem?_eq_none hi] at h; cases h), fun b o _ _ h => k b o h, fun b o h => ⟨o, k b o h⟩⟩
theorem hold_wd (A : Wd cs u n H) (ha : H a = none) (ws : List V) : Wd cs (u.hold a) n (upd H a (.lst ws)) := by
  have k : Keep H (upd H a (.lst ws)) := Keep.new ha
  have x : Nx u H (u.hold a) (upd H a (.lst ws)) := hold_nx ha k
  obtain ⟨ns, t, r, a1, a4, _⟩ := id A.pen
  refine ⟨A.ks, (A.pen.keep k).as rfl rfl, fun f => ?_, A.len, A.inj, A.np, fun b h => ?_, fun b h => ?_, fun i b c h1 h2 => (A.cell i b c h1 h2).mono (x.cy A) (fun o _ e => k _ _ e) (fun o e => ⟨o, k _ _ e⟩)⟩
  · rcases f with f | f
    · exact A.cF (.inl f)
    · rcases List.mem_cons.mp f with f | f
      · have f : u.k.cl = a := f
        rw [f, ha] at a4; cases a4
      · exact A.cF (.inr f)
  · rcases List.mem_cons.mp h with h | h
    · rw [h]; exact ⟨ws, upd_same⟩
    · obtain ⟨vs, e⟩ := A.xl b h
      exact ⟨vs, k _ _ e⟩
  · rcases List.mem_cons.mp h with h | h
    · rw [h]
      refine ⟨fun z => ?_, fun i z => ?_⟩
      · have z : a = u.p := z
        rw [← z, ha] at a1; cases a1
      · have z : u.μ[i]? = some a := z
        obtain ⟨q, hq⟩ := A.of_mu z
        obtain ⟨o, ho⟩ := (A.cell i a q z hq).there
        rw [ha] at ho; cases ho
    · exact A.xd b h
/-- it is written -/
theorem held_cy (hx : a ∈ u.x) {o : HO} : Cy u u H (upd H a o) := ⟨rfl, rfl, fun _ _ h => h, fun b o f _ e => by rw [upd_ne (fun z => f (by rw [z]; exact .inr hx))]; exact e, fun _ _ f _ => f⟩
theorem held_wd (A : Wd cs u n H) (hx : a ∈ u.x) (ws : List V) : Wd cs u n (upd H a (.lst ws)) := by
  obtain ⟨vs, hv⟩ := A.xl a hx
  refine ⟨A.ks, ?_, A.cF, A.len, A.inj, A.np, fun b h => ?_, A.xd, fun i b c h1 h2 => ?_⟩
  · obtain ⟨ns, t, r, a1, a4, a5, a6, a7, a8, a9, a10, a11⟩ := A.pen
    exact ⟨ns, t, r, by rw [upd_ne (Ne.symm (A.xd a hx).1)]; exact a1, by rw [upd_ne (fun z => A.cF (by rw [z]; exact .inr hx))]; exact a4, a5, a6, a7, a8, a9, a10, tabs_upd a11 hv Pl.lst⟩
  · by_cases hb : b = a
    · rw [hb]; exact ⟨ws, upd_same⟩
    · obtain ⟨vs, e⟩ := A.xl b h
      exact ⟨vs, by rw [upd_ne hb]; exact e⟩
  · have ne : b ≠ a := fun z => (A.xd a hx).2 i (by rw [← z]; exact h1)
    exact (A.cell i b c h1 h2).mono (held_cy hx) (fun o _ e => by rw [upd_ne ne]; exact e) (fun o e => ⟨o, by rw [upd_ne ne]; exact e⟩)
theorem held_at (A : At cs u n H σ Γ) (hx : a ∈ u.x) (ws : List V) : At cs u n (upd H a (.lst ws)) σ Γ := ⟨held_wd A.toWd hx ws, A.lenS, fun i d g => by
  obtain ⟨v, h1, h2⟩ := A.sl i d g
  exact ⟨v, h1, Rep.mono (held_cy hx) _ _ h2⟩⟩
/-- it is let go -/
theorem give_F {x : List Addr} (hx : ∀ b ∈ x, b ∈ u.x) {b : Addr} (f : (u.give x).F b) : u.F b := f.elim .inl fun h => .inr (hx b h)
theorem give_cy {x : List Addr} (hx : ∀ b ∈ x, b ∈ u.x) : Cy u (u.give x) H H := ⟨rfl, rfl, fun _ _ h => h, fun _ _ _ _ e => e, fun _ _ f _ z => f (give_F hx z)⟩
theorem give_wd {x : List Addr} (A : Wd cs u n H) (hx : ∀ b ∈ x, b ∈ u.x) : Wd cs (u.give x) n H :=
  ⟨A.ks, A.pen.as rfl rfl, fun f => A.cF (give_F hx f), A.len, A.inj, A.np, fun b h => A.xl b (hx b h), fun b h => A.xd b (hx b h), fun i b c h1 h2 => (A.cell i b c h1 h2).mono (give_cy hx) (fun _ _ e => e) (fun o e => ⟨o, e⟩)⟩
end
section
variable {cs : CS} {X : Cx} {W : WX} {c c1 c2 c3 : Nat} {a b e : Expr} {pos : Pos} {tg : Expr}
/-- a comprehension's readings, told for a value and for a store -/
structure PLC (cs : CS) (X : Cx) (W : WX) (c : Nat) (e : Expr) (t : TfE) : Prop where
  run : ∃ (elt tg iter : Expr) (ifs : List Expr) (scope : Scope) (pos : Pos) (own : List (Str × Nat)) (wi : TI) (g : TG) (tt : TT) (te : TE), e = .ListComp elt [⟨tg, iter, ifs, 0⟩] scope pos ∧ BlkOk X.N X.env.scope scope own ∧ PI X tg iter wi ∧
    (∀ (s : Shared) (H : Hp) (C : Addr) (cl : List (Str × Addr)) (fp : List Addr), PG (Blk X scope s H C cl fp) tg g) ∧ (∀ (s : Shared) (H : Hp) (C : Addr) (cl : List (Str × Addr)) (fp : List Addr), PTs (Blk X scope s H C cl fp) ifs tt) ∧
    (∀ (s : Shared) (H : Hp) (C : Addr) (cl : List (Str × Addr)) (fp : List Addr), PE (Blk X scope s H C cl fp) elt te) ∧ (∀ x, foldedSetIterable iter X.env x = pure x) ∧
    ∀ (u : U) (n : Nat) (H : Hp) (σ : L2.St) (Γ : Gm) (post : DP) (xp : XP) (Q : VK), At cs u n H σ Γ → n + c ≤ lim → t Γ u.M post xp → KN cs u (n + c) H post Q → KX cs u (n + c) H σ xp W → L2.tLc wi g tt te (own.map (·.2)) σ H Q
theorem px_lc {t : TfE} (hN : X.N.Nodup) (h : PLC cs X W c e t) (hc : X.calm = true := by rfl) : PX cs X W c e t := ⟨fun u n H σ Γ post xp Q A hn q kn kx => by
  obtain ⟨elt, tg, iter, ifs, scope, pos, own, wi, g, tt, te, rfl, ok, hi, hg, ht, he, hs, hq⟩ := h.run
  exact tw_of (pe_lc hc hN hi ok hg ht he hs) (hq u n H σ Γ post xp Q A hn q kn kx)⟩
/-- y = [comprehension], on one line, y a plain local -/
theorem st_asgLc (i : Nat) {y : Str} {py spos : Pos} {t : TfE} (hN : X.N.Nodup) (h : PLC cs X W c e t) (hi : X.N[i]? = some y := by rfl) (hy : X.env.scope.names.lookup y = some .local := by rfl) (hsw : swapsWith e (some (.Name y py)) spos.line X.env = pure true := by first | kernel_rfl | rfl)
    (hc : X.calm = true := by rfl) : PST cs X W c (.Assign [.Name y py] e spos) (tAsg i t) := ⟨fun u n H σ Γ O E A hn q k => by
  obtain ⟨elt, tg, iter, ifs, scope, pos, own, wi, g, tt, te, rfl, ok, hpi, hg, ht, he, hs, hq⟩ := h.run
  refine tws_of (ps_setLc hc hN hi hy hsw hpi ok hg ht he hs) ?_
  exact hq u n H σ Γ _ _ _ A hn q (fun v d u1 H1 e1 B1 r1 q1 => k.nx _ _ u1 H1 e1 ((A.step e1 B1).set r1) q1) (k.kx A (Nat.le_refl _))⟩
def blkG (X : Cx) (scope : Scope) (tg : Expr) : TG := fun v σ H Q => ∀ (s : Shared) (H0 : Hp) (C : Addr) (cl : List (Str × Addr)) (fp : List Addr), TWG (Blk X scope s H0 C cl fp) tg v σ H Q
def blkE (X : Cx) (scope : Scope) (e : Expr) : TE := fun σ H Q => ∀ (s : Shared) (H0 : Hp) (C : Addr) (cl : List (Str × Addr)) (fp : List Addr), TW (Blk X scope s H0 C cl fp) e σ H Q
/-- the readings of elements and tests: the same for all blocks -/
theorem plc {elt iter : Expr} {ifs : List Expr} {scope : Scope} {own : List (Str × Nat)} {is : List Nat} {g : TfG} {ti : TfI} {tt : TfT} {te : TfE} (ok : BlkOk X.N X.env.scope scope own) (hw : ∀ i ∈ is, i ∈ own.map (·.2))
    (hi : PXI cs X W c1 tg iter ti) (hg : ∀ (s : Shared) (H : Hp) (C : Addr) (cl : List (Str × Addr)) (fp : List Addr), PXG cs (Blk X scope s H C cl fp) tg is g)
    (ht : (ifs = [] ∧ tt = tYesT) ∨ ∃ t, ifs = [t] ∧ ∀ (s : Shared) (H : Hp) (C : Addr) (cl : List (Str × Addr)) (fp : List Addr), PXT cs (Blk X scope s H C cl fp) WN c2 t tt)
    (he : ∀ (s : Shared) (H : Hp) (C : Addr) (cl : List (Str × Addr)) (fp : List Addr), PX cs (Blk X scope s H C cl fp) WN c3 elt te) (hs : ∀ x, foldedSetIterable iter X.env x = pure x := by intro _; rfl) :
    PLC cs X W (c1 + LL * (c2 + c3)) (.ListComp elt [⟨tg, iter, ifs, 0⟩] scope pos) (tLc g (own.map (·.2)) ti tt te) := by
  obtain ⟨tt', hpt, htt⟩ : ∃ tt' : TT, (∀ (s : Shared) (H : Hp) (C : Addr) (cl : List (Str × Addr)) (fp : List Addr), PTs (Blk X scope s H C cl fp) ifs tt') ∧
      ∀ (u : U) (n : Nat) (H : Hp) (σ : L2.St) (Γ : Gm) (post : Bool → Store → Prop) (Q : Bool → Hp → Prop), At cs u n H σ Γ → n + c2 ≤ lim → tt Γ u.M post XNo → KB cs u (n + c2) H post Q → tt' σ H Q := by
    rcases ht with ⟨e1, e2⟩ | ⟨t, e1, h⟩
    · subst e1; subst e2
      exact ⟨tYes, fun _ _ _ _ _ => pts_nil, fun u n H σ Γ post Q A hn q k => k true u H Nx.refl (A.toWd.up (by omega)) q⟩
    · subst e1
      exact ⟨fun σ H Q => ∀ (s : Shared) (H0 : Hp) (C : Addr) (cl : List (Str × Addr)) (fp : List Addr), TWT (Blk X scope s H0 C cl fp) t σ H Q, fun s H C cl fp => pts_one ⟨fun pins s' σ H' Q I h => (h s H C cl fp) pins s' I⟩,
        fun u n H σ Γ post Q A hn q k s H0 C cl fp => (h s H0 C cl fp).run u n H σ Γ post XNo Q A hn q k kxN⟩
  refine ⟨elt, tg, iter, ifs, scope, pos, own, TWI X tg iter, blkG X scope tg, tt', blkE X scope elt,
    rfl, ok, twi_pi X _ iter, fun s H C cl fp => ⟨fun pins s' σ H' v u Q I r h => (h s H C cl fp).run pins s' u I r⟩, hpt, fun s H C cl fp => ⟨fun pins s' σ H' Q I h => (h s H C cl fp) pins s' I⟩, hs, fun u n H σ Γ post xp Q A hn q kn kx => ?_⟩
  refine hi.run u n H σ Γ _ xp _ A (by omega) q (fun J ds S u1 H1 e1 B1 wk ⟨hz, I, h0, hS, hd, hst⟩ => ?_) (kx.le (by omega))
  intro Dl hD
  obtain ⟨G, Y, wl, hG, hY⟩ := wk.ex
  have hzl : ds.length ≤ LL := Nat.le_trans hz (by unfold LL; decide)
  have hmul : ∀ i, i ≤ ds.length → i * (c2 + c3) ≤ LL * (c2 + c3) := fun i hi => Nat.mul_le_mul_right _ (Nat.le_trans hi hzl)
  have idem : ∀ (js ks : List Nat) (σ : L2.St), (∀ j ∈ js, j ∈ ks) → wipe (wipe σ js) ks = wipe σ ks := by
    intro js
    induction js with
    | nil => intro ks σ _; rfl
    | cons j js ih =>
      intro ks σ h
      show wipe ((wipe σ js).set j none) ks = _
      rw [wipe_set (h j List.mem_cons_self), ih ks σ fun k hk => h k (List.mem_cons_of_mem _ hk)]
  refine lc_it (g := blkG X scope tg) (tt := tt') (te := blkE X scope elt) (vs := own.map (·.2)) (σ := σ) (H1 := H1) (D := Dl) (Qd := fun Hq => Q (.ref Dl) Hq) wl (fun i Hc => ∃ acc dacc u', Nx u1 H1 u' Hc ∧ Dl ∈ u'.x ∧ At cs u' (n + c1 + i * (c2 + c3)) Hc σ Γ ∧ Hc Dl = some (.lst acc) ∧ RepL u' Hc dacc acc ∧ acc.length ≤ i ∧ I i dacc u'.M) ?_ (fun i Hc hi ⟨_, _, u', x, _, T, _, _, _, hI⟩ => hG u' _ Hc x T.toWd (hS i _ _ hi hI)) (fun i v Hc Hc' hi ⟨acc, dacc, u', x, xm, T, hacc, ra, hl, hI⟩ hy => ?_) (fun Hc ⟨acc, dacc, u', x, xm, T, hacc, ra, hl, hI⟩ => ?_)
  · have x := hold_nx (u := u1) hD (Keep.new hD (o := .lst []))
    have e1x := e1.trans A.toWd x
    exact ⟨[], [], u1.hold Dl, x, List.mem_cons_self, by simpa using A.step e1x (hold_wd B1 hD []), upd_same, RepL.nil, Nat.le_refl _, h0⟩
  · obtain ⟨kp, d, hd', rd⟩ := hY u' _ i Hc v Hc' x T.toWd (hS i _ _ (Nat.le_of_lt hi) hI) hi hy
    have T1 : At cs u' (n + c1 + i * (c2 + c3)) Hc' σ Γ := T.step kp.nx (kp.wd T.toWd)
    have x1 : Nx u1 H1 u' Hc' := x.trans B1 kp.nx
    have hb := hmul (i + 1) hi
    have hs1 : (i + 1) * (c2 + c3) = i * (c2 + c3) + (c2 + c3) := by rw [Nat.succ_mul]
    have nL : ¬ u'.L Dl := fun z => z.elim (T.xd Dl xm).1 fun ⟨j, c, z, _⟩ => (T.xd Dl xm).2 j z
    intro s0 H0 C0 cl0 fp0
    refine (hg s0 H0 C0 cl0 fp0).run u' _ Hc' _ _ d v _ _ (T1.wipe (own.map (·.2))) rd (hst i d dacc _ hd' hI) fun Γ2 σ2 A2 w2 q2 => ?_
    refine ⟨(w2 _ hw).trans (idem _ _ _ fun _ h => h), ?_⟩
    refine htt u' _ Hc' σ2 Γ2 _ _ A2 (by omega) q2 fun b u3 H3 x3 B3 ⟨q3, q4⟩ => ?_
    have A3 := A2.step x3 B3
    have x13 := x1.trans B1 x3
    cases b with
    | false =>
      refine ⟨acc, dacc, u3, x13, x3.x1 Dl xm, ?_, x3.go Dl _ nL nofun (kp _ _ hacc), (ra.go T.toWd kp.nx).go T1.toWd x3, Nat.le_succ_of_le hl, q4 rfl⟩
      rw [hs1, ← Nat.add_assoc, ← Nat.add_assoc]
      exact (T1.step x3 B3).up (by omega)
    | true =>
      intro s4 H4' C4 cl4 fp4
      refine (he s4 H4' C4 cl4 fp4).run u3 _ H3 σ2 Γ2 _ XNo _ A3 (by omega) (q3 rfl) (fun y dy u4 H4 x4 B4 r4 q4 => ?_) kxN
      have x34 := x3.trans T1.toWd x4
      have xm4 : Dl ∈ u4.x := x34.x1 Dl xm
      have g4 : H4 Dl = some (.lst acc) := x34.go Dl _ nL nofun (kp _ _ hacc)
      have x14 := x1.trans B1 x34
      refine ⟨acc, g4, Nat.lt_of_le_of_lt (Nat.le_trans hl (Nat.le_of_lt hi)) (Nat.lt_of_le_of_lt hz (by decide)), acc ++ [y], dacc ++ [dy], u4, ?_, xm4, ?_, upd_same, ?_, by simpa using hl, q4⟩
      · exact ⟨x14.p, x14.k, x14.x1, x14.x2, x14.mu, x14.dd, x14.nw, fun b o f t g => by rw [upd_ne (ne_of_none g hD)]; exact x14.go b o f t g, fun b o g => by rw [upd_ne (ne_of_none g hD)]; exact x14.th b o g⟩
      · have := held_at (T1.step x34 B4) xm4 (acc ++ [y])
        rw [hs1, ← Nat.add_assoc, ← Nat.add_assoc]; exact this
      · have rr : RepL u4 H4 (dacc ++ [dy]) (acc ++ [y]) := RepL.append ((ra.go T.toWd kp.nx).go T1.toWd x34) (RepL.cons r4 RepL.nil)
        exact RepL.mono (held_cy xm4) _ _ rr
  · have hb := hmul ds.length (Nat.le_refl _)
    have sub : ∀ b ∈ u1.x, b ∈ u'.x := x.x1
    have xg : Nx u1 H1 (u'.give u1.x) Hc := ⟨x.p, x.k, fun _ h => h, fun _ h => .inl h, x.mu, x.dd, x.nw, x.go, x.th⟩
    have nF : ¬ (u'.give u1.x).F Dl := fun f => by
      rcases f with f | f
      · rcases f with z | ⟨j, c, z, _⟩
        · exact (T.xd Dl xm).1 z
        · exact (T.xd Dl xm).2 j z
      · obtain ⟨vs, e⟩ := B1.xl Dl f
        rw [hD] at e; cases e
    exact kn (.ref Dl) (.lst dacc) _ Hc (e1.trans A.toWd xg) ((give_wd T.toWd sub).up (by omega)) ⟨Dl, acc, rfl, nF, hacc, RepL.mono (give_cy sub) _ _ ra⟩ (hd dacc _ hI)
end
end Ev
-- EvL
namespace Ev
open PySem PySem.Spec PyProof.Rows L2 ClX
/-! ### a def's promise, where no display of a value is under way -/
structure RoomG (k : Nat) (A : Around) : Prop where
  room : Room k A
  gd : A.guards = some []
theorem RoomG.mono {j k : Nat} {A : Around} (r : RoomG k A) (h : j ≤ k) : RoomG j A := ⟨r.room.mono h, r.gd⟩
theorem RoomG.make {k : Nat} {A : Around} (r : RoomG (k + 1) A) (C : Addr) (us : List Value) (kw : List (Str × Value)) : RoomG k (A.under (.builtin "type.__call__" ⟨.ref C :: us, kw⟩)) := by
  refine ⟨r.room.make C us kw, ?_⟩
  unfold Around.under
  rw [r.gd]; rfl
structure FnG (P : Program) (w : World) (K : PySem.W.Frag) (mg : Str → Option Value) (base : Heap) (CX : CXT) (k : Nat) (f : Addr) (fd : FuncData) (ps : List Str) (sp : Sp) : Prop where
  len : ∀ vs H Q E, sp vs H Q E → vs.length = ps.length
  go : ∀ (A : Around) (outer : List Env) (s : Shared) (H : Hp) (args : Args) (us : List Value) (vs : List V) (Q : VK) (E : XK), RoomG k A → Env0 P w K mg base A outer s H → BindsTo s fd args (ps.zip us) → Vals vs us → sp vs H Q E →
    codeAny (model P w) A (.call (.ref f) args) (CR CX outer P w H s Q E) s
theorem FnG.mono {P : Program} {w : World} {K : PySem.W.Frag} {mg : Str → Option Value} {base : Heap} {CX : CXT} {j k : Nat} {f : Addr} {fd : FuncData} {ps : List Str} {sp : Sp} (F : FnG P w K mg base CX j f fd ps sp) (h : j ≤ k) : FnG P w K mg base CX k f fd ps sp :=
  ⟨F.len, fun A outer s H args us vs Q E hr => F.go A outer s H args us vs Q E (hr.mono h)⟩
/-- from a def's text and its body's walk -/
theorem fnG_of {P : Program} {w : World} {K : PySem.W.Frag} {mg : Str → Option Value} {base : Heap} {x qual : Str} {st : Stmt} {f : Addr} {fd : FuncData} {N ps : List Str} {k : Nat} {sp : Sp} (F : Fun K x qual st f fd) (S : FnScope N ps (defScope st)) (len : ∀ vs H Q E, sp vs H Q E → vs.length = ps.length)
    (hbody : ∀ (cdv : Value) (A : Around) (outer : List Env) (s : Shared) (H : Hp) (vs : List V) (Q : VK) (E : XK), RoomG k (A.deeper (envOfC qual (defScope st) s.heap.objs.size f cdv)) → sp vs H Q E →
      ∃ t, PSs (cxOf (L2.CX P w) P w K mg base N qual (defScope st) f cdv A outer s H E) (defBody st) t ∧ t { nx := fun _ H' => Q .non H', rt := Q } (L2.start N vs) H) : FnG P w K mg base (L2.CX P w) (k + 1) f fd ps sp := by
  obtain ⟨oc, od, kV, doc, pm, an, cdv, ct, osl, rfl, lk, hcd⟩ := F.ex
  refine ⟨len, fun A outer s H args us vs Q E hr e0 hb r hsp => LamX.run_ofS lk hcd S hr.room e0 hb r (len _ _ _ _ hsp) fun hr' => ?_⟩
  obtain ⟨t, h, q⟩ := hbody cdv A outer s H vs Q E ⟨hr', hr.gd⟩ hsp
  exact ⟨t, h, q⟩
section
variable {X : Cx} {CX : CXT} {k : Nat} {f C : Addr} {fd : FuncData} {ps : List Str} {sp : Sp} {pins : List (Addr × Obj)} {σ : L2.St} {H : Hp} {s : Shared} {Q : VK} {E : XK}
/-- the callee's way back -/
theorem back_g {r : Result} {s' : Shared} (hx : ∀ e, CX X.stack H s E e s' → X.xe e s') (I : Inv X pins σ H s) (hq : CR CX X.stack X.prog X.w H s Q E r s') : (match r with | .ok (.ret u) => EP X pins σ Q u s' | .ok _ => False | .error e => X.xe e s') := by
  cases r with
  | error e => exact hx e hq
  | ok fl => cases fl with
    | ret u => exact I.after hq
    | next => exact hq.elim
    | brk => exact hq.elim
    | cont => exact hq.elim
/-- a def run on bound values -/
theorem run_g {us us' : List Value} {kw : List (Str × Value)} {vs : List V} (F : FnG X.prog X.w X.K X.mg X.base CX k f fd ps sp) (hr : RoomG k X.A) (hx : ∀ e s', CX X.stack H s E e s' → X.xe e s') (I : Inv X pins σ H s) (r : Vals vs us') (hb : BindsTo s fd ⟨us, kw⟩ (ps.zip us')) (h : sp vs H Q E) :
    wpAny (model X.prog X.w) X.A (call (.ref f) us kw) (EP X pins σ Q) X.xe s := by
  refine wpAny_call (codeAny_mono (F.go X.A X.stack s H ⟨us, kw⟩ us' vs Q E hr I.env0 hb r h) fun r' s' hq => ?_)
  have hh := back_g (fun e => hx e s') I hq
  cases r' with
  | error e => exact hh
  | ok fl => cases fl <;> first | exact hh | exact hh.elim
/-- an instance made, its __init__ run on bound values -/
theorem make_g {us us' : List Value} {kw : List (Str × Value)} {vs : List V} (M : Mk X.K C f) (F : FnG X.prog X.w X.K X.mg X.base CX k f fd ps sp) (hr : RoomG (k + 1) X.A) (I : Inv X pins σ H s)
    (hx : ∀ s2 H2 e s', Inv X pins σ H2 s2 → CX X.stack H2 s2 E e s' → X.xe e s') (r : ∀ x, Vals (.ref x :: vs) (.ref x :: us'))
    (hb : ∀ (s2 : Shared) (x : Addr), X.K.In s2.heap → BindsTo s2 fd ⟨.ref x :: us, kw⟩ (ps.zip (.ref x :: us')))
    (h : ∀ x dx, H x = none → H dx = none → dx ≠ x → sp (.ref x :: vs) (upd (upd H dx (.own x)) x (.ins C dx [])) (fun v H2 => v = .non ∧ Q (.ref x) H2) E) :
    wpAny (model X.prog X.w) X.A (call (.ref C) us kw) (EP X pins σ Q) X.xe s := by
  have hq := h (s.heap.objs.size + 1) s.heap.objs.size (I.hok.fresh (Nat.le_succ _)) (I.hok.fresh (Nat.le_refl _)) (Nat.ne_of_lt (Nat.lt_succ_self _))
  have J := Inv.made (C := C) I
  refine wpAny_call (make_map (f := f) I.kIn M.makes M.init (beq_iff_eq.mp M.fn) (codeAny_mono (F.go _ X.stack _ _ ⟨.ref (s.heap.objs.size + 1) :: us, kw⟩ (.ref (s.heap.objs.size + 1) :: us') _ _ E (hr.make C us kw) (J.env0.make C us kw) (hb _ _ J.kIn) (r _) hq) fun r' s' hq' => ?_))
  have hh := back_g (fun e => hx _ _ e s' J) J hq'
  cases r' with
  | error e => exact hh
  | ok fl => cases fl with
    | next => exact hh.elim
    | brk => exact hh.elim
    | cont => exact hh.elim
    | ret u =>
      obtain ⟨v, H', J2, rv, ev, q⟩ := hh
      subst ev
      exact ⟨rv, .ref (s.heap.objs.size + 1), H', J2, rfl, q⟩
end
/-! ### data without numbers of the store from n on -/
mutual
def D.lt (n : Nat) : D → Prop
  | .loc i => i < n
  | .tup ds => D.ltL n ds
  | .lst ds => D.ltL n ds
  | .dic kvs => D.ltK n kvs
  | .obj _ _ fs => D.ltF n fs
  | .exc _ _ fs => D.ltF n fs
  | .fn _ _ _ _ ds => D.ltL n ds
  | _ => True
def D.ltL (n : Nat) : List D → Prop
  | [] => True
  | d :: ds => D.lt n d ∧ D.ltL n ds
def D.ltK (n : Nat) : List (Key × D) → Prop
  | [] => True
  | (_, d) :: ds => D.lt n d ∧ D.ltK n ds
def D.ltF (n : Nat) : List (Str × D) → Prop
  | [] => True
  | (_, d) :: ds => D.lt n d ∧ D.ltF n ds
end
/-- a lower world -/
structure Dn (u' u : U) (n : Nat) : Prop where
  p : u.p = u'.p
  k : u.k = u'.k
  mu : ∀ (i : Nat) (a : Addr), i < n → u'.μ[i]? = some a → u.μ[i]? = some a
  F : ∀ a, u.F a → u'.F a
mutual
theorem Rep.dn {u' u : U} {n : Nat} {H : Hp} (c : Dn u' u n) : ∀ (d : D) (v : V), d.lt n → Rep u' H d v → Rep u H d v
  | .non, v, _, h => h
  | .bl b, v, _, h => h
  | .int i, v, _, h => h
  | .str x, v, _, h => h
  | .pen, v, _, h => by
    have h : v = .ref u'.p := h
    show v = .ref u.p
    rw [c.p]; exact h
  | .ref a, v, _, h => h
  | .cls a, v, _, h => by
    have h : u'.k.cls[a]? = some v ∧ v ≠ .non := h
    show u.k.cls[a]? = some v ∧ v ≠ .non
    rw [c.k]; exact h
  | .ty n, v, _, h => h
  | .loc i, v, l, h => by
    obtain ⟨a, e, g⟩ := h.locE
    exact ⟨a, e, c.mu i a l g⟩
  | .tup ds, v, l, h => by
    obtain ⟨a, vs, e, f, g, r⟩ := h.tupE
    exact ⟨a, vs, e, fun z => f (c.F a z), g, RepL.dn c ds vs l r⟩
  | .lst ds, v, l, h => by
    obtain ⟨a, vs, e, f, g, r⟩ := h.lstE
    exact ⟨a, vs, e, fun z => f (c.F a z), g, RepL.dn c ds vs l r⟩
  | .dic kvs, v, l, h => by
    obtain ⟨a, vs, e, f, g, r⟩ := h.dicE
    exact ⟨a, vs, e, fun z => f (c.F a z), g, RepK.dn c kvs vs l r⟩
  | .obj a C fs, v, l, h => by
    obtain ⟨C', dx, vs, e, f, hc, g, r⟩ := h.objE
    exact ⟨C', dx, vs, e, fun z => f (c.F a z), by rw [c.k]; exact hc, g, RepF.dn c fs vs l r⟩
  | .exc a C fs, v, l, h => by
    obtain ⟨C', od, us, e, f, hc, g, r, z⟩ := h.excE
    exact ⟨C', od, us, e, fun z => f (c.F a z), by rw [c.k]; exact hc, g, RepF.dn c fs us l r, z.imp id fun ⟨dd, z1, z2, z3⟩ => ⟨dd, z1, fun q => z2 (c.F dd q), z3⟩⟩
  | .fn f c' q vs ds, v, l, h => by
    obtain ⟨e, h1, h2, h3⟩ := h.fnE
    exact ⟨e, fun z => h1 (c.F c' z), h2, RepL.dn c ds vs l h3⟩
theorem RepL.dn {u' u : U} {n : Nat} {H : Hp} (c : Dn u' u n) : ∀ (ds : List D) (vs : List V), D.ltL n ds → RepL u' H ds vs → RepL u H ds vs
  | [], vs, _, h => h
  | d :: ds, vs, l, h => by
    obtain ⟨v, r, e, a, b⟩ := (show ∃ v r, vs = v :: r ∧ Rep u' H d v ∧ RepL u' H ds r from h)
    exact ⟨v, r, e, Rep.dn c d v l.1 a, RepL.dn c ds r l.2 b⟩
theorem RepK.dn {u' u : U} {n : Nat} {H : Hp} (c : Dn u' u n) : ∀ (ds : List (Key × D)) (vs : List (Key × V)), D.ltK n ds → RepK u' H ds vs → RepK u H ds vs
  | [], vs, _, h => h
  | (q, d) :: ds, vs, l, h => by
    obtain ⟨v, r, e, a, b⟩ := (show ∃ v r, vs = (q, v) :: r ∧ Rep u' H d v ∧ RepK u' H ds r from h)
    exact ⟨v, r, e, Rep.dn c d v l.1 a, RepK.dn c ds r l.2 b⟩
theorem RepF.dn {u' u : U} {n : Nat} {H : Hp} (c : Dn u' u n) : ∀ (ds : List (Str × D)) (vs : List (Str × V)), D.ltF n ds → RepF u' H ds vs → RepF u H ds vs
  | [], vs, _, h => h
  | (q, d) :: ds, vs, l, h => by
    obtain ⟨v, r, e, a, b⟩ := (show ∃ v r, vs = (q, v) :: r ∧ Rep u' H d v ∧ RepF u' H ds r from h)
    exact ⟨v, r, e, Rep.dn c d v l.1 a, RepF.dn c ds r l.2 b⟩
end
/-! ### promises -/
abbrev SpX := List D → Store → DP → XP → Prop
def KE (cs : CS) (u : U) (n : Nat) (H : Hp) (xp : XP) (E : XK) : Prop := ∀ cls od c fs u' H', Nx u H u' H' → Wd cs u' n H' → RepX u' H' cls od c fs → xp c fs u'.M → E cls od H'
def spN (cs : CS) (ar c : Nat) (S : SpX) : Sp := fun vs H Q E => ∃ u n ds post xp, Wd cs u n H ∧ n + c ≤ lim ∧ RepL u H ds vs ∧ ds.length = ar ∧ S ds u.M post xp ∧ KN cs u (n + c) H post Q ∧ KE cs u (n + c) H xp E
/-- the slots at a def's start -/
def G0 (N : List Str) (ds : List D) : Gm := ds.map some ++ List.replicate (N.length - ds.length) none
abbrev CxB (P : Program) (w : World) (K : PySem.W.Frag) (mg : Str → Option Value) (base : Heap) (N : List Str) (qual : Str) (st : Stmt) (f : Addr) (cdv : Value) (A : Around) (outer : List Env) (s : Shared) (H : Hp) (E : XK) : Cx :=
  cxOf (L2.CX P w) P w K mg base N qual (defScope st) f cdv A outer s H E
/-- the wish of a def about what leaves it -/
abbrev WE (E : XK) : WX := fun cls d _ H => E cls d H
section
variable {P : Program} {w : World} {K : PySem.W.Frag} {mg : Str → Option Value} {base : Heap} {cs : CS}
theorem takesB {N : List Str} {qual : Str} {st : Stmt} {f : Addr} {cdv : Value} {A : Around} {outer : List Env} {s : Shared} {H : Hp} {E : XK} : Takes (CxB P w K mg base N qual st f cdv A outer s H E) (WE E) := takes_of rfl rfl rfl rfl
theorem passB {N : List Str} {qual : Str} {st : Stmt} {f : Addr} {cdv : Value} {A : Around} {outer : List Env} {s : Shared} {H : Hp} {E : XK} : PassesOwn (model (CxB P w K mg base N qual st f cdv A outer s H E).prog (CxB P w K mg base N qual st f cdv A outer s H E).w) (CxB P w K mg base N qual st f cdv A outer s H E).A (CxB P w K mg base N qual st f cdv A outer s H E).env (CxB P w K mg base N qual st f cdv A outer s H E).xe := passes_of rfl
theorem at_start {u : U} {n : Nat} {H : Hp} {N : List Str} {ds : List D} {vs : List V} (A : Wd cs u n H) (r : RepL u H ds vs) (hl : ds.length ≤ N.length) : At cs u n H (L2.start N vs) (G0 N ds) := by
  have e := r.length
  refine ⟨A, by unfold L2.start G0; simp; omega, fun i d g => ?_⟩
  unfold G0 at g
  by_cases h : i < ds.length
  · rw [List.getElem?_append_left (by simpa using h), List.getElem?_map] at g
    cases e1 : ds[i]? with
    | none => rw [e1] at g; cases g
    | some d' =>
      rw [e1] at g; cases g
      obtain ⟨v, h1, h2⟩ := r.get e1
      refine ⟨v, ?_, h2⟩
      unfold L2.start
      rw [List.getElem?_append_left (by simp; omega), List.getElem?_map, h1]; rfl
  · rw [List.getElem?_append_right (by simpa using h)] at g
    cases List.eq_of_mem_replicate (List.mem_of_getElem? g)
/-- a def's promise by its body -/
theorem fn_of {x qual : Str} {st : Stmt} {f : Addr} {fd : FuncData} {N ps : List Str} {k ar c c0 : Nat} {S : SpX} {t : TfS} (F : Fun K x qual st f fd) (sc : FnScope N ps (defScope st)) (har : ps.length = ar) (hle : ar ≤ N.length)
    (hb : ∀ (cdv : Value) (A : Around) (outer : List Env) (s : Shared) (H : Hp) (E : XK), RoomG k (A.deeper (envOfC qual (defScope st) s.heap.objs.size f cdv)) → PSU cs (CxB P w K mg base N qual st f cdv A outer s H E) (WE E) c0 (defBody st) t) (hc : c0 ≤ c)
    (hS : ∀ (ds : List D) (M : Store) (post : DP) (xp : XP), ds.length = ar → S ds M post xp → t (G0 N ds) M { nx := fun _ M' => post .non M', rt := post, xx := fun _ => xp }) : FnG P w K mg base (L2.CX P w) (k + 1) f fd ps (spN cs ar c S) := by
  refine fnG_of F sc (fun vs H Q E ⟨u, n, ds, post, xp, A, hn, r, hl, hS, kn, ke⟩ => by rw [r.length, hl, har]) (fun cdv A outer s H vs Q E hr ⟨u, n, ds, post, xp, A0, hn, r, hl, hS', kn, ke⟩ => ?_)
  refine ⟨_, twss_pss _ _, ?_⟩
  exact (hb cdv A outer s H E hr).run u n H _ _ _ _ (at_start A0 r (by omega)) (by omega) (hS ds u.M post xp hl hS') ⟨fun Γ σ u' H' e B q => kn .non .non u' H' e (B.toWd.up (by omega)) rfl q, fun v d u' H' e B r q => kn v d u' H' e (B.up (by omega)) r q, fun _ _ _ _ _ _ q => q.elim, fun _ _ _ _ _ _ q => q.elim, fun cls od c fs Γ σ u' H' e B r q => ke cls od c fs u' H' e (B.toWd.up (by omega)) r q⟩
end
/-! ### calls of own defs -/
/-- a def of the module's, by its name -/
structure FnD (P : Program) (w : World) (K : PySem.W.Frag) (mg : Str → Option Value) (base : Heap) (cs : CS) (k : Nat) (x : Str) (ar c : Nat) (S : SpX) : Prop where
  ex : ∃ (f : Addr) (fd : FuncData) (ps : List Str), FnG P w K mg base (L2.CX P w) k f fd ps (spN cs ar c S) ∧ mg x = some (.ref f) ∧ PySem.W.keepIn K (.ref f) = true ∧ Binds K fd ps []
/-- a method of the class of the number n -/
structure MtD (P : Program) (w : World) (K : PySem.W.Frag) (mg : Str → Option Value) (base : Heap) (cs : CS) (k : Nat) (n : Nat) (m : Str) (ar c : Nat) (S : SpX) : Prop where
  ex : ∃ (C f : Addr) (fd : FuncData) (ps : List Str), cs.cls[n]? = some (.ref C) ∧ Cls K C ∧ Meth K C m f ∧ FnG P w K mg base (L2.CX P w) k f fd ps (spN cs ar c S) ∧ Binds K fd ps []
/-- a class that may be made by its name -/
structure MkD (P : Program) (w : World) (K : PySem.W.Frag) (mg : Str → Option Value) (base : Heap) (cs : CS) (k : Nat) (x : Str) (n : Nat) (ar c : Nat) (S : SpX) : Prop where
  ex : ∃ (C f : Addr) (fd : FuncData) (ps : List Str), cs.cls[n]? = some (.ref C) ∧ Mk K C f ∧ FnG P w K mg base (L2.CX P w) k f fd ps (spN cs ar c S) ∧ mg x = some (.ref C) ∧ Binds K fd ps []
section
variable {cs : CS} {X : Cx} {W : WX} {c c1 c2 c3 : Nat} {a b e : Expr} {pos : Pos} {k j ar nc : Nat}
/-- what a callee lets out is taken -/
theorem takes_call (tk : Takes X W) {pins : List (Addr × Obj)} {σ : L2.St} {H : Hp} {s : Shared} (I : Inv X pins σ H s) {e : Value} {s' : Shared} (h : L2.CX X.prog X.w X.stack H s (fun cls d H' => W cls d σ H') e s') : X.xe e s' := tk e s' (XE.of_call I (fun cls d H' q => q) h)
def tFn (ar : Nat) (S : SpX) (ta : TfA) : TfE := fun Γ M post xp => ta Γ M (fun ds M1 => ds.length = ar ∧ S ds M1 post xp) xp
theorem px_call {x : Str} {p : Pos} {es : List Expr} {S : SpX} {ta : TfA} (F : FnD X.prog X.w X.K X.mg X.base cs k x ar c2 S) (hr : RoomG j X.A) (tk : Takes X W) (ha : PXA cs X W c1 (e :: es) ta) (hk : k ≤ j := by decide) (hg : Gl X x := by rfl) (hdb : (x == ("__debug__" : Str)) = false := by decide)
    (he : starEach (e :: es) X.env = (false, eval e X.env) :: starEach es X.env := by rfl) (hpl : (backTo pos (starEach es X.env)).any (·.1) = false := by rfl) : PX cs X W (c1 + c2) (.Call (.Name x p) (e :: es) [] pos) (tFn ar S ta) := ⟨fun u n H σ Γ post xp Q A hn q kn kx => by
  obtain ⟨f, fd, ps, F, hm, hk', hb⟩ := F.ex
  refine TW.mk fun pins s I => ?_
  refine wpAny_Call_Name_kw (ld_glob I hg hm (PySem.W.callWith_K (h₀ := X.base) I.ok.mod.kin hk' (thn (ha.run u n H σ Γ _ xp (fun vs H1 => spN cs ar c2 S vs H1 Q (fun cls d H' => W cls d σ H')) A (by omega) q (fun vs ds u1 H1 e1 B1 r1 ⟨hl, hS⟩ => ?_) (kx.le (by omega)) pos pins s I) fun us s1 ⟨vs, H1, I1, r, q⟩ => ⟨I1.kIn, ?_⟩) he hpl) hdb)
  · exact ⟨u1, n + c1, ds, post, xp, B1, by omega, r1, hl, hS, kn.go A.toWd e1 (by omega), fun cls od c fs u' H' e2 B2 r q => kx cls od c fs u' H' (e1.trans A.toWd e2) (B2.up (by omega)) r q⟩
  · have hlen : us.length = ps.length := by rw [← r.length]; exact F.len _ _ _ _ q
    refine run_g F (hr.mono hk) (fun e s' z => takes_call tk I1 z) I1 r ?_ q
    have := hb s1 us I1.kIn (by simpa using hlen)
    simpa using this⟩
theorem px_call0 {x : Str} {p : Pos} {S : SpX} (F : FnD X.prog X.w X.K X.mg X.base cs k x ar c2 S) (hr : RoomG j X.A) (tk : Takes X W) (hk : k ≤ j := by decide) (hg : Gl X x := by rfl) (hdb : (x == ("__debug__" : Str)) = false := by decide) : PX cs X W c2 (.Call (.Name x p) [] [] pos) (tFn ar S tNil) := ⟨fun u n H σ Γ post xp Q A hn ⟨hl, hS⟩ kn kx => by
  obtain ⟨f, fd, ps, F, hm, hk', hb⟩ := F.ex
  refine TW.mk fun pins s I => ?_
  have q : spN cs ar c2 S [] H Q (fun cls d H' => W cls d σ H') := ⟨u, n, [], post, xp, A.toWd, hn, RepL.nil, hl, hS, kn, fun cls od c fs u' H' e2 B2 r q => kx cls od c fs u' H' e2 B2 r q⟩
  have hlen : ([] : List Value).length = ps.length := F.len _ _ _ _ q
  refine wpAny_Call_Name_kw (ld_glob I hg hm (PySem.W.callWith_K0 I.kIn hk' (run_g F (hr.mono hk) (fun e s' z => takes_call tk I z) I .nil ?_ q)) hdb)
  simpa using hb s [] I.kIn (by simpa using hlen)⟩
/-- a method by the class of the receiver -/
def clsOf (M : Store) : D → Option Nat := fun d => (insOf M d).map (·.1)
def tMeth (nc : Nat) (m : Str) (ar : Nat) (S : SpX) (to : TfE) (ta : TfA) : TfE := fun Γ M post xp => to Γ M (fun d M1 => (∃ fs, insOf M1 d = some (nc, fs) ∧ fs.lookup m = none) ∧ ta Γ M1 (fun ds M2 => ds.length + 1 = ar ∧ S (d :: ds) M2 post xp) xp) xp
theorem px_meth {m : Str} {o : Expr} {apos : Pos} {es : List Expr} {S : SpX} {pl : Sem Bool} {to : TfE} {ta : TfA} (F : MtD X.prog X.w X.K X.mg X.base cs k nc m ar c3 S) (hr : RoomG j X.A) (tk : Takes X W) (ho : PX cs X W c1 o to) (ha : PXA cs X W c2 (e :: es) ta) (hk : k ≤ j := by decide)
    (hst : starEach (e :: es) X.env = (false, eval e X.env) :: starEach es X.env := by rfl) (hpl : (backTo pos (starEach es X.env)).any (·.1) = false := by rfl)
    (ht : eval (.Call (.Attribute o m apos) (e :: es) [] pos) X.env = (do let ov ← eval o X.env; standAt apos.atName; let (f, first) ← holding [ov] (getMethod ov m pl); callWith pos f first (backTo pos (starEach (e :: es) X.env)) (backToKw pos (keywordEach [] X.env))) := by rfl) :
    PX cs X W (c1 + c2 + c3) (.Call (.Attribute o m apos) (e :: es) [] pos) (tMeth nc m ar S to ta) := ⟨fun u n H σ Γ post xp Q A hn q kn kx => by
  obtain ⟨C, f, fd, ps, hC, cl, hm, F, hb⟩ := F.ex
  refine TW.mk fun pins s I => ?_
  refine PySem.W.methodCall_KW (pl := pl) (thn (ho.run u n H σ Γ _ xp (fun x H1 => ∀ s1 v, Inv X pins σ H1 s1 → RelV x v → wpAny (model X.prog X.w) X.A (getMethod v m pl) (fun fx s₂ => wpAny (model X.prog X.w) X.A (callWith pos fx.1 fx.2 (backTo pos (starEach (e :: es) X.env)) (backToKw pos (keywordEach [] X.env))) (EP X pins σ Q) X.xe s₂) X.xe s1) A (by omega) q (fun v d u1 H1 e1 B1 r1 ⟨⟨fs, hi, hl⟩, h1⟩ s1 v' I1 rv => ?_) (kx.le (by omega)) pins s I) fun v s1 ⟨x, H1, I1, rx, q⟩ => q s1 v I1 rx) ht
  obtain ⟨a', C', dx, us0, ev, hC', g, rf⟩ := ins_rep B1 hi r1
  rw [hC] at hC'; cases hC'
  subst ev
  obtain rfl : v' = Value.ref a' := rv
  refine getmeth_ok I1 g cl hm (rf.lookup.2 hl) (PySem.W.callWith_K (first := [.ref a']) (h₀ := X.base) I1.ok.mod.kin hm.kp (thn (ha.run u1 (n + c1) H1 σ Γ _ xp (fun vs H2 => spN cs ar c3 S (.ref a' :: vs) H2 Q (fun cls d H' => W cls d σ H')) (A.step e1 B1) (by omega) h1 (fun vs ds u2 H2 e2 B2 r2 ⟨hl2, hS⟩ => ?_) (kx.go A.toWd e1 (by omega)) pos pins s1 I1) fun us s2 ⟨vs, H2, I2, r, q⟩ => ⟨I2.kIn, ?_⟩) hst hpl)
  · have e12 := e1.trans A.toWd e2
    exact ⟨u2, n + c1 + c2, d :: ds, post, xp, B2, by omega, RepL.cons (r1.go B1 e2) r2, by simpa using hl2, hS, kn.go A.toWd e12 (by omega), fun cls od c fs u' H' e3 B3 r q => kx cls od c fs u' H' (e12.trans A.toWd e3) (B3.up (by omega)) r q⟩
  · have r3 : Vals (.ref a' :: vs) (.ref a' :: us) := .cons rfl r
    have hlen : (Value.ref a' :: us).length = ps.length := by rw [← r3.length]; exact F.len _ _ _ _ q
    refine run_g F (hr.mono hk) (fun e s' z => takes_call tk I2 z) I2 r3 ?_ q
    simpa using hb s2 (.ref a' :: us) I2.kIn (by simpa using hlen)⟩
theorem px_meth0 {m : Str} {o : Expr} {apos : Pos} {S : SpX} {pl : Sem Bool} {to : TfE} (F : MtD X.prog X.w X.K X.mg X.base cs k nc m ar c3 S) (hr : RoomG j X.A) (tk : Takes X W) (ho : PX cs X W c1 o to) (hk : k ≤ j := by decide)
    (ht : eval (.Call (.Attribute o m apos) [] [] pos) X.env = (do let ov ← eval o X.env; standAt apos.atName; let (f, first) ← holding [ov] (getMethod ov m pl); callWith pos f first (backTo pos (starEach [] X.env)) (backToKw pos (keywordEach [] X.env))) := by rfl) :
    PX cs X W (c1 + c3) (.Call (.Attribute o m apos) [] [] pos) (tMeth nc m ar S to tNil) := ⟨fun u n H σ Γ post xp Q A hn q kn kx => by
  obtain ⟨C, f, fd, ps, hC, cl, hm, F, hb⟩ := F.ex
  refine TW.mk fun pins s I => ?_
  refine PySem.W.methodCall_KW (pl := pl) (thn (ho.run u n H σ Γ _ xp (fun x H1 => ∀ s1 v, Inv X pins σ H1 s1 → RelV x v → wpAny (model X.prog X.w) X.A (getMethod v m pl) (fun fx s₂ => wpAny (model X.prog X.w) X.A (callWith pos fx.1 fx.2 (backTo pos (starEach [] X.env)) (backToKw pos (keywordEach [] X.env))) (EP X pins σ Q) X.xe s₂) X.xe s1) A (by omega) q (fun v d u1 H1 e1 B1 r1 ⟨⟨fs, hi, hl⟩, hl2, hS⟩ s1 v' I1 rv => ?_) (kx.le (by omega)) pins s I) fun v s1 ⟨x, H1, I1, rx, q⟩ => q s1 v I1 rx) ht
  obtain ⟨a', C', dx, us0, ev, hC', g, rf⟩ := ins_rep B1 hi r1
  rw [hC] at hC'; cases hC'
  subst ev
  obtain rfl : v' = Value.ref a' := rv
  have q : spN cs ar c3 S [.ref a'] H1 Q (fun cls d H' => W cls d σ H') := ⟨u1, n + c1, [d], post, xp, B1, by omega, RepL.cons r1 RepL.nil, by simpa using hl2, hS, kn.go A.toWd e1 (by omega), fun cls od c fs u' H' e3 B3 r q => kx cls od c fs u' H' (e1.trans A.toWd e3) (B3.up (by omega)) r q⟩
  have r3 : Vals [.ref a'] [.ref a'] := .cons rfl .nil
  have hlen : [Value.ref a'].length = ps.length := by rw [← r3.length]; exact F.len _ _ _ _ q
  refine getmeth_ok I1 g cl hm (rf.lookup.2 hl) (PySem.W.callWith_K0 (first := [.ref a']) I1.kIn hm.kp (run_g F (hr.mono hk) (fun e s' z => takes_call tk I1 z) I1 r3 ?_ q))
  simpa using hb s1 [.ref a'] I1.kIn (by simpa using hlen)⟩
end
end Ev
-- EvM
namespace Ev
open PySem PySem.Spec PyProof.Rows L2 ClX
/-! ### the numbers in data stand in the store -/
mutual
theorem Rep.lt {u : U} {H : Hp} : ∀ (d : D) (v : V), Rep u H d v → d.lt u.μ.length
  | .non, v, _ => trivial
  | .bl b, v, _ => trivial
  | .int i, v, _ => trivial
  | .str x, v, _ => trivial
  | .pen, v, _ => trivial
  | .ref a, v, _ => trivial
  | .cls a, v, _ => trivial
  | .ty n, v, _ => trivial
  | .loc i, v, h => by
    obtain ⟨a, e, g⟩ := h.locE
    exact (List.getElem?_eq_some_iff.mp g).1
  | .tup ds, v, h => by
    obtain ⟨a, vs, e, f, g, r⟩ := h.tupE
    exact RepL.lt ds vs r
  | .lst ds, v, h => by
    obtain ⟨a, vs, e, f, g, r⟩ := h.lstE
    exact RepL.lt ds vs r
  | .dic kvs, v, h => by
    obtain ⟨a, vs, e, f, g, r⟩ := h.dicE
    exact RepK.lt kvs vs r
  | .obj a C fs, v, h => by
    obtain ⟨C', dx, vs, e, f, hc, g, r⟩ := h.objE
    exact RepF.lt fs vs r
  | .exc a C fs, v, h => by
    obtain ⟨C', od, us, e, f, hc, g, r, z⟩ := h.excE
    exact RepF.lt fs us r
  | .fn f c' q vs ds, v, h => by
    obtain ⟨e, h1, h2, h3⟩ := h.fnE
    exact RepL.lt ds vs h3
theorem RepL.lt {u : U} {H : Hp} : ∀ (ds : List D) (vs : List V), RepL u H ds vs → D.ltL u.μ.length ds
  | [], vs, _ => trivial
  | d :: ds, vs, h => by
    obtain ⟨v, r, e, a, b⟩ := (show ∃ v r, vs = v :: r ∧ Rep u H d v ∧ RepL u H ds r from h)
    exact ⟨Rep.lt d v a, RepL.lt ds r b⟩
theorem RepK.lt {u : U} {H : Hp} : ∀ (ds : List (Key × D)) (vs : List (Key × V)), RepK u H ds vs → D.ltK u.μ.length ds
  | [], vs, _ => trivial
  | (q, d) :: ds, vs, h => by
    obtain ⟨v, r, e, a, b⟩ := (show ∃ v r, vs = (q, v) :: r ∧ Rep u H d v ∧ RepK u H ds r from h)
    exact ⟨Rep.lt d v a, RepK.lt ds r b⟩
theorem RepF.lt {u : U} {H : Hp} : ∀ (ds : List (Str × D)) (vs : List (Str × V)), RepF u H ds vs → D.ltF u.μ.length ds
  | [], vs, _ => trivial
  | (q, d) :: ds, vs, h => by
    obtain ⟨v, r, e, a, b⟩ := (show ∃ v r, vs = (q, v) :: r ∧ Rep u H d v ∧ RepF u H ds r from h)
    exact ⟨Rep.lt d v a, RepF.lt ds r b⟩
end
/-! ### instances made, their attributes stored -/
def putD (f : Str) (v : D) : List (Str × D) → List (Str × D)
  | [] => [(f, v)]
  | (g, x) :: r => if g = f then (g, v) :: r else (g, x) :: putD f v r
theorem RepF.put {u : U} {H : Hp} {f : Str} {d : D} {v : V} (rd : Rep u H d v) : ∀ {fs : List (Str × D)} {us : List (Str × V)}, RepF u H fs us → RepF u H (putD f d fs) (putF f v us)
  | [], us, h => by rw [show us = [] from h]; exact ⟨v, [], rfl, rd, rfl⟩
  | (g, x) :: fs, us, h => by
    obtain ⟨y, r, e, a, b⟩ := (show ∃ v r, us = (g, v) :: r ∧ Rep u H x v ∧ RepF u H fs r from h)
    rw [e]
    unfold putD putF
    by_cases hg : g = f
    · rw [if_pos hg, if_pos hg]; exact ⟨v, r, rfl, rd, b⟩
    · rw [if_neg hg, if_neg hg]; exact ⟨y, _, rfl, a, RepF.put rd b⟩
theorem RepF.length {u : U} {H : Hp} : ∀ {fs : List (Str × D)} {us : List (Str × V)}, RepF u H fs us → us.length = fs.length
  | [], us, h => by rw [show us = [] from h]; rfl
  | (g, x) :: fs, us, h => by
    obtain ⟨y, r, e, a, b⟩ := (show ∃ v r, us = (g, v) :: r ∧ Rep u H x v ∧ RepF u H fs r from h)
    rw [e, List.length_cons, List.length_cons, RepF.length b]
section
variable {cs : CS} {X : Cx} {W : WX} {c c1 c2 c3 : Nat} {a b e o : Expr} {pos : Pos} {k j ar nc : Nat}
/-- o.f = e, o an instance of the store -/
def tFst (f : Str) (cl : List Nat) (te to : TfE) : TfS := fun Γ M O => te Γ M (fun d M1 => to Γ M1 (fun od M2 => ∃ i c fs, od = .loc i ∧ M2[i]? = some (.ins c fs) ∧ c ∈ cl ∧ fs.length < 1000 ∧ O.nx Γ (M2.set i (.ins c (putD f d fs)))) (O.xx Γ)) (O.xx Γ)
theorem st_fld {f : Str} {cl : List Nat} {p2 : Pos} {te to : TfE} (F : FldF X.K cs f cl) (ho : PX cs X W c2 o to) (he : PX cs X W c1 e te) (hs : swapsWith e (some (.Attribute o f p2)) pos.line X.env = pure false := by rfl) : PST cs X W (c1 + c2) (.Assign [.Attribute o f p2] e pos) (tFst f cl te to) := ⟨fun u n H σ Γ O E A hn q k => by
  refine tws_of (ps_fld (tw_pe X o) (tw_pe X e) hs) ?_
  refine he.run u n H σ Γ _ _ _ A (by omega) q (fun v d u1 H1 e1 B1 r1 q1 => ?_) (k.kx A (by omega))
  refine ho.run u1 (n + c1) H1 σ Γ _ _ _ (A.step e1 B1) (by omega) q1 (fun w od u2 H2 e2 B2 r2 ⟨i, c, fs, ed, hc, hm, hz, q2⟩ => ?_) ((k.go (l := n + (c1 + c2)) A.toWd e1 (Nat.le_refl _)).kx (A.step e1 B1) (by omega))
  subst ed
  obtain ⟨a', ev, hmu⟩ := r2.locE
  obtain ⟨C, dx, us, hC, g, rf⟩ := B2.cell i a' _ hmu hc
  rw [B2.ks.1] at hC
  obtain ⟨k1, k2⟩ := F.at_ c hm C hC
  have e12 := e1.trans A.toWd e2
  have x3 : Nx u2 H2 (u2.wr i (.ins c (putD f d fs))) (upd H2 a' (.ins C dx (putF f v us))) := wr_nx hmu hc nofun ⟨_, g⟩
  have r1' : Rep u2 H2 d v := r1.go B1 e2
  have cy := x3.cy B2
  have B3 : Wd cs (u2.wr i (.ins c (putD f d fs))) (n + c1 + c2) (upd H2 a' (.ins C dx (putF f v us))) := wr_wd B2 hmu hc nofun ⟨C, dx, _, by show u2.k.cls[c]? = _; rw [B2.ks.1]; exact hC, upd_same, RepF.mono cy _ _ (rf.put r1')⟩
  exact ⟨a', C, dx, us, ev, g, k1, k2, by rw [rf.length]; exact hz, k.nx _ _ _ _ (e12.trans A.toWd x3) (A.step (e12.trans A.toWd x3) (B3.up (by omega))) q2⟩⟩
/-- the new instance stands as the last cell -/
theorem made_wd {u : U} {n : Nat} {H : Hp} {x dx C : Addr} (A : Wd cs u n H) (hC : cs.cls[nc]? = some (.ref C)) (hx : H x = none) (hdx : H dx = none) (hne : dx ≠ x) :
    Keep H (upd (upd H dx (.own x)) x (.ins C dx [])) ∧ Wd cs (u.add x (.ins nc [])) n (upd (upd H dx (.own x)) x (.ins C dx [])) := by
  have k : Keep H (upd (upd H dx (.own x)) x (.ins C dx [])) := fun a o g => by rw [upd_ne (ne_of_none g hx), upd_ne (ne_of_none g hdx)]; exact g
  exact ⟨k, add_wd A k hx ⟨C, dx, [], by show u.k.cls[nc]? = _; rw [A.ks.1]; exact hC, upd_same, rfl⟩⟩
/-- C(e, ..), the instance changes -/
def tMkM (nc ar : Nat) (S : SpX) (ta : TfA) : TfE := fun Γ M post xp => ta Γ M (fun ds M1 => ds.length + 1 = ar ∧ S (.loc M1.length :: ds) (M1 ++ [.ins nc []]) (fun v M2 => v = .non ∧ post (.loc M1.length) M2) xp) xp
theorem mkM_sp {u : U} {n : Nat} {H : Hp} {σ : L2.St} {ds : List D} {vs : List V} {x dx C : Addr} {Q : VK} {S : SpX} {post : DP} {xp : XP} (A : Wd cs u n H) (hn : n + c2 ≤ lim) (r : RepL u H ds vs) (hC : cs.cls[nc]? = some (.ref C)) (hl : ds.length + 1 = ar) (hS : S (.loc u.M.length :: ds) (u.M ++ [.ins nc []]) (fun v M2 => v = .non ∧ post (.loc u.M.length) M2) xp)
    (kn : KN cs u (n + c2) H post Q) (kx : KX cs u (n + c2) H σ xp W) (hx : H x = none) (hdx : H dx = none) (hne : dx ≠ x) :
    spN cs ar c2 S (.ref x :: vs) (upd (upd H dx (.own x)) x (.ins C dx [])) (fun v H2 => v = .non ∧ Q (.ref x) H2) (fun cls d H' => W cls d σ H') := by
  obtain ⟨k, A1⟩ := made_wd A hC hx hdx hne
  have x1 : Nx u H (u.add x (.ins nc [])) (upd (upd H dx (.own x)) x (.ins C dx [])) := add_nx A k hx
  have mu : (u.add x (.ins nc [])).μ[u.M.length]? = some x := add_mu A
  refine ⟨u.add x (.ins nc []), n, .loc u.M.length :: ds, _, xp, A1, hn, RepL.cons ⟨x, rfl, mu⟩ (RepL.mono (x1.cy A) _ _ r), by simpa using hl, hS, fun v d u2 H2 e2 B2 r2 ⟨ed, q⟩ => ?_, fun cls od c fs u2 H2 e2 B2 r2 q => kx cls od c fs u2 H2 (x1.trans A e2) B2 r2 q⟩
  subst ed
  exact ⟨r2, kn (.ref x) (.loc u.M.length) u2 H2 (x1.trans A e2) B2 ⟨x, rfl, e2.mu _ _ mu⟩ q⟩
/-- C(e, ..), the instance never changes from then on -/
def tMk (nc ar : Nat) (S : SpX) (ta : TfA) : TfE := fun Γ M post xp => ta Γ M (fun ds M1 => ds.length + 1 = ar ∧ S (.loc M1.length :: ds) (M1 ++ [.ins nc []]) (fun v M2 => v = .non ∧ ∃ fs, M2 = M1 ++ [.ins nc fs] ∧ D.ltF M1.length fs ∧ ∀ a, post (.obj a nc fs) M1)
  (fun c fs M2 => (∃ q, M2 = M1 ++ [q]) ∧ D.ltF M1.length fs ∧ xp c fs M1)) xp
/-- the world without its last cell -/
theorem drop_last {u u2 : U} {n m : Nat} {H H2 : Hp} {x : Addr} {c0 c1 : Cell} (A : Wd cs u n H) {H1 : Hp} (k : Keep H H1) (hx : H x = none) (e2 : Nx (u.add x c0) H1 u2 H2) (A1 : Wd cs (u.add x c0) n H1) (B2 : Wd cs u2 m H2) (hM : u2.M = u.M ++ [c1]) :
    Nx u H u H2 ∧ Wd cs u m H2 ∧ Dn u2 u u.M.length := by
  have x1 : Nx u H (u.add x c0) H1 := add_nx A k hx
  have x2 : Nx u H u2 H2 := x1.trans A e2
  have hF : ∀ a, u.F a → u2.F a := fun a f => by
    rcases f with (f | ⟨i, c, h1, h2, h3⟩) | f
    · exact .inl (.inl (by rw [f, x2.p]))
    · exact .inl (.inr ⟨i, c, x2.mu i a h1, by rw [hM, List.getElem?_append_left (List.getElem?_eq_some_iff.mp h2).1]; exact h2, h3⟩)
    · exact .inr (x2.x1 a f)
  have hx2 : Nx u H u H2 := ⟨rfl, rfl, fun _ h => h, fun _ h => .inl h, fun _ _ h => h, fun _ h => h, fun i a h hi => (by rw [List.getElem?_eq_none hi] at h; cases h), x2.go, x2.th⟩
  have dn : Dn u2 u u.M.length := ⟨x2.p.symm, x2.k.symm, fun i a hi h => by
    have hl : i < u.μ.length := by rw [A.len]; exact hi
    have hb : u.μ[i]? = some u.μ[i] := List.getElem?_eq_getElem hl
    have := x2.mu i _ hb
    rw [h] at this; cases this
    exact hb, hF⟩
  refine ⟨hx2, ⟨A.ks, B2.pen.as x2.p.symm x2.k.symm, A.cF, A.len, A.inj, A.np, fun b h => B2.xl b (x2.x1 b h), A.xd, fun i b c h1 h2 => ?_⟩, dn⟩
  have hc : u2.M[i]? = some c := by rw [hM, List.getElem?_append_left (List.getElem?_eq_some_iff.mp h2).1]; exact h2
  have ok0 := A.cell i b c h1 h2
  have ok2 := B2.cell i b c (x2.mu i b h1) hc
  cases c with
  | dead => exact ok2
  | li ds =>
    obtain ⟨vs, g, r⟩ := ok0
    obtain ⟨vs2, g2, r2⟩ := ok2
    exact ⟨vs2, g2, RepL.dn dn _ _ (by rw [← A.len]; exact RepL.lt _ _ r) r2⟩
  | di kvs =>
    obtain ⟨vs, g, r⟩ := ok0
    obtain ⟨vs2, g2, r2⟩ := ok2
    exact ⟨vs2, g2, RepK.dn dn _ _ (by rw [← A.len]; exact RepK.lt _ _ r) r2⟩
  | ins c fs =>
    obtain ⟨C, dx, vs, hc', g, r⟩ := ok0
    obtain ⟨C2, dx2, vs2, hc2, g2, r2⟩ := ok2
    exact ⟨C2, dx2, vs2, by rw [← x2.k]; exact hc2, g2, RepF.dn dn _ _ (by rw [← A.len]; exact RepF.lt _ _ r) r2⟩
theorem mk_sp {u : U} {n : Nat} {H : Hp} {σ : L2.St} {ds : List D} {vs : List V} {x dx C : Addr} {Q : VK} {S : SpX} {post : DP} {xp : XP} (A : Wd cs u n H) (hn : n + c2 ≤ lim) (r : RepL u H ds vs) (hC : cs.cls[nc]? = some (.ref C)) (hl : ds.length + 1 = ar)
    (hS : S (.loc u.M.length :: ds) (u.M ++ [.ins nc []]) (fun v M2 => v = .non ∧ ∃ fs, M2 = u.M ++ [.ins nc fs] ∧ D.ltF u.M.length fs ∧ ∀ a, post (.obj a nc fs) u.M) (fun c fs M2 => (∃ q, M2 = u.M ++ [q]) ∧ D.ltF u.M.length fs ∧ xp c fs u.M))
    (kn : KN cs u (n + c2) H post Q) (kx : KX cs u (n + c2) H σ xp W) (hx : H x = none) (hdx : H dx = none) (hne : dx ≠ x) :
    spN cs ar c2 S (.ref x :: vs) (upd (upd H dx (.own x)) x (.ins C dx [])) (fun v H2 => v = .non ∧ Q (.ref x) H2) (fun cls d H' => W cls d σ H') := by
  obtain ⟨k, A1⟩ := made_wd A hC hx hdx hne
  have x1 : Nx u H (u.add x (.ins nc [])) (upd (upd H dx (.own x)) x (.ins C dx [])) := add_nx A k hx
  have mu : (u.add x (.ins nc [])).μ[u.M.length]? = some x := add_mu A
  refine ⟨u.add x (.ins nc []), n, .loc u.M.length :: ds, _, _, A1, hn, RepL.cons ⟨x, rfl, mu⟩ (RepL.mono (x1.cy A) _ _ r), by simpa using hl, hS, fun v d u2 H2 e2 B2 r2 ⟨ed, fs, hM, hlt, q⟩ => ?_, fun cls od c fs u2 H2 e2 B2 r2 ⟨⟨c', hM⟩, hlt, q⟩ => ?_⟩
  · subst ed
    obtain ⟨y1, y2, dn⟩ := drop_last A k hx e2 A1 B2 hM
    have hc : u2.M[u.M.length]? = some (.ins nc fs) := by rw [hM]; simp
    obtain ⟨C2, dx2, us, hC2, g, rf⟩ := B2.cell _ x _ (e2.mu _ _ mu) hc
    have nF : ¬ u.F x := A.notF hx
    exact ⟨r2, kn (.ref x) (.obj x nc fs) u H2 y1 y2 ⟨C2, dx2, us, rfl, nF, by rw [← (x1.trans A e2).k]; exact hC2, g, RepF.dn dn _ _ hlt rf⟩ (q x)⟩
  · obtain ⟨y1, y2, dn⟩ := drop_last A k hx e2 A1 B2 hM
    refine kx cls od c fs u H2 y1 y2 ?_ q
    obtain ⟨Cx, us, h1, h2, h3, h4⟩ := r2
    exact ⟨Cx, us, by rw [← (x1.trans A e2).k]; exact h1, h2, RepF.dn dn _ _ hlt h3, h4.imp id fun ⟨dd, z1, z2, z3⟩ => ⟨dd, z1, fun z => z2 (dn.F dd z), z3⟩⟩
theorem make_run {f C : Addr} {fd : FuncData} {ps : List Str} {S : SpX} {pins : List (Addr × Obj)} {σ : L2.St} {H : Hp} {s : Shared} {Q : VK} {us : List Value} {vs : List V} (F : FnG X.prog X.w X.K X.mg X.base (L2.CX X.prog X.w) k f fd ps (spN cs ar c2 S)) (hr : RoomG (k + 1) X.A) (tk : Takes X W) (M : Mk X.K C f) (hb : Binds X.K fd ps []) (I : Inv X pins σ H s) (r : Vals vs us)
    (h : ∀ x dx, H x = none → H dx = none → dx ≠ x → spN cs ar c2 S (.ref x :: vs) (upd (upd H dx (.own x)) x (.ins C dx [])) (fun v H2 => v = .non ∧ Q (.ref x) H2) (fun cls d H' => W cls d σ H')) : wpAny (model X.prog X.w) X.A (call (.ref C) us) (EP X pins σ Q) X.xe s := by
  refine make_g M F hr I (fun s2 H2 e s' I2 z => takes_call tk I2 z) (fun x => .cons rfl r) (fun s2 x hk => ?_) h
  have hq := h (s.heap.objs.size + 1) s.heap.objs.size (I.hok.fresh (Nat.le_succ _)) (I.hok.fresh (Nat.le_refl _)) (Nat.ne_of_lt (Nat.lt_succ_self _))
  have hlen := F.len _ _ _ _ hq
  have e := r.length
  simpa using hb s2 (.ref x :: us) hk (by simpa [← e] using hlen)
theorem px_mkM {x : Str} {p : Pos} {es : List Expr} {S : SpX} {ta : TfA} (F : MkD X.prog X.w X.K X.mg X.base cs k x nc ar c2 S) (hr : RoomG j X.A) (tk : Takes X W) (ha : PXA cs X W c1 (e :: es) ta) (hk : k + 1 ≤ j := by decide) (hg : Gl X x := by rfl) (hdb : (x == ("__debug__" : Str)) = false := by decide)
    (he : starEach (e :: es) X.env = (false, eval e X.env) :: starEach es X.env := by rfl) (hpl : (backTo pos (starEach es X.env)).any (·.1) = false := by rfl) : PX cs X W (c1 + c2) (.Call (.Name x p) (e :: es) [] pos) (tMkM nc ar S ta) := ⟨fun u n H σ Γ post xp Q A hn q kn kx => by
  obtain ⟨C, f, fd, ps, hC, M, F, hm, hb⟩ := F.ex
  refine TW.mk fun pins s I => ?_
  refine wpAny_Call_Name_kw (ld_glob I hg hm (PySem.W.callWith_K (h₀ := X.base) I.ok.mod.kin M.kp (thn (ha.run u n H σ Γ _ xp (fun vs H1 => ∀ x' dx, H1 x' = none → H1 dx = none → dx ≠ x' → spN cs ar c2 S (.ref x' :: vs) (upd (upd H1 dx (.own x')) x' (.ins C dx [])) (fun v H2 => v = .non ∧ Q (.ref x') H2) (fun cls d H' => W cls d σ H')) A (by omega) q (fun vs ds u1 H1 e1 B1 r1 ⟨hl, hS⟩ x' dx hx hdx hne => mkM_sp B1 (by omega) r1 hC hl hS (kn.go A.toWd e1 (by omega)) (kx.go A.toWd e1 (by omega)) hx hdx hne) (kx.le (by omega)) pos pins s I) fun us s1 ⟨vs, H1, I1, r, q⟩ => ⟨I1.kIn, ?_⟩) he hpl) hdb)
  exact make_run F (hr.mono hk) tk M hb I1 r q⟩
theorem px_mk {x : Str} {p : Pos} {es : List Expr} {S : SpX} {ta : TfA} (F : MkD X.prog X.w X.K X.mg X.base cs k x nc ar c2 S) (hr : RoomG j X.A) (tk : Takes X W) (ha : PXA cs X W c1 (e :: es) ta) (hk : k + 1 ≤ j := by decide) (hg : Gl X x := by rfl) (hdb : (x == ("__debug__" : Str)) = false := by decide)
    (he : starEach (e :: es) X.env = (false, eval e X.env) :: starEach es X.env := by rfl) (hpl : (backTo pos (starEach es X.env)).any (·.1) = false := by rfl) : PX cs X W (c1 + c2) (.Call (.Name x p) (e :: es) [] pos) (tMk nc ar S ta) := ⟨fun u n H σ Γ post xp Q A hn q kn kx => by
  obtain ⟨C, f, fd, ps, hC, M, F, hm, hb⟩ := F.ex
  refine TW.mk fun pins s I => ?_
  refine wpAny_Call_Name_kw (ld_glob I hg hm (PySem.W.callWith_K (h₀ := X.base) I.ok.mod.kin M.kp (thn (ha.run u n H σ Γ _ xp (fun vs H1 => ∀ x' dx, H1 x' = none → H1 dx = none → dx ≠ x' → spN cs ar c2 S (.ref x' :: vs) (upd (upd H1 dx (.own x')) x' (.ins C dx [])) (fun v H2 => v = .non ∧ Q (.ref x') H2) (fun cls d H' => W cls d σ H')) A (by omega) q (fun vs ds u1 H1 e1 B1 r1 ⟨hl, hS⟩ x' dx hx hdx hne => mk_sp B1 (by omega) r1 hC hl hS (kn.go A.toWd e1 (by omega)) (kx.go A.toWd e1 (by omega)) hx hdx hne) (kx.le (by omega)) pos pins s I) fun us s1 ⟨vs, H1, I1, r, q⟩ => ⟨I1.kIn, ?_⟩) he hpl) hdb)
  exact make_run F (hr.mono hk) tk M hb I1 r q⟩
theorem px_mkM0 {x : Str} {p : Pos} {S : SpX} (F : MkD X.prog X.w X.K X.mg X.base cs k x nc ar c2 S) (hr : RoomG j X.A) (tk : Takes X W) (hk : k + 1 ≤ j := by decide) (hg : Gl X x := by rfl) (hdb : (x == ("__debug__" : Str)) = false := by decide) : PX cs X W c2 (.Call (.Name x p) [] [] pos) (tMkM nc ar S tNil) := ⟨fun u n H σ Γ post xp Q A hn q kn kx => by
  obtain ⟨C, f, fd, ps, hC, M, F, hm, hb⟩ := F.ex
  refine TW.mk fun pins s I => ?_
  exact wpAny_Call_Name_kw (ld_glob I hg hm (PySem.W.callWith_K0 I.kIn M.kp (make_run (vs := []) (us := []) F (hr.mono hk) tk M hb I .nil fun x' dx hx hdx hne => mkM_sp (vs := []) A.toWd hn RepL.nil hC q.1 q.2 kn kx hx hdx hne)) hdb)⟩
theorem px_mk0 {x : Str} {p : Pos} {S : SpX} (F : MkD X.prog X.w X.K X.mg X.base cs k x nc ar c2 S) (hr : RoomG j X.A) (tk : Takes X W) (hk : k + 1 ≤ j := by decide) (hg : Gl X x := by rfl) (hdb : (x == ("__debug__" : Str)) = false := by decide) : PX cs X W c2 (.Call (.Name x p) [] [] pos) (tMk nc ar S tNil) := ⟨fun u n H σ Γ post xp Q A hn q kn kx => by
  obtain ⟨C, f, fd, ps, hC, M, F, hm, hb⟩ := F.ex
  refine TW.mk fun pins s I => ?_
  exact wpAny_Call_Name_kw (ld_glob I hg hm (PySem.W.callWith_K0 I.kIn M.kp (make_run (vs := []) (us := []) F (hr.mono hk) tk M hb I .nil fun x' dx hx hdx hne => mk_sp (vs := []) A.toWd hn RepL.nil hC q.1 q.2 kn kx hx hdx hne)) hdb)⟩
end
end Ev
-- EvN
namespace Ev
open PySem PySem.Spec PyProof.Rows L2 ClX
/-! ### exceptions of own classes that store what they are told -/
abbrev CXz : CXT := fun _ _ _ _ _ _ => False
def spE1 (C : Addr) (f : Str) : Sp := fun vs H Q _ => ∃ a y, vs = [.ref a, y] ∧ H a = some (exo a C none) ∧ ∀ d, H d = none → d ≠ a → Q .non (upd (upd H d (exd d [(f, y)])) a (exo a C (some d)))
def spE2 (C : Addr) (f g : Str) : Sp := fun vs H Q _ => ∃ a y z, vs = [.ref a, y, z] ∧ H a = some (exo a C none) ∧ ∀ d, H d = none → d ≠ a → Q .non (upd (upd (upd H d (exd d [(f, y)])) a (exo a C (some d))) d (exd d [(g, z), (f, y)]))
abbrev CxZ (P : Program) (w : World) (K : PySem.W.Frag) (mg : Str → Option Value) (base : Heap) (N : List Str) (qual : Str) (st : Stmt) (f : Addr) (cdv : Value) (A : Around) (outer : List Env) (s : Shared) (H : Hp) (E : XK) : Cx :=
  cxOf CXz P w K mg base N qual (defScope st) f cdv A outer s H E
section
variable {P : Program} {w : World} {K : PySem.W.Frag} {mg : Str → Option Value} {base : Heap} {cs : CS}
theorem exi1 {C : Addr} {qual x1 x2 g : Str} {st : Stmt} {f : Addr} {fd : FuncData} {p1 p2 p3 p4 : Pos} (F : Fun K "__init__" qual st f fd) (sc : FnScope [x1, x2] [x1, x2] (defScope st)) (T : OexC K C) (hno : PySem.W.findIn K (.ref C) g = some none)
    (hb : defBody st = [.Assign [.Attribute (.Name x1 p1) g p2] (.Name x2 p3) p4])
    (hv1 : ∀ (cdv : Value) (A : Around) (outer : List Env) (s : Shared) (H : Hp) (E : XK), Vis (CxZ P w K mg base [x1, x2] qual st f cdv A outer s H E).env.scope x1 := by exact fun _ _ _ _ _ _ => Or.inl rfl)
    (hv2 : ∀ (cdv : Value) (A : Around) (outer : List Env) (s : Shared) (H : Hp) (E : XK), Vis (CxZ P w K mg base [x1, x2] qual st f cdv A outer s H E).env.scope x2 := by exact fun _ _ _ _ _ _ => Or.inl rfl)
    (hs : ∀ (cdv : Value) (A : Around) (outer : List Env) (s : Shared) (H : Hp) (E : XK), swapsWith (.Name x2 p3) (some (.Attribute (.Name x1 p1) g p2)) p4.line (CxZ P w K mg base [x1, x2] qual st f cdv A outer s H E).env = pure false := by exact fun _ _ _ _ _ _ => rfl)
    (hd1 : (x1 == ("__debug__" : Str)) = false := by decide) (hc1 : (x1 == ("__classdict__" : Str)) = false := by decide) (hd2 : (x2 == ("__debug__" : Str)) = false := by decide) (hc2 : (x2 == ("__classdict__" : Str)) = false := by decide) : FnOk P w K mg base CXz 1 f fd [x1, x2] (spE1 C g) := by
  refine F.ok sc (fun vs H Q E ⟨a, y, e, _⟩ => by rw [e]; rfl) (fun cdv A outer s H vs Q E hr ⟨a, y, e, ea, q⟩ => ?_)
  rw [hb]
  refine ⟨_, pss_one (ps_ost (pe_var (i := 0) rfl (hv1 cdv A outer s H E) hd1 hc1) (pe_var (i := 1) rfl (hv2 cdv A outer s H E) hd2 hc2) (hs cdv A outer s H E)), ?_⟩
  subst e
  exact ⟨y, rfl, .ref a, rfl, a, C, rfl, T, hno, .inl ⟨ea, fun d n ne => q d n ne⟩⟩
theorem exi2 {C : Addr} {qual x1 x2 x3 g1 g2 : Str} {st : Stmt} {f : Addr} {fd : FuncData} {p1 p2 p3 p4 q1 q2 q3 q4 : Pos} (F : Fun K "__init__" qual st f fd) (sc : FnScope [x1, x2, x3] [x1, x2, x3] (defScope st)) (T : OexC K C) (hno : PySem.W.findIn K (.ref C) g1 = some none) (hno2 : PySem.W.findIn K (.ref C) g2 = some none)
    (hb : defBody st = [.Assign [.Attribute (.Name x1 p1) g1 p2] (.Name x2 p3) p4, .Assign [.Attribute (.Name x1 q1) g2 q2] (.Name x3 q3) q4])
    (hv1 : ∀ (cdv : Value) (A : Around) (outer : List Env) (s : Shared) (H : Hp) (E : XK), Vis (CxZ P w K mg base [x1, x2, x3] qual st f cdv A outer s H E).env.scope x1 := by exact fun _ _ _ _ _ _ => Or.inl rfl)
    (hv2 : ∀ (cdv : Value) (A : Around) (outer : List Env) (s : Shared) (H : Hp) (E : XK), Vis (CxZ P w K mg base [x1, x2, x3] qual st f cdv A outer s H E).env.scope x2 := by exact fun _ _ _ _ _ _ => Or.inl rfl)
    (hv3 : ∀ (cdv : Value) (A : Around) (outer : List Env) (s : Shared) (H : Hp) (E : XK), Vis (CxZ P w K mg base [x1, x2, x3] qual st f cdv A outer s H E).env.scope x3 := by exact fun _ _ _ _ _ _ => Or.inl rfl)
    (hs : ∀ (cdv : Value) (A : Around) (outer : List Env) (s : Shared) (H : Hp) (E : XK), swapsWith (.Name x2 p3) (some (.Attribute (.Name x1 p1) g1 p2)) p4.line (CxZ P w K mg base [x1, x2, x3] qual st f cdv A outer s H E).env = pure false := by exact fun _ _ _ _ _ _ => rfl)
    (hs2 : ∀ (cdv : Value) (A : Around) (outer : List Env) (s : Shared) (H : Hp) (E : XK), swapsWith (.Name x3 q3) (some (.Attribute (.Name x1 q1) g2 q2)) q4.line (CxZ P w K mg base [x1, x2, x3] qual st f cdv A outer s H E).env = pure false := by exact fun _ _ _ _ _ _ => rfl)
    (hd1 : (x1 == ("__debug__" : Str)) = false := by decide) (hc1 : (x1 == ("__classdict__" : Str)) = false := by decide) (hd2 : (x2 == ("__debug__" : Str)) = false := by decide) (hc2 : (x2 == ("__classdict__" : Str)) = false := by decide)
    (hd3 : (x3 == ("__debug__" : Str)) = false := by decide) (hc3 : (x3 == ("__classdict__" : Str)) = false := by decide) : FnOk P w K mg base CXz 1 f fd [x1, x2, x3] (spE2 C g1 g2) := by
  refine F.ok sc (fun vs H Q E ⟨a, y, z, e, _⟩ => by rw [e]; rfl) (fun cdv A outer s H vs Q E hr ⟨a, y, z, e, ea, q⟩ => ?_)
  rw [hb]
  refine ⟨_, pss_cons (ps_ost (pe_var (i := 0) rfl (hv1 cdv A outer s H E) hd1 hc1) (pe_var (i := 1) rfl (hv2 cdv A outer s H E) hd2 hc2) (hs cdv A outer s H E)) (pss_one (ps_ost (pe_var (i := 0) rfl (hv1 cdv A outer s H E) hd1 hc1) (pe_var (i := 2) rfl (hv3 cdv A outer s H E) hd3 hc3) (hs2 cdv A outer s H E))), ?_⟩
  subst e
  refine ⟨y, rfl, .ref a, rfl, a, C, rfl, T, hno, .inl ⟨ea, fun d n ne => ?_⟩⟩
  refine ⟨z, rfl, .ref a, rfl, a, C, rfl, T, hno2, .inr ⟨d, [(g1, y)], upd_same, by rw [upd_ne ne]; exact upd_same, by simp, q d n ne⟩⟩
end
structure Ra1 (P : Program) (w : World) (K : PySem.W.Frag) (mg : Str → Option Value) (base : Heap) (cs : CS) (x : Str) (nc : Nat) (f : Str) : Prop where
  ex : ∃ (C fI : Addr) (fd : FuncData) (ps : List Str), cs.cls[nc]? = some (.ref C) ∧ OexC K C ∧ PySem.W.findIn K (.ref C) "__init__" = some (some (.ref fI)) ∧ PySem.W.typeIn K (.ref fI) = some (.type "function") ∧ FnOk P w K mg base CXz 1 fI fd ps (spE1 C f) ∧ Binds K fd ps [] ∧ mg x = some (.ref C)
structure Ra2 (P : Program) (w : World) (K : PySem.W.Frag) (mg : Str → Option Value) (base : Heap) (cs : CS) (x : Str) (nc : Nat) (f g : Str) : Prop where
  ex : ∃ (C fI : Addr) (fd : FuncData) (ps : List Str), cs.cls[nc]? = some (.ref C) ∧ OexC K C ∧ PySem.W.findIn K (.ref C) "__init__" = some (some (.ref fI)) ∧ PySem.W.typeIn K (.ref fI) = some (.type "function") ∧ FnOk P w K mg base CXz 1 fI fd ps (spE2 C f g) ∧ Binds K fd ps [] ∧ mg x = some (.ref C)
section
variable {cs : CS} {X : Cx} {W : WX} {c c1 c2 c3 : Nat} {a b e o : Expr} {pos p p2 : Pos} {j nc : Nat}
theorem exo_done {H1 : Hp} {a d C : Addr} {us : List (Str × V)} (ha : H1 a = none) (hd : H1 d = none) (ne : d ≠ a) : upd (del (upd (upd (upd H1 a (exo a C none)) d (exd d us)) a (exo a C (some d))) a) d (.xd us) = upd H1 d (.xd us) := by
  funext b
  by_cases hb : b = d
  · subst hb; rw [upd_same, upd_same]
  · rw [upd_ne hb, upd_ne hb]
    by_cases hba : b = a
    · subst hba; rw [del_same, ha]
    · rw [del_ne hba, upd_ne hba, upd_ne hb, upd_ne hba]
theorem exo_done2 {H1 : Hp} {a d C : Addr} {us ws : List (Str × V)} (ha : H1 a = none) (hd : H1 d = none) (ne : d ≠ a) : upd (del (upd (upd (upd (upd H1 a (exo a C none)) d (exd d us)) a (exo a C (some d))) d (exd d ws)) a) d (.xd ws) = upd H1 d (.xd ws) := by
  funext b
  by_cases hb : b = d
  · subst hb; rw [upd_same, upd_same]
  · rw [upd_ne hb, upd_ne hb]
    by_cases hba : b = a
    · subst hba; rw [del_same, ha]
    · rw [del_ne hba, upd_ne hb, upd_ne hba, upd_ne hb, upd_ne hba]
def tRaise1 (nc : Nat) (f : Str) (te : TfE) : TfS := fun Γ M O => te Γ M (fun d M1 => O.xx Γ nc [(f, d)] M1) (O.xx Γ)
def tRaise2 (nc : Nat) (f g : Str) (te te2 : TfE) : TfS := fun Γ M O => te Γ M (fun d M1 => te2 Γ M1 (fun d2 M2 => O.xx Γ nc [(g, d2), (f, d)] M2) (O.xx Γ)) (O.xx Γ)
theorem st_raise1 {x f : Str} {te : TfE} (R : Ra1 X.prog X.w X.K X.mg X.base cs x nc f) (hr : RoomG j X.A) (tk : Takes X W) (he : PX cs X W c e te) (hj : 2 ≤ j := by decide) (hg : Gl X x := by rfl) (hdb : (x == ("__debug__" : Str)) = false := by decide) (hc : X.calm = true := by rfl)
    (hse : starEach [e] X.env = (false, eval e X.env) :: starEach [] X.env := by rfl) (hpl : (backTo pos (starEach [] X.env)).any (·.1) = false := by rfl) : PST cs X W c (.Raise (some (.Call (.Name x p) [e] [] pos)) none p2) (tRaise1 nc f te) := ⟨fun u n H σ Γ O E A hn q k => by
  obtain ⟨C, fI, fd, ps, hC, T, iC, tI, F, hb, hm⟩ := R.ex
  refine tws_of (ps_raise hc tk (pmk_oex (dvs := []) T iC tI F (hr.mono hj).room hb .nil (fun _ _ _ _ _ _ _ z => z.elim) hg hm (twa_pa X [e]) hdb hse hpl)) ?_
  refine twa_of (L2.pa_cons (tw_pe X e) L2.pa_nil hse) ?_
  refine he.run u n H σ Γ _ _ _ A hn q (fun v d u1 H1 e1 B1 r1 q1 => ?_) (k.kx A (Nat.le_refl _))
  refine ⟨by simp, fun ad ha => ⟨ad, v, rfl, upd_same, fun dd hdd ne => ⟨rfl, dd, [(f, v)], upd_same, by rw [upd_ne ne]; exact upd_same, by rw [upd_ne ne] at hdd; exact hdd, ?_⟩⟩⟩
  rw [upd_ne ne] at hdd
  rw [exo_done ha hdd ne]
  have kk : Keep H1 (upd H1 dd (.xd [(f, v)])) := Keep.new hdd
  refine k.xx _ _ nc [(f, d)] Γ σ u1 _ (e1.trans A.toWd kk.nx) (A.step (e1.trans A.toWd kk.nx) (kk.wd B1)) ?_ q1
  exact ⟨.ref C, [(f, v)], by rw [B1.ks.1]; exact hC, rfl, ⟨v, [], rfl, r1.go B1 kk.nx, rfl⟩, .inr ⟨dd, rfl, B1.notF hdd, upd_same⟩⟩⟩
theorem st_raise2 {x f g : Str} {te te2 : TfE} (R : Ra2 X.prog X.w X.K X.mg X.base cs x nc f g) (hr : RoomG j X.A) (tk : Takes X W) (he : PX cs X W c1 a te) (he2 : PX cs X W c2 b te2) (hj : 2 ≤ j := by decide) (hg : Gl X x := by rfl) (hdb : (x == ("__debug__" : Str)) = false := by decide) (hc : X.calm = true := by rfl)
    (hse : starEach [a, b] X.env = (false, eval a X.env) :: starEach [b] X.env := by rfl) (hse2 : starEach [b] X.env = (false, eval b X.env) :: starEach [] X.env := by rfl) (hpl : (backTo pos (starEach [b] X.env)).any (·.1) = false := by rfl) : PST cs X W (c1 + c2) (.Raise (some (.Call (.Name x p) [a, b] [] pos)) none p2) (tRaise2 nc f g te te2) := ⟨fun u n H σ Γ O E A hn q k => by
  obtain ⟨C, fI, fd, ps, hC, T, iC, tI, F, hb, hm⟩ := R.ex
  refine tws_of (ps_raise hc tk (pmk_oex (dvs := []) T iC tI F (hr.mono hj).room hb .nil (fun _ _ _ _ _ _ _ z => z.elim) hg hm (twa_pa X [a, b]) hdb hse hpl)) ?_
  refine twa_of (L2.pa_cons (tw_pe X a) (L2.pa_cons (tw_pe X b) L2.pa_nil hse2) hse) ?_
  refine he.run u n H σ Γ _ _ _ A (by omega) q (fun v d u1 H1 e1 B1 r1 q1 => ?_) (k.kx A (by omega))
  refine he2.run u1 (n + c1) H1 σ Γ _ _ _ (A.step e1 B1) (by omega) q1 (fun v2 d2 u2 H2 e2 B2 r2 q2 => ?_) ((k.go (l := n + (c1 + c2)) A.toWd e1 (Nat.le_refl _)).kx (A.step e1 B1) (by omega))
  refine ⟨by simp, fun ad ha => ⟨ad, v, v2, rfl, upd_same, fun dd hdd ne => ⟨rfl, dd, [(g, v2), (f, v)], by rw [upd_ne (Ne.symm ne)]; exact upd_same, upd_same, by rw [upd_ne ne] at hdd; exact hdd, ?_⟩⟩⟩
  rw [upd_ne ne] at hdd
  rw [exo_done2 ha hdd ne]
  have kk : Keep H2 (upd H2 dd (.xd [(g, v2), (f, v)])) := Keep.new hdd
  have e12 := e1.trans A.toWd e2
  refine k.xx _ _ nc [(g, d2), (f, d)] Γ σ u2 _ (e12.trans A.toWd kk.nx) (A.step (e12.trans A.toWd kk.nx) (kk.wd (B2.up (by omega)))) ?_ q2
  exact ⟨.ref C, [(g, v2), (f, v)], by rw [B2.ks.1]; exact hC, rfl, ⟨v2, _, rfl, r2.go B2 kk.nx, v, [], rfl, (r1.go B1 e2).go B2 kk.nx, rfl⟩, .inr ⟨dd, rfl, B2.notF hdd, upd_same⟩⟩⟩
end
end Ev
-- EvO
namespace Ev
open PySem PySem.Spec PyProof.Rows L2 ClX
/-! ### try .. except x as n: the caught object is known from then on -/
theorem exc_ok {P : Program} {w : World} {H : Hp} {h : Heap} {a : Addr} {C : V} {od : Option Addr} {oe : Obj} {vs : Array Value} {cv : Value} (r : RelV C cv) (he : h.get? a = some oe) (hz : Zc cv od oe) (hd : oe.data = .fields vs) : ObjOk P w H h a (ExC C od a) :=
  ⟨⟨oe, vs, cv, r, he, hz, hd⟩, ⟨_, he⟩, fun h1 h2 z k => by
    obtain ⟨oe, vs, cv, r, q, z1, z2⟩ := z
    exact ⟨oe, vs, cv, r, k _ q, z1, z2⟩⟩
theorem Inv.track {X : Cx} {pins : List (Addr × Obj)} {σ : L2.St} {H : Hp} {s : Shared} {a : Addr} {C : V} {od : Option Addr} {oe : Obj} {vs : Array Value} {cv : Value} (I : Inv X pins σ H s) (r : RelV C cv) (he : s.heap.get? a = some oe) (hz : Zc cv od oe) (hd : oe.data = .fields vs)
    (na : H a = none) (nL : a ≠ X.env.locals) (n0 : X.s_0.heap.get? a = none) (np : ∀ p ∈ X.pn ++ pins, p.1 ≠ a) : Inv X pins σ (upd H a (ExC C od a)) s := by
  have ne0 : ∀ {b : Addr} {o : Obj}, X.s_0.heap.get? b = some o → b ≠ a := fun {b o} e z => by rw [z, n0] at e; cases e
  have nH : ∀ {b : Addr} {o : HO}, H b = some o → b ≠ a := fun {b o} e => ne_of_none e na
  refine ⟨I.ok, I.os, I.bare, ⟨I.base.keep, I.base.slot, fun b o e n hx => by rw [upd_ne (ne0 e)]; exact I.base.free b o e n hx, I.base.there, fun b xs e => ?_, fun b o u e => ?_, fun b ps e => ?_⟩, I.loc, I.cell, by rw [upd_ne (Ne.symm nL)]; exact I.free, fun x c e => ?_, fun p hp => ?_, fun b o e => ?_, I.len⟩
  · have q := I.base.tups b xs e
    rw [upd_ne (nH q)]; exact q
  · have q := I.base.frzs b o u e
    rw [upd_ne (nH q)]; exact q
  · obtain ⟨more, q⟩ := I.base.tbls b ps e
    exact ⟨more, by rw [upd_ne (nH q)]; exact q⟩
  · obtain ⟨v, o, ho, hv⟩ := I.cell x c e
    have : c ≠ a := fun z => by
      rw [z, he] at ho; cases ho
      rw [hd] at hv; cases hv
    rw [upd_ne this]; exact I.freeC x c e
  · obtain ⟨p1, p2, p3⟩ := I.pin p hp
    exact ⟨p1, by rw [upd_ne (np p hp)]; exact p2, p3⟩
  · by_cases hb : b = a
    · subst hb
      rw [upd_same] at e; cases e
      exact exc_ok r he hz hd
    · rw [upd_ne hb] at e
      exact (I.hok b o e).stay (fun c u hc q => q) (fun c hc => by rw [upd_ne (nH hc)]; exact hc) (fun c xs hc => by rw [upd_ne (nH hc)]; exact hc)
theorem Inv.suite0 {X : Cx} {pins : List (Addr × Obj)} {σ : L2.St} {H : Hp} {s : Shared} (I : Inv X pins σ H s) (a : Addr) : Inv (X.suite a (X.pn ++ pins)) [] σ H s :=
  ⟨I.ok.suite _ _, I.os, I.bare, I.base, I.loc, I.cell, I.free, I.freeC, fun p hp => I.pin p (by rw [List.append_nil] at hp; exact hp), I.hok, I.len⟩
theorem Inv.unsuite0 {X : Cx} {pins pn' : List (Addr × Obj)} {σ : L2.St} {H : Hp} {s : Shared} {a : Addr} (I : Inv (X.suite a (X.pn ++ pins)) pn' σ H s) (ok : X.Ok) : Inv X pins σ H s :=
  ⟨ok, I.os, I.bare, I.base, I.loc, I.cell, I.free, I.freeC, fun p hp => I.pin p (List.mem_append_left _ hp), I.hok, I.len⟩
/-- classes of numbers that an except clause takes, and that it does not -/
structure ExmF (K : PySem.W.Frag) (cs : CS) (c : Value) (ys zs : List Nat) : Prop where
  yes : ∀ n ∈ ys, ∀ C cls, cs.cls[n]? = some C → RelV C cls → PySem.W.exmOne K cls c = some true
  no : ∀ n ∈ zs, ∀ C cls, cs.cls[n]? = some C → RelV C cls → PySem.W.exmOne K cls c = some false
abbrev W0 : WX := fun _ _ _ _ => False
def Out.off (O : Out) (i : Nat) : Out where
  nx := fun Γ M => O.nx (Γ.set i none) M
  rt := O.rt
  bk := fun Γ M => O.bk (Γ.set i none) M
  ct := fun Γ M => O.ct (Γ.set i none) M
def tTryAs (ys zs : List Nat) (i : Nat) (tb ts : TfS) : TfS := fun Γ M O =>
  tb Γ M { O with xx := fun Γ' nc fs M' => (nc ∈ ys ∧ ∀ a, ts (Γ'.set i (some (.exc a nc fs))) M' (O.off i)) ∨ (nc ∈ zs ∧ O.xx Γ' nc fs M') }
theorem At.off {cs : CS} {u : U} {n : Nat} {H : Hp} {σ : L2.St} {Γ : Gm} {j : Nat} (h : At cs u n H σ Γ) : At cs u n H (σ.set j none) (Γ.set j none) := by
  refine ⟨h.toWd, by simp [h.lenS], fun i d' g => ?_⟩
  by_cases e : i = j
  · subst e
    by_cases hl : i < Γ.length
    · rw [List.getElem?_set_self hl] at g; cases g
    · rw [List.getElem?_eq_none (by simpa using hl)] at g; cases g
  · rw [List.getElem?_set_ne (Ne.symm e)] at g ⊢
    exact h.sl i d' g
section
variable {cs : CS} {X : Cx} {W : WX} {c c1 c2 c3 : Nat} {pos p p2 np pos' : Pos} {x nm : Str} {cv : Value} {body suite : List Stmt} {b₀ : Stmt} {ys zs : List Nat}
theorem st_try_as (i : Nat) {tb ts : TfS} (hN : X.N.Nodup) (hc : Names X x cv) (F : ExmF X.K cs cv ys zs) (tk : Takes X W)
    (hb : ∀ (W : WX) (pn : List (Addr × Obj)) (xe : Value → Shared → Prop), Takes (X.tr pn xe) W → PassesOwn (model X.prog X.w) X.A X.env xe → PSU cs (X.tr pn xe) W c1 body tb)
    (hsu : ∀ (a : Addr) (pn : List (Addr × Obj)), PSU cs (X.suite a pn) W0 c2 (b₀ :: suite) ts)
    (hs : X.stack = X.env :: X.outer := by rfl) (hf : X.env.frame = some X.env.locals := by rfl) (hex : X.ex = [] := by rfl) (hi : X.N[i]? = some nm := by rfl) (hln : X.env.kindOf nm = some .local := by rfl) :
    PST cs X W (c1 + c2) (.Try body [.ExceptHandler (some (.Name x np)) (some nm) (b₀ :: suite) pos'] [] [] pos) (tTryAs ys zs i tb ts) := ⟨fun u n H σ Γ O E A hn q k => TWS.mk fun pins s I => by
  have ok := I.ok
  have hfr : X.A.frames = some (X.env :: X.outer) := by rw [ok.frames, hs]
  have hloc : Loc X.env.scope nm := .inl hln
  refine wpAny_Try_except ?_
  let O1 : Out := { O with xx := fun Γ' nc fs M' => (nc ∈ ys ∧ ∀ a, ts (Γ'.set i (some (.exc a nc fs))) M' (O.off i)) ∨ (nc ∈ zs ∧ O.xx Γ' nc fs M') }
  let W1 : WX := fun cls od σ' H' => ∃ nc fs Γ' u', Nx u H u' H' ∧ At cs u' (n + c1) H' σ' Γ' ∧ RepX u' H' cls od nc fs ∧ O1.xx Γ' nc fs u'.M
  have kb : KO cs u (n + c1) H O1 W1 E := ⟨fun Γ' σ' u' H' e B q => k.nx Γ' σ' u' H' e (B.up (by omega)) q, fun v d u' H' e B r q => k.rt v d u' H' e (B.up (by omega)) r q, fun Γ' σ' u' H' e B q => k.bk Γ' σ' u' H' e (B.up (by omega)) q, fun Γ' σ' u' H' e B q => k.ct Γ' σ' u' H' e (B.up (by omega)) q,
    fun cls od nc fs Γ' σ' u' H' e B r q => ⟨nc, fs, Γ', u', e, B, r, q⟩⟩
  refine wpAny_mono (((hb W1 (X.pn ++ pins) (fun e s₁ => wpAny (model X.prog X.w) X.A (noteFrame e X.env) (fun _ s₂ => wpAny (model X.prog X.w) X.A (setFlight e none) (fun _ s₃ =>
    wpAny (model X.prog X.w) X.A (handleBy e X.env [.ExceptHandler (some (.Name x np)) (some nm) (b₀ :: suite) pos']) (SP X pins E) X.xe s₃) X.xe s₂) X.xe s₁) (fun v s' xx => ?_) PassesOwn.looking).run u n H σ Γ O1 E A (by omega) q kb).run [] s (I.toTry _)) (fun f s1 hsp => ?_) (fun e s1 he => he)
  · -- the catch
    obtain ⟨a, B, sI, pins', σ', H', cls, d, rfl, J', nb, up, sky, na, os, ag, nc, fs, Γ', u', e', A', rx, qx⟩ := xx
    have J : Inv X pins σ' H' sI := J'.ofTry ok
    have sky' : Sky B (X.env :: X.outer) a (Zc cls d) X.env.locals s'.heap := by rw [← hs]; exact sky
    show wpAny (model X.prog X.w) X.A (noteFrame (.ref a) X.env) _ _ _
    refine Sky.land Zc.steady hfr hf sky' fun h3 fl3 up3 => ?_
    have J3 : Inv X pins σ' H' { s' with heap := h3 } := J.landed nb fl3.1 (up.trans up3) os ag
    obtain ⟨oe3, vs3, he3, hz3, hd3⟩ := fl3.there
    have notFr : ∀ {h : Heap} {o : Obj} {vs : Array Value}, h.FunFrames B (X.env :: X.outer) → h.get? a = some o → o.data = .fields vs → a ∉ frs (X.env :: X.outer) := fun {h o vs} ff e dd hm => by
      obtain ⟨_, o', e', hnf⟩ := ff.mem hm
      rw [e] at e'; cases e'
      exact hnf _ dd
    have nfr := notFr fl3.2.2.1 he3 hd3
    have nL : a ≠ X.env.locals := fun z => nfr (List.mem_filterMap.mpr ⟨X.env, List.mem_cons_self, by rw [hf, z]⟩)
    have nF : a ∉ X.fs := fun hm => by
      obtain ⟨e, he, q⟩ := List.mem_filterMap.mp hm
      exact nfr (List.mem_filterMap.mpr ⟨e, List.mem_cons_of_mem _ he, q⟩)
    have nI : sI.heap.get? a = none := by
      cases hq : sI.heap.get? a with
      | none => rfl
      | some o =>
        have z := nb a o hq (by rw [hs]; exact nfr)
        rw [fl3.2.1] at z; cases z
    have n0 : X.s_0.heap.get? a = none := by
      cases hq : X.s_0.heap.get? a with
      | none => rfl
      | some o =>
        obtain ⟨o', z⟩ := J.base.there a o hq (by rw [hex]; simp)
        rw [nI] at z; cases z
    have npn : ∀ p ∈ X.pn ++ pins, p.1 ≠ a := fun p hp z => by
      have z1 := (J.pin p hp).1
      rw [z, nI] at z1; cases z1
    have S3 := J3.suite he3 hd3 na nL nF
    refine wpAny_handleBy_cons (codeAny_handlers_test ?_) (by intro q; cases q)
    have LT : PySem.W.Looks (model X.prog X.w) h3 (typeOf (.ref a)) cls := fun A Q E s k q => wpAny_typeOf_ref (k _ _ he3) (by rw [hz3.1]; exact q)
    obtain ⟨Cv, us, hC, rC, rf, hus⟩ := rx
    rw [A'.ks.1] at hC
    have test : ∀ {Q : Value → Shared → Prop} {E : Value → Shared → Prop}, Q cv { s' with heap := h3 } → wpAny (model X.prog X.w) (X.A.mark (some (.ref a))) (eval (.Name x np) X.env) Q E { s' with heap := h3 } := fun {Q E} q => by
      obtain ⟨hg, hdbg, hm | ⟨hm, hv, hnn⟩⟩ := hc
      · exact ld_glob (X := X.suite a ((a, oe3) :: (X.pn ++ pins))) S3 hg hm q hdbg
      · exact ld_blt (X := X.suite a ((a, oe3) :: (X.pn ++ pins))) S3 hg hm hv q hnn hdbg
    rcases qx with ⟨hy, hts⟩ | ⟨hz, hxx⟩
    · refine test ((PySem.W.exm_one (M := model X.prog X.w) (J3.kIn) LT (F.yes nc hy Cv cls hC rC)).here ?_)
      refine codeAny_handlers_suite_as ?_
      refine HandSPX.lands_againZ fl3 fun h4 fl4 up4 => ?_
      have J4 : Inv X pins σ' H' { s' with heap := h4 } := J.landed nb fl4.1 ((up.trans up3).trans up4) os ag
      obtain ⟨oe4, vs4, he4, hz4, hd4⟩ := fl4.there
      have J5 : Inv X pins σ' (upd H' a (ExC Cv d a)) { s' with heap := h4 } := Inv.track J4 rC he4 hz4 hd4 na nL n0 npn
      have S4 := Inv.suite0 J5 a
      have kk : Keep H' (upd H' a (ExC Cv d a)) := Keep.new na
      have e2 := e'.trans A.toWd kk.nx
      have A2 : At cs u' (n + c1) (upd H' a (ExC Cv d a)) σ' Γ' := A'.step kk.nx (kk.wd A'.toWd)
      have rex : Rep u' (upd H' a (ExC Cv d a)) (.exc a nc fs) (.ref a) := by
        refine ⟨Cv, d, us, rfl, A'.notF na, by rw [A'.ks.1]; exact hC, upd_same, rf.go A'.toWd kk.nx, hus.imp id fun ⟨dd, z1, z2, z3⟩ => ⟨dd, z1, z2, kk _ _ z3⟩⟩
      refine store_ok (X := X.suite a (X.pn ++ pins)) (v := .ref a) S4 hN hi hloc rfl (fun s5 S5 => ?_) (.inr hln)
      have ks : KO cs u' (n + c1 + c2) (upd H' a (ExC Cv d a)) (O.off i) W0 { nx := fun σ'' H'' => E.nx (σ''.set i none) H'', rt := E.rt, bk := fun σ'' H'' => E.bk (σ''.set i none) H'', ct := fun σ'' H'' => E.ct (σ''.set i none) H'' } :=
        ⟨fun Γ2 σ2 u2 H2 e3 B3 q3 => k.nx _ _ u2 H2 (e2.trans A.toWd e3) (B3.off.up (by omega)) q3, fun v2 d2 u2 H2 e3 B3 r3 q3 => k.rt v2 d2 u2 H2 (e2.trans A.toWd e3) (B3.up (by omega)) r3 q3, fun Γ2 σ2 u2 H2 e3 B3 q3 => k.bk _ _ u2 H2 (e2.trans A.toWd e3) (B3.off.up (by omega)) q3, fun Γ2 σ2 u2 H2 e3 B3 q3 => k.ct _ _ u2 H2 (e2.trans A.toWd e3) (B3.off.up (by omega)) q3,
          fun cls2 od2 c3 fs2 Γ2 σ2 u2 H2 e3 B3 r3 q3 => q3⟩
      refine wpAny_mono (((hsu a (X.pn ++ pins)).run u' (n + c1) _ _ _ _ _ (A2.set rex) (by omega) (hts a) ks).run [] s5 S5) (fun f s6 hsp => ?_) (fun _ _ z => False.elim z)
      have end_ : ∀ {σ6 : L2.St} {H6 : Hp} {Q : Shared → Prop}, Inv (X.suite a (X.pn ++ pins)) [] σ6 H6 s6 → (∀ s7, Inv X pins (σ6.set i none) H6 s7 → Q s7) →
          wpAny (model X.prog X.w) X.A (do bindName X.env nm .none; unbindBehindTheSuite X.env nm pos') (fun _ s7 => Q s7) X.xe s6 := fun {σ6 H6 Q} S6 hq => gone_ok (Inv.unsuite0 S6 ok) hN hi hln hq
      cases f with
      | next =>
        obtain ⟨σ6, H6, S6, q6⟩ := hsp
        exact end_ S6 fun s7 J7 => ⟨_, _, J7, q6⟩
      | brk =>
        obtain ⟨σ6, H6, S6, q6⟩ := hsp
        exact end_ S6 fun s7 J7 => ⟨_, _, J7, q6⟩
      | cont =>
        obtain ⟨σ6, H6, S6, q6⟩ := hsp
        exact end_ S6 fun s7 J7 => ⟨_, _, J7, q6⟩
      | ret v =>
        obtain ⟨v6, σ6, H6, S6, r6, q6⟩ := hsp
        exact end_ S6 fun s7 J7 => ⟨_, _, _, J7, r6, q6⟩
    · refine test ((PySem.W.exm_one (M := model X.prog X.w) (J3.kIn) LT (F.no nc hz Cv cls hC rC)).here ?_)
      show wpAny _ X.A (handleBy (.ref a) X.env []) _ _ _
      refine wpAny_handleBy_nil ?_
      obtain ⟨k1, k2, k3, oe, vs, T, oT, ts', he, hz, hd, h1, hr⟩ := id fl3
      unfold PySem.passOn
      refine wpAny_bind (wpAny_field he hd h1 ?_)
      rw [if_neg (show ¬ ((Value.ref T == Value.none) = true) from by simp)]
      have fin : wpAny (model X.prog X.w) X.A (setFlight (.ref a) X.env.frame) (fun _ s4 => wpAny (model X.prog X.w) X.A (throw (.ref a) : Sem Flow) (SP X pins E) X.xe s4) X.xe { s' with heap := h3 } := by
        rw [hf]
        refine HandSPX.setFlight_upZ fl3 fun h4 hh4 up4 => wpAny_throw (tk _ _ ?_)
        exact ⟨a, B, sI, pins, σ', H', cls, d, rfl, J, nb, (up.trans up3).trans up4, .inr (.inr (by rw [hs]; exact hh4)), na, os, ag, k.xx cls d nc fs Γ' σ' u' H' e' (A'.up (by omega)) ⟨Cv, us, by rw [A'.ks.1]; exact hC, rC, rf, hus⟩ hxx⟩
      first
        | exact wpAny_bind (wpAny_pure (wpAny_bind fin))
        | exact wpAny_bind fin
  · cases f with
    | next =>
      obtain ⟨σ', H', J', q⟩ := hsp
      exact wpAny_execs_nil ⟨σ', H', J'.ofTry ok, q⟩
    | brk =>
      obtain ⟨σ', H', J', q⟩ := hsp
      exact ⟨σ', H', J'.ofTry ok, q⟩
    | cont =>
      obtain ⟨σ', H', J', q⟩ := hsp
      exact ⟨σ', H', J'.ofTry ok, q⟩
    | ret v =>
      obtain ⟨v', σ', H', J', r, q⟩ := hsp
      exact ⟨v', σ', H', J'.ofTry ok, r, q⟩⟩
end
end Ev
-- EvP
namespace Ev
open PySem PySem.Spec PyProof.Rows L2 ClX LamX
/-! ### a lambda without parameters, handed to a def that calls it -/
def capV : Gm → List (Option V) → List V
  | some _ :: Γ, some v :: σ => v :: capV Γ σ
  | _ :: Γ, _ :: σ => .non :: capV Γ σ
  | _, _ => []
abbrev capD (Γ : Gm) : List D := Γ.map fun o => o.getD .non
theorem cap_rep {u : U} {H : Hp} : ∀ {Γ : Gm} {σ : List (Option V)}, σ.length = Γ.length → (∀ (i : Nat) (d : D), Γ[i]? = some (some d) → ∃ v, σ[i]? = some (some v) ∧ Rep u H d v) → RepL u H (capD Γ) (capV Γ σ)
  | [], σ, hl, h => by
    cases σ with
    | nil => exact RepL.nil
    | cons _ _ => cases hl
  | g :: Γ, [], hl, h => by cases hl
  | g :: Γ, o :: σ, hl, h => by
    have ih : RepL u H (capD Γ) (capV Γ σ) := cap_rep (by simpa using hl) fun i d z => by simpa using h (i + 1) d (by simpa using z)
    cases g with
    | none =>
      have e : capV (none :: Γ) (o :: σ) = .non :: capV Γ σ := by cases o <;> rfl
      rw [e]; exact RepL.cons rfl ih
    | some d =>
      obtain ⟨v, h1, h2⟩ := h 0 d rfl
      have h1 : o = some v := by simpa using h1
      subst h1
      exact RepL.cons h2 ih
theorem cap_at : ∀ {Γ : Gm} {σ : List (Option V)} {i : Nat} {d : D} {v w : V}, Γ[i]? = some (some d) → σ[i]? = some (some w) → (capV Γ σ)[i]? = some v → v = w
  | [], _, _, _, _, _, h, _, _ => by simp at h
  | _ :: _, [], _, _, _, _, _, h, _ => by simp at h
  | g :: Γ, o :: σ, 0, d, v, w, h1, h2, h3 => by
    have h1 : g = some d := by simpa using h1
    have h2 : o = some w := by simpa using h2
    subst h1; subst h2
    have : v = w := by simpa [capV] using h3.symm
    exact this
  | g :: Γ, o :: σ, i + 1, d, v, w, h1, h2, h3 => by
    have h3 : (capV Γ σ)[i]? = some v := by
      cases g <;> cases o <;> simpa [capV] using h3
    exact cap_at (by simpa using h1) (by simpa using h2) h3
/-- the slots of the maker, out of what the lambda holds -/
theorem At.cap {cs : CS} {u u1 : U} {n n1 : Nat} {H H1 : Hp} {σ : L2.St} {Γ : Gm} (A1 : At cs u1 n1 H1 σ Γ) (B : Wd cs u n H) (r : RepL u H (capD Γ) (capV Γ σ)) : At cs u n H σ Γ := ⟨B, A1.lenS, fun i d g => by
  have g' : (capD Γ)[i]? = some d := by simp [g]
  obtain ⟨v, h1, h2⟩ := r.get g'
  obtain ⟨w, h3, _⟩ := A1.sl i d g
  rw [cap_at g h3 h1] at h2
  exact ⟨w, h3, h2⟩⟩
section
variable {X : Cx} {pins : List (Addr × Obj)} {σ : L2.St} {H : Hp} {s : Shared}
/-- the lambda is made; all objects go on -/
theorem lam_made {T : List (Addr × Str)} {c P : Addr} {params : Arguments} {body : Expr} {scope : Scope} {pos : Pos} {E : Value → Shared → Prop} {Q : Value → Shared → Prop} (I : Inv X pins σ H s) (TB : TabB X.base X.mg c P) (hcode : X.env.code = .ref c)
    (hm : (P, X.env.qual ++ "<lambda>") ∈ T) (hu : ∀ p ∈ T, p.1 = P → p.2 = X.env.qual ++ "<lambda>") (hT : Tabs T H) (hdef : defaultsOf params X.env = ([], [])) (hfree : ∀ y ∈ scope.names, y.2 = .free → ∃ c, X.env.cells.lookup y.1 = some c)
    (h : ∀ (f c' : Addr) (pm ctv : Value) (H1 : Hp) (s' : Shared), Inv X pins σ H1 s' → ExtN H H1 → (∀ b o, H b = some o → ∃ o', H1 b = some o') → Tabs T H1 →
      s'.heap.get? f = some (PySem.W.kla_obj "<lambda>" (X.env.qual ++ "<lambda>") params body scope (cloFrom X.env.cells scope.names []) pm c' ctv) → H1 f = none → f ∉ frs X.stack → H1 c' = some (CodeO c' (X.env.qual ++ "<lambda>")) → (∃ ps, H P = some (.tbl ps)) → Q (.ref f) s') :
    wpAny (model X.prog X.w) X.A (eval (.Lambda params body scope pos) X.env) Q E s := by
  obtain ⟨ps, hP, ht, ha⟩ := hT _ hm
  refine PySem.W.kla_eval hdef ?_
  have bP : s.heap.BuiltinsAt X.mg P := TB.bm.keeps I.bk
  have hP' : s.heap.get? P = some { cls := .none, data := .fields ps } := I.hok P _ hP
  have nofr : ∀ f, s.heap.objs.size ≤ f → f ∉ frs X.stack := fun f hf z => by
    rcases List.mem_cons.mp (I.stkSub _ z) with e | e
    · have h1 := I.lt
      rw [← e] at h1
      exact Nat.lt_irrefl _ (Nat.lt_of_lt_of_le h1 hf)
    · exact I.nofs hf e
  rcases hc : codeAmong pos ps.toList with _ | cv
  · refine PySem.W.kla_makeFunction (mg := X.mg) (c := c) (P := P) (ps := ps) (closure_ok hfree) I.ok.glob (I.mod.glob.keeps I.bk) hcode (TB.code.keeps I.bk) hP' ht hc TB.gP bP fun c' ctv h' tk hx hge hlt hrec htb => ?_
    obtain ⟨c2, oc, vs, t, e2, hoc, hd, hv⟩ := hrec
    cases e2
    have hsz : s.heap.objs.size ≤ h'.objs.size := Nat.le_trans hge (Nat.le_of_lt hlt)
    have nC : H c' = none := I.hok.fresh hge
    have I1 := inv_table (t' := tk) (more := #[rawInt pos.line, rawInt pos.col, .ref c']) (h' := h'.push (PySem.W.kla_obj "<lambda>" (X.env.qual ++ "<lambda>") params body scope (cloFrom X.env.cells scope.names []) ((X.mg "__name__").getD .none) c' ctv)) I hP
      (fun b o hb e => Heap.get?_push_of_some _ (hx b o hb e)) (Heap.get?_push_of_some _ htb) hge ⟨oc, vs, t, Heap.get?_push_of_some _ hoc, hd, hv⟩
    have eP : ∀ b o, H b = some o → b ≠ P → upd (upd H P (.tbl (ps ++ #[rawInt pos.line, rawInt pos.col, .ref c']))) c' (CodeO c' (X.env.qual ++ "<lambda>")) b = some o := fun b o e hb => by
      rw [upd_ne (ne_of_none e nC), upd_ne hb]; exact e
    have hE : ExtN H (upd (upd H P (.tbl (ps ++ #[rawInt pos.line, rawInt pos.col, .ref c']))) c' (CodeO c' (X.env.qual ++ "<lambda>"))) := fun b o e n => eP b o e fun z => n ps (Option.some.inj (e.symm.trans (by rw [z]; exact hP)))
    have eL : (ps ++ #[rawInt pos.line, rawInt pos.col, .ref c']).toList = ps.toList ++ [rawInt pos.line, rawInt pos.col, .ref c'] := by simp
    refine h h'.objs.size c' ((X.mg "__name__").getD .none) ctv _ _ I1 hE (fun b o e => ?_) (fun p hp => ?_) (Heap.get?_push_size _ rfl) ?_ (nofr _ hsz) upd_same ⟨ps, hP⟩
    · by_cases hb : b = P
      · exact ⟨_, by rw [hb, upd_ne (ne_of_none hP nC), upd_same]⟩
      · exact ⟨o, eP b o e hb⟩
    · by_cases hb : p.1 = P
      · rw [hu p hp hb, hb]
        refine ⟨_, by rw [upd_ne (ne_of_none hP nC), upd_same], by rw [eL]; exact PySem.TriplesOk_snoc _ _ _ _ ht, fun p' cv hcv => ?_⟩
        rw [eL] at hcv
        rcases among_app _ ht hcv with z | z
        · obtain ⟨c0, e1, e2⟩ := ha p' cv z
          exact ⟨c0, e1, hE _ _ e2 codeO_ne⟩
        · exact ⟨c', z, upd_same⟩
      · obtain ⟨ps', a1, a2, a3⟩ := hT p hp
        refine ⟨ps', eP _ _ a1 hb, a2, fun p' cv hcv => ?_⟩
        obtain ⟨c0, e1, e2⟩ := a3 p' cv hcv
        exact ⟨c0, e1, hE _ _ e2 codeO_ne⟩
    · have n1 : h'.objs.size ≠ c' := Nat.ne_of_gt hlt
      have n2 : h'.objs.size ≠ P := Nat.ne_of_gt (Nat.lt_of_lt_of_le (Heap.lt_size hP') hsz)
      rw [upd_ne n1, upd_ne n2]
      exact I.hok.fresh hsz
  · obtain ⟨c', e, hco⟩ := ha pos cv hc
    subst e
    refine PySem.W.kla_makeFunctionHit (mg := X.mg) (c := c) (P := P) (ps := ps) (closure_ok hfree) I.ok.glob (I.mod.glob.keeps I.bk) hcode (TB.code.keeps I.bk) hP' ht hc bP fun ctv h' tk hx hsz => ?_
    have I1 : Inv X pins σ H { s with heap := h'.push (PySem.W.kla_obj "<lambda>" (X.env.qual ++ "<lambda>") params body scope (cloFrom X.env.cells scope.names []) ((X.mg "__name__").getD .none) c' ctv), toks := tk } := I.kept fun b o e => Heap.get?_push_of_some _ (hx b o e)
    exact h h'.objs.size c' ((X.mg "__name__").getD .none) ctv H _ I1 (ExtN.refl H) (fun b o e => ⟨o, e⟩) hT (Heap.get?_push_size _ rfl) (I.hok.fresh hsz) (nofr _ hsz) hco ⟨ps, hP⟩
end
/-- a() in the def that got the lambda -/
theorem act_px {cs : CS} {X : Cx} {pins : List (Addr × Obj)} {σ : L2.St} {H1 : Hp} {s1 : Shared} {Eg : XK} {Ng : List Str} {qg : Str} {sg : Scope} {g f c' : Addr} {cdg pm ctv : Value} {params : Arguments} {body : Expr} {scope : Scope} {k cL n1 : Nat} {a : Str} {pn : List (Addr × Obj)} {xe : Value → Shared → Prop} {W : WX} {tb : TfE} {u1 : U} {Γ : Gm} {p1 p2 : Pos}
    (I : Inv X pins σ H1 s1) (L : LamS X.env.scope scope) (hf : s1.heap.get? f = some (PySem.W.kla_obj "<lambda>" (X.env.qual ++ "<lambda>") params body scope (cloFrom X.env.cells scope.names []) pm c' ctv)) (hfn : H1 f = none) (hfr : f ∉ frs X.stack)
    (hbind : bindArgs (PySem.W.kla_fn "<lambda>" (X.env.qual ++ "<lambda>") params body scope (cloFrom X.env.cells scope.names []) pm (.ref c') ctv) ⟨[], []⟩ = pure [])
    (tk : Takes ((cxOf (L2.CX X.prog X.w) X.prog X.w X.K X.mg X.base Ng qg sg g cdg X.A X.stack s1 H1 Eg).tr pn xe) W) (hr : RoomG (k + 1) (X.A.deeper (envOfC qg sg s1.heap.objs.size g cdg)))
    (hbody : ∀ (A : Around) (outer : List Env) (s : Shared) (H : Hp) (E : XK), RoomG k (A.deeper (lamEnv X scope s.heap.objs.size f c')) → PX cs (lamCx X A outer s H E scope f c') (WE E) cL body tb)
    (A1 : At cs u1 n1 H1 σ Γ) (hN : Ng[0]? = some a) (hv : Vis sg a) (hd : (a == ("__debug__" : Str)) = false) (hcd : (a == ("__classdict__" : Str)) = false) :
    PX cs ((cxOf (L2.CX X.prog X.w) X.prog X.w X.K X.mg X.base Ng qg sg g cdg X.A X.stack s1 H1 Eg).tr pn xe) W cL (.Call (.Name a p1) [] [] p2)
      (fun Γz M post xp => Γz[0]? = some (some (.fn f c' (X.env.qual ++ "<lambda>") (capV Γ σ) (capD Γ))) ∧ tb Γ M post xp) := ⟨fun u n H σz Γz post xp Q A hn ⟨hs, q⟩ kn kx => TW.mk fun pinsZ sZ IZ => by
  obtain ⟨v0, h0, r0⟩ := A.sl 0 _ hs
  obtain ⟨ev, nF, hc, rl⟩ := r0.fnE
  subst ev
  refine wpAny_Call_Name_kw (thn ((pe_var (pos := p1) (i := 0) hN hv hd hcd).run pinsZ sZ σz H (fun v H1 => v = .ref f ∧ H1 = H) IZ ⟨.ref f, h0, rfl, rfl⟩) fun w s2 ⟨v, H2, I2, r2, q2⟩ => ?_)
  obtain ⟨ev, eH⟩ := q2
  subst ev
  rw [eH] at I2
  obtain rfl : w = Value.ref f := r2
  have of1 : s2.heap.get? f = some (PySem.W.kla_obj "<lambda>" (X.env.qual ++ "<lambda>") params body scope (cloFrom X.env.cells scope.names []) pm c' ctv) := I2.base.keep f _ hf hfn hfr (fun z => nomatch (show f ∈ ([] : List Addr) from z))
  refine PySem.W.callWith_F0 ⟨_, _, _, _, of1⟩ ?_
  have un : Un (frs X.stack) [] H1 H s1.heap s2.heap := I2.base
  obtain ⟨⟨oc, vs, t, hoc, hdc, hvc⟩, _, _⟩ := I2.hok c' _ hc
  have rc : codeAny (model X.prog X.w) (X.A.deeper (envOfC qg sg s1.heap.objs.size g cdg)) (.call (.ref f) ⟨[], []⟩) (CR (L2.CX X.prog X.w) (envOfC qg sg s1.heap.objs.size g cdg :: X.stack) X.prog X.w H s2 Q (fun cls d H' => W cls d σz H')) s2 := by
    refine PySem.W.kla_callFunE hr.room.depth of1 rfl L.co L.gen rfl ⟨c', oc, vs, t, rfl, hoc, hdc, hvc⟩ ?_
    rw [hbind]
    refine wpAny_pure (wpAny_newFunctionEnv (fun y hy => (L.own y hy).2) (fun y hy => absurd hy (by simp)) (fun h₁ hns hsb => ⟨I2.nolimit.fresh _ hsb, ?_⟩) L.kind)
    show codeAny _ _ (.expr body (lamEnv X scope s2.heap.objs.size f c')) _ _
    have kp : ∀ b o, s2.heap.get? b = some o → h₁.get? b = some o := fun b o e => hsb.extBut b o (Nat.ne_of_lt (Heap.lt_size e)) (Heap.get?_push_of_some _ e)
    have J : Inv (lamCx X (X.A.deeper (envOfC qg sg s1.heap.objs.size g cdg)) (envOfC qg sg s1.heap.objs.size g cdg :: X.stack) s2 H (fun cls d H' => W cls d σz H') scope f c') [] σ H { s2 with heap := h₁, toks := s2.toks + ([] : List (Str × Value)).length } :=
      lam_start2 I L I2.env0 hr.room.hd un hns kp
    have hb := (hbody (X.A.deeper (envOfC qg sg s1.heap.objs.size g cdg)) (envOfC qg sg s1.heap.objs.size g cdg :: X.stack) s2 H (fun cls d H' => W cls d σz H') ⟨hr.room.deeper _, hr.gd⟩).run u n H σ Γ post xp Q (A1.cap A.toWd rl) hn q kn (fun cls od c fs u' H' e B r x => kx cls od c fs u' H' e B r x)
    refine PySem.W.kla_codeExpr (wpAny_mono (hb.run [] _ J) (fun v s' hq => ?_) fun e s' hq => hq)
    obtain ⟨w', H', J', rv, q⟩ := hq
    exact ⟨w', H', J'.os, J'.bare, J'.base, J'.hok, rv, q⟩
  refine wpAny_call (codeAny_mono rc fun r s' hq => ?_)
  cases r with
  | error e => exact takes_call tk I2 hq
  | ok fl =>
    cases fl with
    | ret u => exact I2.after hq
    | next => exact False.elim hq
    | brk => exact False.elim hq
    | cont => exact False.elim hq⟩
abbrev TfL := Store → DP → XP → Prop
/-- the def that hears what its parameter's call comes to -/
structure HrD (P : Program) (w : World) (K : PySem.W.Frag) (mg : Str → Option Value) (base : Heap) (cs : CS) (k : Nat) (x : Str) (c cL : Nat) (S : TfL → TfL) : Prop where
  ex : ∃ (g : Addr) (fd : FuncData) (st : Stmt) (Ng : List Str) (a : Str), Fun K x x st g fd ∧ FnScope Ng [a] (defScope st) ∧ Ng[0]? = some a ∧ Vis (defScope st) a ∧ (a == ("__debug__" : Str)) = false ∧ (a == ("__classdict__" : Str)) = false ∧ mg x = some (.ref g) ∧ PySem.W.keepIn K (.ref g) = true ∧ Binds K fd [a] [] ∧
    ∀ (cdv : Value) (A : Around) (outer : List Env) (s : Shared) (H : Hp) (E : XK) (L : TfL) (fD : D), RoomG k (A.deeper (envOfC x (defScope st) s.heap.objs.size g cdv)) →
      (∀ (W : WX) (pn : List (Addr × Obj)) (xe : Value → Shared → Prop), Takes ((CxB P w K mg base Ng x st g cdv A outer s H E).tr pn xe) W → ∀ p1 p2, PX cs ((CxB P w K mg base Ng x st g cdv A outer s H E).tr pn xe) W cL (.Call (.Name a p1) [] [] p2) (fun Γ M post xp => Γ[0]? = some (some fD) ∧ L M post xp)) →
      ∃ c0 t, c0 ≤ c ∧ PSU cs (CxB P w K mg base Ng x st g cdv A outer s H E) (WE E) c0 (defBody st) t ∧ ∀ M post xp, S L M post xp → t (G0 Ng [fD]) M { nx := fun _ M' => post .non M', rt := post, xx := fun _ => xp }
def tHear (S : TfL → TfL) (tb : TfE) : TfE := fun Γ M post xp => S (tb Γ) M post xp
section
variable {cs : CS} {X : Cx} {W : WX} {c cH cL : Nat} {pos p lpos : Pos} {k j kL : Nat}
theorem px_hear {x : Str} {params : Arguments} {body : Expr} {scope : Scope} {S : TfL → TfL} {tb : TfE} {cc P : Addr} (D : HrD X.prog X.w X.K X.mg X.base cs k x cH cL S) (hr : RoomG j X.A) (tk : Takes X W) (TB : TabB X.base X.mg cc P) (hmT : (P, X.env.qual ++ "<lambda>") ∈ cs.T) (hu : ∀ p ∈ cs.T, p.1 = P → p.2 = X.env.qual ++ "<lambda>")
    (hbody : ∀ (A : Around) (outer : List Env) (s : Shared) (H : Hp) (E : XK) (f c' : Addr), RoomG kL (A.deeper (lamEnv X scope s.heap.objs.size f c')) → PX cs (lamCx X A outer s H E scope f c') (WE E) cL body tb)
    (hk : k + 1 ≤ j := by decide) (hkL : kL + 2 ≤ j := by decide) (hcode : X.env.code = .ref cc := by rfl) (hg : Gl X x := by rfl)
    (L : LamS X.env.scope scope := by exact lamS_by (by rfl)) (hdef : defaultsOf params X.env = ([], []) := by rfl)
    (hbind : ∀ (q : Str) (cl : List (Str × Addr)) (pm cv ctv : Value), bindArgs (PySem.W.kla_fn "<lambda>" q params body scope cl pm cv ctv) ⟨[], []⟩ = pure [] := by intros; rfl)
    (hdb : (x == ("__debug__" : Str)) = false := by decide) : PX cs X W cH (.Call (.Name x p) [.Lambda params body scope lpos] [] pos) (tHear S tb) := ⟨fun u n H σ Γ post xp Q A hn q kn kx => TW.mk fun pins s I => by
  obtain ⟨g, fd, st, Ng, a, F, Sg, hN, hv, hd, hcd, hm, hkp, hb, hG⟩ := D.ex
  refine wpAny_Call_Name_kw (ld_glob I hg hm ?_ hdb)
  refine PySem.W.callWith_K (h₀ := X.base) I.ok.mod.kin hkp ?_ (by rfl) (by rfl)
  show wpAny _ _ (spliced ((false, eval (.Lambda params body scope lpos) X.env) :: backTo pos (starEach [] X.env))) _ _ s
  have hT : Tabs cs.T H := by rw [← A.ks.2]; exact A.pen.tabs
  refine Calls.spliced_cons (lam_made I TB hcode hmT hu hT hdef (L.has I.ok) fun f c' pm' ctv H1 s' I1 eN th T1 hf hfn hfr hco ⟨pp, hPt⟩ => ?_)
  refine Calls.spliced_nil ⟨I1.kIn, ?_⟩
  have x1 : Nx u H u H1 := ⟨rfl, rfl, fun _ h => h, fun _ h => .inl h, fun _ _ h => h, fun _ h => h, (fun i b h hi => by rw [List.getElem?_eq_none hi] at h; cases h), fun b o _ t e => eN b o e t, th⟩
  have pen1 : Pen u n H1 := by
    obtain ⟨ns, t, r, a1, a4, a5, a6, a7, a8, a9, a10, a11⟩ := A.pen
    exact ⟨ns, t, r, eN _ _ a1 nofun, eN _ _ a4 nofun, a5, a6, a7, a8, a9, a10, by rw [A.ks.2]; exact T1⟩
  have B1 : Wd cs u n H1 := A.toWd.same x1 pen1 fun i b o _ t e => eN b o e t.1
  have A1 : At cs u n H1 σ Γ := A.step x1 B1
  have nc : ¬ u.F c' := fun fF => by
    obtain ⟨o, e, pl⟩ := B1.dom c' fF
    rw [hco] at e; cases e
    exact pl.2 _ rfl
  have rf : Rep u H1 (.fn f c' (X.env.qual ++ "<lambda>") (capV Γ σ) (capD Γ)) (.ref f) := ⟨rfl, nc, hco, cap_rep A1.lenS A1.sl⟩
  have rc : codeAny (model X.prog X.w) X.A (.call (.ref g) ⟨[.ref f], []⟩) (CR (L2.CX X.prog X.w) X.stack X.prog X.w H1 s' Q (fun cls d H' => W cls d σ H')) s' := by
    obtain ⟨oc, od, kV, doc, pm, an, cdv, ct, osl, rfl, lk, hcdv⟩ := F.ex
    refine LamX.run_ofS (N := Ng) (ps := [a]) (us := [.ref f]) (vs := [.ref f]) lk hcdv Sg (k := j - 1) (by have := hr.room; rwa [show j - 1 + 1 = j from by omega]) I1.env0 (hb s' [.ref f] I1.kIn rfl) (.cons rfl .nil) rfl fun hr' => ?_
    have hrg : RoomG (j - 1) (X.A.deeper (envOfC x (defScope st) s'.heap.objs.size g cdv)) := ⟨hr', hr.gd⟩
    obtain ⟨c0, t, hc0, hp, ht⟩ := hG cdv X.A X.stack s' H1 (fun cls d H' => W cls d σ H') (tb Γ) (.fn f c' (X.env.qual ++ "<lambda>") (capV Γ σ) (capD Γ)) (hrg.mono (by omega))
      (fun W' pn xe tk' p1 p2 => act_px (k := kL) I1 L hf hfn hfr (hbind _ _ _ _ _) tk' (hrg.mono (by omega)) (fun A outer s H E hr2 => hbody A outer s H E f c' hr2) A1 hN hv hd hcd)
    refine ⟨_, twss_pss _ _, ?_⟩
    have hst : At cs u n H1 (L2.start Ng [.ref f]) (G0 Ng [.fn f c' (X.env.qual ++ "<lambda>") (capV Γ σ) (capD Γ)]) := at_start B1 (RepL.cons rf RepL.nil) (List.getElem?_eq_some_iff.mp hN).1
    exact hp.run u n H1 _ _ _ _ hst (by omega) (ht u.M post xp q) ⟨fun Γ2 σ2 u2 H2 e2 B2 q2 => kn .non .non u2 H2 (x1.trans A.toWd e2) (B2.toWd.up (by omega)) rfl q2, fun v d u2 H2 e2 B2 r2 q2 => kn v d u2 H2 (x1.trans A.toWd e2) (B2.up (by omega)) r2 q2, fun _ _ _ _ _ _ q => q.elim, fun _ _ _ _ _ _ q => q.elim,
      fun cls od c fs Γ2 σ2 u2 H2 e2 B2 r2 q2 => kx cls od c fs u2 H2 (x1.trans A.toWd e2) (B2.toWd.up (by omega)) r2 q2⟩
  refine wpAny_call (codeAny_mono rc fun r s2 hq => ?_)
  cases r with
  | error e => exact takes_call tk I1 hq
  | ok fl =>
    cases fl with
    | ret u => exact I1.after hq
    | next => exact False.elim hq
    | brk => exact False.elim hq
    | cont => exact False.elim hq⟩
end
/-- a def that makes lambdas: its code object is named -/
structure FunL (K : PySem.W.Frag) (x qual : Str) (st : Stmt) (f : Addr) (fd : FuncData) (cc : Addr) : Prop where
  ex : ∃ (oc : Value) (od : Option Addr) (kV doc pm : Value) (an : Option Addr) (ct : Value) (osl : Array (Option Value)),
    fd = PySem.W.fnOf x qual (defArgs st) (defBody st) (defScope st) .none kV doc pm an (.ref cc) ct ∧ K.lookup f = some ⟨oc, od, .func fd, osl⟩ ∧ PySem.W.codeIn K (.ref cc) qual = true
  kp : PySem.W.keepIn K (.ref f) = true
section
variable {P : Program} {w : World} {K : PySem.W.Frag} {mg : Str → Option Value} {base : Heap} {cs : CS}
theorem FunL.fn {x qual : Str} {st : Stmt} {f : Addr} {fd : FuncData} {cc : Addr} (F : FunL K x qual st f fd cc) : Fun K x qual st f fd := by
  obtain ⟨oc, od, kV, doc, pm, an, ct, osl, e, lk, hc⟩ := F.ex
  exact ⟨⟨oc, od, kV, doc, pm, an, .ref cc, ct, osl, e, lk, hc⟩, F.kp⟩
theorem fn_ofL {x qual : Str} {st : Stmt} {f cc : Addr} {fd : FuncData} {N ps : List Str} {k ar c c0 : Nat} {S : SpX} {t : TfS} (F : FunL K x qual st f fd cc) (sc : FnScope N ps (defScope st)) (har : ps.length = ar) (hle : ar ≤ N.length)
    (hb : ∀ (A : Around) (outer : List Env) (s : Shared) (H : Hp) (E : XK), RoomG k (A.deeper (envOfC qual (defScope st) s.heap.objs.size f (.ref cc))) → PSU cs (CxB P w K mg base N qual st f (.ref cc) A outer s H E) (WE E) c0 (defBody st) t) (hc : c0 ≤ c)
    (hS : ∀ (ds : List D) (M : Store) (post : DP) (xp : XP), ds.length = ar → S ds M post xp → t (G0 N ds) M { nx := fun _ M' => post .non M', rt := post, xx := fun _ => xp }) : FnG P w K mg base (L2.CX P w) (k + 1) f fd ps (spN cs ar c S) := by
  obtain ⟨oc, od, kV, doc, pm, an, ct, osl, rfl, lk, hcd⟩ := F.ex
  refine ⟨fun vs H Q E ⟨u, n, ds, post, xp, A, hn, r, hl, hS, kn, ke⟩ => by rw [r.length, hl, har], fun A outer s H args us vs Q E hr e0 hb' r hsp => LamX.run_ofS lk hcd sc hr.room e0 hb' r (by obtain ⟨u, n, ds, post, xp, A, hn, r, hl, hS, kn, ke⟩ := hsp; rw [r.length, hl, har]) fun hr' => ?_⟩
  obtain ⟨u, n, ds, post, xp, A0, hn, r0, hl, hS', kn, ke⟩ := hsp
  refine ⟨_, twss_pss _ _, ?_⟩
  exact (hb A outer s H E ⟨hr', hr.gd⟩).run u n H _ _ _ _ (at_start A0 r0 (by omega)) (by omega) (hS ds u.M post xp hl hS') ⟨fun Γ σ u' H' e B q => kn .non .non u' H' e (B.toWd.up (by omega)) rfl q, fun v d u' H' e B r q => kn v d u' H' e (B.up (by omega)) r q, fun _ _ _ _ _ _ q => q.elim, fun _ _ _ _ _ _ q => q.elim, fun cls od c fs Γ σ u' H' e B r q => ke cls od c fs u' H' e (B.toWd.up (by omega)) r q⟩
end
end Ev
-- EvQ
namespace Ev
open PySem PySem.Spec PyProof.Rows L2
/-! ### the pen -/
/-- the rest of a great cell -/
def Rst (r : Int) : Prop := 0 ≤ r ∧ r.natAbs < 2 ^ BB
/-- a cell -/
def Cel (r : Int) : Prop := r.natAbs < 2 ^ (BB - 3)
section
variable {cs : CS} {X : Cx} {W : WX} {c c1 c2 c3 : Nat} {a b e : Expr} {pos : Pos}
theorem pen_at {u : U} {n : Nat} {H : Hp} {σ : L2.St} {Γ : Gm} {i : Nat} (A : At cs u n H σ Γ) (g : Γ[i]? = some (some .pen)) : σ[i]? = some (some (.ref u.p)) := by
  obtain ⟨v, h1, h2⟩ := A.sl i _ g
  rw [h1, show v = .ref u.p from h2]
def tPen0 (i : Nat) : TfE := fun Γ M post _ => Γ[i]? = some (some .pen) ∧ ∀ ns : List Int, ns.length ≤ 63 → (∀ k ∈ ns, Cel k) → post (.lst (ns.map D.int)) M
def tPen2 (i : Nat) : TfE := fun Γ M post _ => Γ[i]? = some (some .pen) ∧ ∀ r : Int, Rst r → post (.int r) M
def tPenS (i : Nat) (te : TfE) : TfS := fun Γ M O => te Γ M (fun d M' => Γ[i]? = some (some .pen) ∧ ∃ r, d = .int r ∧ Rst r ∧ O.nx Γ M') (O.xx Γ)
def tPen1 (i l : Nat) (tr : TfS) : TfS := fun Γ M O => Γ[i]? = some (some .pen) ∧ l < Γ.length ∧ ∀ t : Int, 0 ≤ t → t ≤ 2 ^ 4000 → tr (Γ.set l (some (.int t))) M O
theorem px_pen0 (i : Nat) {x : Str} {p1 p2 : Pos} {j} (hN : X.N[i]? = some x := by rfl) (hv : Vis X.env.scope x := by first | exact Or.inl rfl | exact Or.inr (Or.inl rfl) | exact Or.inr (Or.inr rfl))
    (hd : (x == ("__debug__" : Str)) = false := by decide) (hcd : (x == ("__classdict__" : Str)) = false := by decide) (hs : PlainIx (.Constant (.int 0) j p2) := by exact fun _ _ => rfl) : PX cs X W 0 (.Subscript (.Name x p1) (.Constant (.int 0) j p2) pos) (tPen0 i) := ⟨fun u n H σ Γ post xp Q A hn ⟨g, h⟩ kn kx => by
  obtain ⟨ns, t, r, h1, h2, h3, h4, h5, h6, h7, h8, h9⟩ := A.pen
  refine tw_of (pe_ix ix_list (pe_var hN hv hd hcd) pe_int hs) ⟨_, pen_at A g, u.p, _, 0, .ref u.k.cl, rfl, rfl, SqL.of h1, rfl, ?_⟩
  exact kn.here (d := .lst (ns.map D.int)) A.toWd ⟨u.k.cl, _, rfl, A.cF, h2, RepL.ofInts⟩ (h ns h3 h8)⟩
theorem px_pen2 (i : Nat) {x : Str} {p1 p2 : Pos} {j} (hN : X.N[i]? = some x := by rfl) (hv : Vis X.env.scope x := by first | exact Or.inl rfl | exact Or.inr (Or.inl rfl) | exact Or.inr (Or.inr rfl))
    (hd : (x == ("__debug__" : Str)) = false := by decide) (hcd : (x == ("__classdict__" : Str)) = false := by decide) (hs : PlainIx (.Constant (.int 2) j p2) := by exact fun _ _ => rfl) : PX cs X W 0 (.Subscript (.Name x p1) (.Constant (.int 2) j p2) pos) (tPen2 i) := ⟨fun u n H σ Γ post xp Q A hn ⟨g, h⟩ kn kx => by
  obtain ⟨ns, t, r, h1, h2, h3, h4, h5, h6, h7, h8, h9⟩ := A.pen
  refine tw_of (pe_ix ix_list (pe_var hN hv hd hcd) pe_int hs) ⟨_, pen_at A g, u.p, _, 2, .int r, rfl, rfl, SqL.of h1, rfl, ?_⟩
  exact kn.here (d := .int r) A.toWd rfl (h r ⟨h6, h7⟩)⟩
/-- the pen is written -/
theorem pen_wr {u : U} {n m : Nat} {H : Hp} {vs ws : List V} (A : Wd cs u n H) (h : H u.p = some (.lst vs)) (hp : Pen u m (upd H u.p (.lst ws))) : Nx u H u (upd H u.p (.lst ws)) ∧ Wd cs u m (upd H u.p (.lst ws)) := by
  have x : Nx u H u (upd H u.p (.lst ws)) := ⟨rfl, rfl, fun _ h => h, fun _ h => .inl h, fun _ _ h => h, fun _ h => h, (fun i a h hi => by rw [List.getElem?_eq_none hi] at h; cases h), fun a o f _ e => by rw [upd_ne (fun z => f (by rw [z]; exact u.pL))]; exact e, fun a o e => by
    by_cases hb : a = u.p
    · exact ⟨_, by rw [hb]; exact upd_same⟩
    · exact ⟨o, by rw [upd_ne hb]; exact e⟩⟩
  exact ⟨x, A.same x hp fun i a o hm _ e => by rw [upd_ne (fun z => A.np i (by rw [← z]; exact hm))]; exact e⟩
theorem st_pen2 (i : Nat) {x : Str} {p1 p2 p3 : Pos} {j} {te : TfE} (h : PX cs X W c e te) (hN : X.N[i]? = some x := by rfl) (hv : Vis X.env.scope x := by first | exact Or.inl rfl | exact Or.inr (Or.inl rfl) | exact Or.inr (Or.inr rfl))
    (hd : (x == ("__debug__" : Str)) = false := by decide) (hcd : (x == ("__classdict__" : Str)) = false := by decide)
    (ha : ∀ v, assign (.Subscript (.Name x p1) (.Constant (.int 2) j p2) p3) X.env v = (do let ov ← holding [v] (eval (.Name x p1) X.env); let iv ← holding [v, ov] (eval (.Constant (.int 2) j p2) X.env); standAt p3; holding [v, ov, iv] (setItem ov iv v); release [v, ov, iv] []) := by intro _; rfl)
    (hs : swapsWithSole [.Subscript (.Name x p1) (.Constant (.int 2) j p2) p3] e pos.line X.env = pure false := by rfl) (hw : swappedStores [.Subscript (.Name x p1) (.Constant (.int 2) j p2) p3] e X.env = pure none := by rfl)
    (h1 : (assignEach [.Subscript (.Name x p1) (.Constant (.int 2) j p2) p3] X.env).map (·.2) = [assign (.Subscript (.Name x p1) (.Constant (.int 2) j p2) p3) X.env] := by rfl) :
    PST cs X W c (.Assign [.Subscript (.Name x p1) (.Constant (.int 2) j p2) p3] e pos) (tPenS i te) := ⟨fun u n H σ Γ O E A hn q k => by
  refine tws_of (ps_asg (tw_pe X e) (pg_sub (pe_var hN hv hd hcd) pe_int set_list ha) hs hw h1) ?_
  refine h.run u n H σ Γ _ _ _ A hn q (fun v d u1 H1 e1 B1 r1 ⟨g, r, ed, hr, q1⟩ => ?_) (k.kx A (Nat.le_refl _))
  subst ed
  have A1 := A.step e1 B1
  obtain ⟨ns, t, r0, h1, h2, h3, h4, h5, h6, h7, h8, h9⟩ := B1.pen
  have hp1 := pen_at A1 g
  refine ⟨.ref u1.p, hp1, u1.p, [.ref u1.k.cl, .int t, .int r0], 2, 2, rfl, rfl, h1, rfl, ?_⟩
  have pn : Pen u1 (n + c) (upd H1 u1.p (.lst ([.ref u1.k.cl, .int t, .int r0].set 2 v))) := by
    refine ⟨ns, t, r, ?_, ?_, h3, h4, h5, hr.1, hr.2, h8, tabs_upd h9 h1 Pl.lst⟩
    · rw [show v = .int r from r1]; exact upd_same
    · rw [upd_ne]
      · exact h2
      · intro z
        exact B1.cF (by rw [z]; exact u1.pF)
  obtain ⟨x2, B2⟩ := pen_wr B1 h1 pn
  have e12 := e1.trans A.toWd x2
  exact k.nx Γ σ u1 _ e12 (A.step e12 B2) q1⟩
/-- at = pen[1]; pen[1] = at + 1; .. -/
theorem su_pen1 (i l : Nat) {x y : Str} {p1 p2 p3 p4 p5 p6 p7 p8 p9 q1 q2 q3 : Pos} {j j2 j3} {rest : List Stmt} {tr : TfS} (hil : i ≠ l) (hN : X.N.Nodup) (h : PSU cs X W c rest tr) (hi : X.N[i]? = some x := by rfl) (hl : X.N[l]? = some y := by rfl)
    (hv : Vis X.env.scope x := by first | exact Or.inl rfl | exact Or.inr (Or.inl rfl) | exact Or.inr (Or.inr rfl)) (hvy : X.env.scope.names.lookup y = some .local := by rfl) (hd : (x == ("__debug__" : Str)) = false := by decide) (hcd : (x == ("__classdict__" : Str)) = false := by decide) (hdy : (y == ("__debug__" : Str)) = false := by decide) (hcdy : (y == ("__classdict__" : Str)) = false := by decide)
    (hs1 : swapsWith (.Subscript (.Name x p1) (.Constant (.int 1) j p2) p3) (some (.Name y p4)) p5.line X.env = pure false := by rfl) (hix : PlainIx (.Constant (.int 1) j p2) := by exact fun _ _ => rfl)
    (ha : ∀ v, assign (.Subscript (.Name x p6) (.Constant (.int 1) j2 p7) p8) X.env v = (do let ov ← holding [v] (eval (.Name x p6) X.env); let iv ← holding [v, ov] (eval (.Constant (.int 1) j2 p7) X.env); standAt p8; holding [v, ov, iv] (setItem ov iv v); release [v, ov, iv] []) := by intro _; rfl)
    (hs : swapsWithSole [.Subscript (.Name x p6) (.Constant (.int 1) j2 p7) p8] (.BinOp (.Name y q1) .Add (.Constant (.int 1) j3 q2) q3) p9.line X.env = pure false := by rfl) (hw : swappedStores [.Subscript (.Name x p6) (.Constant (.int 1) j2 p7) p8] (.BinOp (.Name y q1) .Add (.Constant (.int 1) j3 q2) q3) X.env = pure none := by rfl)
    (h1 : (assignEach [.Subscript (.Name x p6) (.Constant (.int 1) j2 p7) p8] X.env).map (·.2) = [assign (.Subscript (.Name x p6) (.Constant (.int 1) j2 p7) p8) X.env] := by rfl) :
    PSU cs X W (c + 1) (.Assign [.Name y p4] (.Subscript (.Name x p1) (.Constant (.int 1) j p2) p3) p5 :: .Assign [.Subscript (.Name x p6) (.Constant (.int 1) j2 p7) p8] (.BinOp (.Name y q1) .Add (.Constant (.int 1) j3 q2) q3) p9 :: rest) (tPen1 i l tr) := ⟨fun u n H σ Γ O E A hn ⟨g, hll, q⟩ k => by
  refine twss_of (pss_cons (ps_set hN hl (.inl hvy) (pe_ix ix_list (pe_var hi hv hd hcd) pe_int hix) hs1 (.inr hvy)) (pss_cons (ps_asg (pe_op op_add (pe_var hl (.inl hvy) hdy hcdy) pe_int) (pg_sub (pe_var hi hv hd hcd) pe_int set_list ha) hs hw h1) (twss_pss X rest))) ?_
  obtain ⟨ns, t, r0, a1, a2, a3, a4, a5, a6, a7, a8, a9⟩ := A.pen
  have gp := pen_at A g
  refine ⟨.ref u.p, gp, u.p, [.ref u.k.cl, .int t, .int r0], 1, .int t, rfl, rfl, SqL.of a1, rfl, ?_⟩
  have hll : l < σ.length := by rw [A.lenS]; exact hll
  refine ⟨.int t, by rw [List.getElem?_set_self hll], t, 1, rfl, rfl, .ref u.p, by rw [List.getElem?_set_ne (Ne.symm hil)]; exact gp, u.p, [.ref u.k.cl, .int t, .int r0], 1, 1, rfl, rfl, a1, rfl, ?_⟩
  have ht : t ≤ 2 ^ 4000 := by
    have hl : n ≤ lim := by omega
    have : ((lim : Nat) : Int) = 2 ^ 4000 := by unfold lim; exact Int.natCast_pow 2 4000
    omega
  have pn : Pen u (n + 1) (upd H u.p (.lst [.ref u.k.cl, .int (t + 1), .int r0])) := by
    refine ⟨ns, t + 1, r0, upd_same, ?_, a3, by omega, by omega, a6, a7, a8, tabs_upd a9 a1 Pl.lst⟩
    rw [upd_ne]
    · exact a2
    · intro z
      exact A.cF (by rw [z]; exact u.pF)
  obtain ⟨x2, B2⟩ := pen_wr A.toWd a1 pn
  exact h.run u (n + 1) _ _ _ O E ((A.step x2 B2).set (d := .int t) (v := .int t) rfl) (by omega) (q t a4 ht) (k.go A.toWd x2 (by omega))⟩
end
end Ev
-- EvR
namespace PySem.W
open PySem PySem.Spec PyProof.Rows
section
variable {prog : Program} {w : World} {A : Around} {E : Value → Shared → Prop} {s : Shared} {K : Frag} {x y C L f : Addr} {h₀ : Heap} {m : Str → Option Value} {ox oy : Obj} {od oe : Option Obj} {nm T : String}
/-- x op y, both of one own class -/
theorem ev_bin_same {op : Operator} {Q : Value → Shared → Prop} (F : Fr h₀ L s.heap m) (X₀ : K.In h₀) (I : InstAt s.heap x ox C od) (J : InstAt s.heap y oy C oe) (hc : selfFirst K C = true)
    (hs : findIn K (.ref C) (PySem.dunder op.info.2) = some (some (.ref f))) (hf : isFn K (.ref f) = true)
    (h : wpAny (model prog w) A (call (.ref f) [.ref x, .ref y]) (CmpBack Q) E s) : wpAny (model prog w) A (binaryOp op (.ref x) (.ref y)) Q E s := by
  have X := X₀.keeps F.keep
  obtain ⟨cd, rest, hcd, hm⟩ := ksp_first hc
  rcases hi : op.info with ⟨sym, nm'⟩
  rw [hi] at hs
  dsimp only at hs
  have one := ksp_try X I hs hf h
  obtain ⟨hh, g, d, tt, os⟩ := s
  have L1 : Looks (model prog w) hh (typeOf (.ref x)) (.ref C) := I.type
  have L2 : Looks (model prog w) hh (typeOf (.ref y)) (.ref C) := J.type
  have L3 : Looks (model prog w) hh (fillsNumberSlot (.ref C) nm') true := fills_K X hcd hm hs
  simp only [binaryOp, hi]
  refine wpAny_holding (wpAny_bind ?_)
  unfold binaryOp1
  refine wpAny_bind (L1.at (wpAny_bind (L2.at (wpAny_bind (L3.at ?_)))))
  simp only [beq_self_eq_true, if_true]
  ksp_lk
  refine wpAny_mono one (fun r s' hr' => ?_) fun _ _ e => e
  obtain ⟨v, rfl, hq⟩ := hr'
  ksp_lk
  exact hq
end
end PySem.W
namespace Ev
open PySem PySem.Spec PyProof.Rows L2 ClX
section
variable {cs : CS} {X : Cx} {W : WX} {c c1 c2 c3 : Nat} {a b e : Expr} {pos : Pos} {k j ar nc : Nat}
theorem rep_nn {u : U} {n : Nat} {H : Hp} {d : D} {v : V} {x : Value} (A : Wd cs u n H) (hcs : ∀ v ∈ cs.cls, ∀ x, RelV v x → x ≠ .notImplemented) (r : Rep u H d v) (rv : RelV v x) : x ≠ .notImplemented := by
  intro z
  subst z
  cases d with
  | non => rw [show v = .non from r] at rv; cases rv
  | bl b => rw [show v = .bl b from r] at rv; cases rv
  | int i => rw [show v = .int i from r] at rv; obtain ⟨t, h⟩ := rv; cases h
  | str i => rw [show v = .str i from r] at rv; obtain ⟨t, h⟩ := rv; cases h
  | pen => rw [show v = .ref u.p from r] at rv; cases rv
  | ref a => rw [show v = .ref a from r] at rv; cases rv
  | ty n => rw [show v = .ty n.nm from r] at rv; cases rv
  | cls c =>
    obtain ⟨h, _⟩ : u.k.cls[c]? = some v ∧ v ≠ .non := r
    rw [A.ks.1] at h
    exact hcs v (List.mem_of_getElem? h) _ rv rfl
  | tup ds => obtain ⟨a, vs, e, _⟩ := r.tupE; rw [e] at rv; cases rv
  | lst ds => obtain ⟨a, vs, e, _⟩ := r.lstE; rw [e] at rv; cases rv
  | dic ds => obtain ⟨a, vs, e, _⟩ := r.dicE; rw [e] at rv; cases rv
  | obj a' c' ds => obtain ⟨C, dx, vs, e, _⟩ := r.objE; rw [e] at rv; cases rv
  | exc a' c' ds => obtain ⟨C, od, vs, e, _⟩ := r.excE; rw [e] at rv; cases rv
  | loc i => obtain ⟨a, e, _⟩ := r.locE; rw [e] at rv; cases rv
  | fn f c q vs ds => obtain ⟨e, _⟩ := r.fnE; rw [e] at rv; cases rv
theorem cmpBack_ok {v : Value} {s : Shared} {Q : Value → Shared → Prop} (hv : v ≠ .notImplemented) (q : Q v s) : PySem.W.CmpBack Q v s := by
  cases v <;> first | exact q | exact absurd rfl hv
/-- no class is NotImplemented -/
abbrev NoNI (cs : CS) : Prop := ∀ v ∈ cs.cls, ∀ x, RelV v x → x ≠ .notImplemented
/-- a method of an own class, run from an operation -/
theorem run_op {u : U} {n : Nat} {H : Hp} {ds : List D} {vs : List V} {us : List Value} {Q : VK} {S : SpX} {σ : L2.St} {post : DP} {xp : XP} {pins : List (Addr × Obj)} {s : Shared} {f : Addr} {fd : FuncData} {ps : List Str} (ni : NoNI cs) (F : FnG X.prog X.w X.K X.mg X.base (L2.CX X.prog X.w) k f fd ps (spN cs ar c S)) (hb : Binds X.K fd ps []) (hr : RoomG k X.A) (tk : Takes X W)
    (A : Wd cs u n H) (hn : n + c ≤ lim) (I : Inv X pins σ H s) (r : RepL u H ds vs) (rv : Vals vs us) (hl : ds.length = ar) (hS : S ds u.M post xp) (kn : KN cs u (n + c) H post Q) (kx : KX cs u (n + c) H σ xp W) :
    wpAny (model X.prog X.w) X.A (call (.ref f) us) (PySem.W.CmpBack (EP X pins σ Q)) X.xe s := by
  have q : spN cs ar c S vs H (fun v H' => (∀ x, RelV v x → x ≠ .notImplemented) ∧ Q v H') (fun cls d H' => W cls d σ H') := ⟨u, n, ds, post, xp, A, hn, r, hl, hS, fun v d u' H' e B r' q => ⟨fun x rx => rep_nn B ni r' rx, kn v d u' H' e B r' q⟩, fun cls od c fs u' H' e B r q => kx cls od c fs u' H' e B r q⟩
  have hlen : us.length = ps.length := by rw [← rv.length]; exact F.len _ _ _ _ q
  refine wpAny_mono (run_g F hr (fun e s' z => takes_call tk I z) I rv ?_ q) (fun v s' ⟨v', H', I', rv', hnn, q'⟩ => cmpBack_ok (hnn v rv') ⟨v', H', I', rv', q'⟩) fun _ _ z => z
  simpa using hb s us I.kIn (by simpa using hlen)
/-- .. its value as it is -/
theorem run_ev {u : U} {n : Nat} {H : Hp} {ds : List D} {vs : List V} {us : List Value} {Q : VK} {S : SpX} {σ : L2.St} {post : DP} {xp : XP} {pins : List (Addr × Obj)} {s : Shared} {f : Addr} {fd : FuncData} {ps : List Str} (F : FnG X.prog X.w X.K X.mg X.base (L2.CX X.prog X.w) k f fd ps (spN cs ar c S)) (hb : Binds X.K fd ps []) (hr : RoomG k X.A) (tk : Takes X W)
    (A : Wd cs u n H) (hn : n + c ≤ lim) (I : Inv X pins σ H s) (r : RepL u H ds vs) (rv : Vals vs us) (hl : ds.length = ar) (hS : S ds u.M post xp) (kn : KN cs u (n + c) H post Q) (kx : KX cs u (n + c) H σ xp W) :
    wpAny (model X.prog X.w) X.A (call (.ref f) us) (EP X pins σ Q) X.xe s := by
  have q : spN cs ar c S vs H Q (fun cls d H' => W cls d σ H') := ⟨u, n, ds, post, xp, A, hn, r, hl, hS, fun v d u' H' e B r' q => kn v d u' H' e B r' q, fun cls od c fs u' H' e B r q => kx cls od c fs u' H' e B r q⟩
  have hlen : us.length = ps.length := by rw [← rv.length]; exact F.len _ _ _ _ q
  refine run_g F hr (fun e s' z => takes_call tk I z) I rv ?_ q
  simpa using hb s us I.kIn (by simpa using hlen)
/-- an instance's state -/
theorem ins_st {u : U} {n : Nat} {H : Hp} {d : D} {fs : List (Str × D)} {x : V} {pins : List (Addr × Obj)} {σ : L2.St} {s : Shared} {v : Value} (A : Wd cs u n H) (I : Inv X pins σ H s) (hi : insOf u.M d = some (nc, fs)) (rx : Rep u H d x) (rv : RelV x v) :
    ∃ (a C : Addr) (ox od : Obj) (m : Str → Option Value), x = .ref a ∧ v = .ref a ∧ cs.cls[nc]? = some (.ref C) ∧ PySem.W.InstAt s.heap a ox C (some od) ∧ Fr X.base X.env.locals s.heap m := by
  obtain ⟨a', C, dx, us0, ev, hC, g, rf⟩ := ins_rep A hi rx
  subst ev
  obtain rfl : v = Value.ref a' := rv
  obtain ⟨mA, J, _⟩ := ins_get I.hok g
  obtain ⟨od, J, _⟩ := J.look
  obtain ⟨m, hF⟩ := I.fr
  exact ⟨a', C, _, od, m, rfl, rfl, hC, J, hF⟩
/-- the type of what never changes -/
def scT : D → Option Bt
  | .non => some .none | .bl _ => some .bool | .int _ => some .int | .str _ => some .str
  | _ => none
theorem scT_ty {u : U} {H : Hp} {d : D} {T : Bt} {y : V} {w : Value} (h : scT d = some T) (ry : Rep u H d y) (rw' : RelV y w) : typeOf w = pure (.type T.nm) := by
  cases d with
  | non => rw [show y = .non from ry] at rw'; obtain rfl : w = .none := rw'; cases h; rfl
  | bl b => rw [show y = .bl b from ry] at rw'; obtain rfl : w = .bool b := rw'; cases h; rfl
  | int i => rw [show y = .int i from ry] at rw'; obtain ⟨t, rfl⟩ := rw'; cases h; rfl
  | str i => rw [show y = .str i from ry] at rw'; obtain ⟨t, rfl⟩ := rw'; cases h; rfl
  | _ => cases h
/-- an own class's operator beside scalars -/
structure OpF (K : PySem.W.Frag) (cs : CS) (nc : Nat) (op : Operator) (Ts : List Bt) : Prop where
  at_ : ∀ C, cs.cls[nc]? = some (.ref C) → PySem.W.selfFirst K C = true ∧ (match PySem.W.findIn K (.ref C) (dunderR op.info.2) with | some none => true | some (some (.ref _)) => true | _ => false) = true ∧
    ∀ T ∈ Ts, (PySem.W.findIn K (.type T.nm) (PySem.dunder op.info.2)).isSome = true ∧ (PySem.W.findIn K (.type T.nm) (dunderR op.info.2)).isSome = true ∧ PySem.W.subIn K (.type T.nm) (.ref C) = some false
theorem rv_of {K : PySem.W.Frag} {C : Addr} {nm : String} (h : (match PySem.W.findIn K (.ref C) (dunderR nm) with | some none => true | some (some (.ref _)) => true | _ => false) = true) : ∃ rc, PySem.W.findIn K (.ref C) (dunderR nm) = some rc ∧ (rc = none ∨ ∃ g : Addr, rc = some (.ref g)) := by
  cases e : PySem.W.findIn K (.ref C) (dunderR nm) with
  | none => rw [e] at h; cases h
  | some o =>
    cases o with
    | none => exact ⟨_, rfl, .inl rfl⟩
    | some v => rw [e] at h; cases v <;> first | cases h; done | exact ⟨_, rfl, .inr ⟨_, rfl⟩⟩
def tOwn (nc : Nat) (Ts : List Bt) (S : SpX) : Tf2 := fun d1 d2 M post xp => ∃ fs T, insOf M d1 = some (nc, fs) ∧ scT d2 = some T ∧ T ∈ Ts ∧ S [d1, d2] M post xp
def tOwnS (nc : Nat) (S : SpX) : Tf2 := fun d1 d2 M post xp => ∃ fs gs, insOf M d1 = some (nc, fs) ∧ insOf M d2 = some (nc, gs) ∧ S [d1, d2] M post xp
theorem po_own {op : Operator} {Ts : List Bt} {S : SpX} (ni : NoNI cs) (O : OpF X.K cs nc op Ts) (F : MtD X.prog X.w X.K X.mg X.base cs k nc (PySem.dunder op.info.2) 2 c S) (hr : RoomG j X.A) (tk : Takes X W) (hk : k ≤ j := by decide) : PO2 cs X W c (binaryOp op) (tOwn nc Ts S) := ⟨fun u n H σ d1 d2 x y post xp Q A hn rx ry ⟨fs, T, hi, hT, hm, hS⟩ kn kx => TO.mk fun pins s v w I rv rw' => by
  obtain ⟨C, f, fd, ps, hC, cl, hme, F, hb⟩ := F.ex
  obtain ⟨h1, h2, h3⟩ := O.at_ C hC
  obtain ⟨t1, t2, t3⟩ := h3 T hm
  obtain ⟨a', C', ox, od, m, ex, ev, hC', J, hF⟩ := ins_st A I hi rx rv
  rw [hC] at hC'; cases hC'
  obtain ⟨rc, r1, r2⟩ := rv_of h2
  obtain ⟨fo, h4⟩ := Option.isSome_iff_exists.mp t1
  obtain ⟨ro, h5⟩ := Option.isSome_iff_exists.mp t2
  have hty := scT_ty hT ry rw'
  rw [ev]
  rw [ev] at rv
  exact PySem.W.ksp_binT hF I.ok.mod.kin J hty h1 hme.at_ hme.fn r1 r2 h4 h5 t3 (run_op ni F hb (hr.mono hk) tk A hn I (RepL.cons rx (RepL.cons ry RepL.nil)) (.cons rv (.cons rw' .nil)) rfl hS kn kx)⟩
theorem po_ownS {op : Operator} {Ts : List Bt} {S : SpX} (ni : NoNI cs) (O : OpF X.K cs nc op Ts) (F : MtD X.prog X.w X.K X.mg X.base cs k nc (PySem.dunder op.info.2) 2 c S) (hr : RoomG j X.A) (tk : Takes X W) (hk : k ≤ j := by decide) : PO2 cs X W c (binaryOp op) (tOwnS nc S) := ⟨fun u n H σ d1 d2 x y post xp Q A hn rx ry ⟨fs, gs, hi, hi2, hS⟩ kn kx => TO.mk fun pins s v w I rv rw' => by
  obtain ⟨C, f, fd, ps, hC, cl, hme, F, hb⟩ := F.ex
  obtain ⟨h1, h2, h3⟩ := O.at_ C hC
  obtain ⟨a', C', ox, od, m, ex, ev, hC', J, hF⟩ := ins_st A I hi rx rv
  rw [hC] at hC'; cases hC'
  obtain ⟨b', C', oy, oe, m2, ey, ew, hC', J2, _⟩ := ins_st A I hi2 ry rw'
  rw [hC] at hC'; cases hC'
  rw [ev, ew]
  rw [ev] at rv
  rw [ew] at rw'
  exact PySem.W.ev_bin_same hF I.ok.mod.kin J J2 h1 hme.at_ hme.fn (run_op ni F hb (hr.mono hk) tk A hn I (RepL.cons rx (RepL.cons ry RepL.nil)) (.cons rv (.cons rw' .nil)) rfl hS kn kx)⟩
/-- own comparisons: beside which types the right one is not asked first -/
structure CpF (K : PySem.W.Frag) (cs : CS) (nc : Nat) (Ts : List Bt) (os : List Nat) : Prop where
  ty : ∀ C, cs.cls[nc]? = some (.ref C) → ∀ T ∈ Ts, PySem.W.notFirst K C (.type T.nm) = true
  ob : ∀ C, cs.cls[nc]? = some (.ref C) → ∀ o ∈ os, ∀ C', cs.cls[o]? = some (.ref C') → PySem.W.notFirst K C (.ref C') = true
theorem looks_ty {u : U} {n : Nat} {H : Hp} {d : D} {x : V} {kd : Kd} {pins : List (Addr × Obj)} {σ : L2.St} {s : Shared} {v : Value} (A : Wd cs u n H) (I : Inv X pins σ H s) (h : kdOf u.M d = some kd) (rx : Rep u H d x) (rv : RelV x v) (hd : kd ≠ .ty .dict) :
    ∃ t, PySem.W.Looks (model X.prog X.w) s.heap (typeOf v) t ∧ ((∃ T, kd = .ty T ∧ t = .type T.nm) ∨ ∃ c C, kd = .ob c ∧ cs.cls[c]? = some (.ref C) ∧ t = .ref C) := by
  have sc : ∀ T, scT d = some T → kd = .ty T → ∃ t, PySem.W.Looks (model X.prog X.w) s.heap (typeOf v) t ∧ ((∃ T, kd = .ty T ∧ t = .type T.nm) ∨ ∃ c C, kd = .ob c ∧ cs.cls[c]? = some (.ref C) ∧ t = .ref C) := fun T hT hk => ⟨_, PySem.W.Looks.of_pure (scT_ty hT rx rv), .inl ⟨T, hk, rfl⟩⟩
  have li : ∀ {a : Addr} {vs : List V}, x = .ref a → H a = some (.lst vs) → kd = .ty .list → ∃ t, PySem.W.Looks (model X.prog X.w) s.heap (typeOf v) t ∧ ((∃ T, kd = .ty T ∧ t = .type T.nm) ∨ ∃ c C, kd = .ob c ∧ cs.cls[c]? = some (.ref C) ∧ t = .ref C) := fun {a vs} ev g hk => by
    subst ev
    obtain rfl : v = Value.ref a := rv
    obtain ⟨its, r, p, hz⟩ := I.list (SqL.of g)
    obtain ⟨o, ho, hc, _⟩ := p.isList
    exact ⟨.type "list", fun A Q E s' kk q => wpAny_typeOf_ref (kk _ _ ho) (by rw [hc]; exact q), .inl ⟨.list, hk, rfl⟩⟩
  have ob : ∀ {c : Nat} {fs : List (Str × D)}, insOf u.M d = some (c, fs) → kd = .ob c → ∃ t, PySem.W.Looks (model X.prog X.w) s.heap (typeOf v) t ∧ ((∃ T, kd = .ty T ∧ t = .type T.nm) ∨ ∃ c C, kd = .ob c ∧ cs.cls[c]? = some (.ref C) ∧ t = .ref C) := fun {c fs} hi hk => by
    obtain ⟨a, C, ox, od, m, ex, ev, hC, J, _⟩ := ins_st A I hi rx rv
    exact ⟨.ref C, by rw [ev]; exact J.type, .inr ⟨c, C, hk, hC, rfl⟩⟩
  cases d with
  | non => exact sc .none rfl (by cases h; rfl)
  | bl b => exact sc .bool rfl (by cases h; rfl)
  | int i => exact sc .int rfl (by cases h; rfl)
  | str i => exact sc .str rfl (by cases h; rfl)
  | obj a' c' fs => exact ob rfl (by cases h; rfl)
  | tup ds =>
    cases h
    obtain ⟨a, vs, ev, f, g, rl⟩ := rx.tupE
    subst ev
    obtain rfl : v = Value.ref a := rv
    obtain ⟨its, r, p, hz⟩ := I.tuple (SqT.of g)
    obtain ⟨o, ho, hc, _⟩ := p
    exact ⟨.type "tuple", fun A Q E s' kk q => wpAny_typeOf_ref (kk _ _ ho) (by rw [hc]; exact q), .inl ⟨.tuple, rfl, rfl⟩⟩
  | lst ds => obtain ⟨a, vs, ev, f, g, rl⟩ := rx.lstE; exact li ev g (by cases h; rfl)
  | dic ds => cases h; exact absurd rfl hd
  | loc i =>
    obtain ⟨a, e, hm⟩ := rx.locE
    unfold kdOf at h
    dsimp only at h
    cases hc : u.M[i]? with
    | none => rw [hc] at h; cases h
    | some cl =>
      rw [hc] at h
      have ok := A.cell i a cl hm hc
      cases cl with
      | li ds => obtain ⟨vs, g, _⟩ := ok; exact li e g (by cases h; rfl)
      | di ds => cases h; exact absurd rfl hd
      | ins c' fs => exact ob (fs := fs) (by unfold insOf; dsimp only; rw [hc]) (by cases h; rfl)
      | dead => cases h
  | _ => cases h
def tOwnC (nc : Nat) (Ts : List Bt) (os : List Nat) (S : SpX) : Tf2 := fun d1 d2 M post xp => ∃ fs kd, insOf M d1 = some (nc, fs) ∧ kdOf M d2 = some kd ∧ (match kd with | .ty T => T ∈ Ts ∧ T ≠ .dict | .ob c => c ∈ os) ∧ S [d1, d2] M post xp
theorem po_ownCmp {op : CmpOp} {Ts : List Bt} {os : List Nat} {S : SpX} (ni : NoNI cs) (O : CpF X.K cs nc Ts os) (F : MtD X.prog X.w X.K X.mg X.base cs k nc (cmpInfo op).2.1 2 c S) (hr : RoomG j X.A) (tk : Takes X W) (hk : k ≤ j := by decide) (hop : ∀ a b, compareOp op a b = richCompare op a b := by intro _ _; rfl) : PO2 cs X W c (compareOp op) (tOwnC nc Ts os S) := ⟨fun u n H σ d1 d2 x y post xp Q A hn rx ry ⟨fs, kd, hi, hkd, hm, hS⟩ kn kx => TO.mk fun pins s v w I rv rw' => by
  obtain ⟨C, f, fd, ps, hC, cl, hme, F, hb⟩ := F.ex
  obtain ⟨t, L, ht⟩ := looks_ty A I hkd ry rw' (fun z => by subst z; exact hm.2 rfl)
  have hnf : PySem.W.notFirst X.K C t = true := by
    rcases ht with ⟨T, e1, e2⟩ | ⟨c', C', e1, e2, e3⟩
    · subst e1; subst e2; exact O.ty C hC T hm.1
    · subst e1; subst e3; exact O.ob C hC c' hm C' e2
  obtain ⟨a', C', ox, od, m, ex, ev, hC', J, hF⟩ := ins_st A I hi rx rv
  rw [hC] at hC'; cases hC'
  rw [hop, ev]
  rw [ev] at rv
  exact PySem.W.cmp_K (by have := hr.room.un; omega) hF I.ok.mod.kin J L hnf hme.at_ hme.fn (run_op ni F hb (hr.mono hk) tk A hn I (RepL.cons rx (RepL.cons ry RepL.nil)) (.cons rv (.cons rw' .nil)) rfl hS kn kx)⟩
def tOwn1 (nc : Nat) (S : SpX) : Tf1 := fun d M post xp => ∃ fs, insOf M d = some (nc, fs) ∧ S [d] M post xp
theorem po_ownNeg {S : SpX} (F : MtD X.prog X.w X.K X.mg X.base cs k nc "__neg__" 1 c S) (hr : RoomG j X.A) (tk : Takes X W) (hk : k ≤ j := by decide) : PO1 cs X W c (unaryOp .USub) (tOwn1 nc S) := ⟨fun u n H σ d x post xp Q A hn rx ⟨fs, hi, hS⟩ kn kx => TU.mk fun pins s v I rv => by
  obtain ⟨C, f, fd, ps, hC, cl, hme, F, hb⟩ := F.ex
  obtain ⟨a', C', ox, od, m, ex, ev, hC', J, hF⟩ := ins_st A I hi rx rv
  rw [hC] at hC'; cases hC'
  rw [ev]
  rw [ev] at rv
  exact PySem.W.ksp_neg hF I.ok.mod.kin J hme.at_ hme.fn (run_ev F hb (hr.mono hk) tk A hn I (RepL.cons rx RepL.nil) (.cons rv .nil) rfl hS kn kx)⟩
def tOwnB (nc : Nat) (S : SpX) : TfB := fun d M post xp => ∃ fs, insOf M d = some (nc, fs) ∧ S [d] M (fun r M' => ∃ b, r = .bl b ∧ post b M') xp
/-- a truth by an own __bool__ -/
theorem pob_own {S : SpX} (F : MtD X.prog X.w X.K X.mg X.base cs k nc "__bool__" 1 c S) (hr : RoomG j X.A) (tk : Takes X W) (hk : k ≤ j := by decide) : POB cs X W c (tOwnB nc S) := ⟨fun u n H σ d x post xp Q A hn rx ⟨fs, hi, hS⟩ kn kx => TB.mk fun pins s v I rv => by
  obtain ⟨C, f, fd, ps, hC, cl, hme, F, hb⟩ := F.ex
  obtain ⟨a', C', ox, od, m, ex, ev, hC', J, hF⟩ := ins_st A I hi rx rv
  rw [hC] at hC'; cases hC'
  rw [ev]
  rw [ev] at rv
  unfold truthy
  refine wpAny_bind (PySem.W.special_fn I.kIn J hme.at_ (beq_iff_eq.mp hme.fn) (thn (run_ev (Q := fun v H' => ∃ b, v = .bl b ∧ Q b H') F hb (hr.mono hk) tk A hn I (RepL.cons rx RepL.nil) (.cons rv .nil) rfl hS (fun v d u' H' e B r ⟨b, ed, hb⟩ => by subst ed; exact ⟨b, r, kn b u' H' e B hb⟩) kx) fun v s' h => ?_))
  obtain ⟨v', H', I', rv', b, eb, q⟩ := h
  subst eb
  obtain rfl : v = .bool b := rv'
  exact wpAny_pure ⟨H', I', q⟩⟩
end
end Ev
-- EvS
namespace PySem.W
open PySem PySem.Calls PyProof.Rows Builtin
section
variable {prog : Program} {w : World} {A : Around} {E : Value → Shared → Prop} {s : Shared} {K : Frag} {x C L f : Addr} {h₀ : Heap} {m : Str → Option Value} {ox : Obj} {od : Option Obj}
/-- abs(x) by an own __abs__ -/
theorem ev_abs {Q : Value → Shared → Prop} (F : Fr h₀ L s.heap m) (X₀ : K.In h₀) (I : InstAt s.heap x ox C od) (hs : findIn K (.ref C) "__abs__" = some (some (.ref f))) (hf : isFn K (.ref f) = true)
    (h : wpAny (model prog w) A.in1 (call (.ref f) [.ref x]) Q E s) : wpAny (model prog w) A (call (.builtin "abs") [.ref x]) Q E s := by
  refine Calls.call_function_entry kind_abs plain_abs entry_abs (args_abs _) ?_
  unfold Builtin.«abs»
  refine wpAny_bind (m := oneArg "abs" _) (wpAny_pure ?_)
  refine wpAny_bind (m := callSpecial? (.ref x) (Str.ofString "__abs__")) (special_fn (X₀.keeps F.keep) I hs (beq_iff_eq.mp hf) (wpAny_mono h (fun r s' hr => ?_) fun _ _ y => y))
  exact wpAny_pure ⟨_, rfl, hr⟩
/-- str(x) by an own __str__ -/
theorem ev_strOf {Q : Value → Shared → Prop} (hu : A.units < cLine) (X : K.In s.heap) (I : InstAt s.heap x ox C od) (hs : findIn K (.ref C) "__str__" = some (some (.ref f))) (hf : isFn K (.ref f) = true)
    (h : wpAny (model prog w) A (call (.ref f) [.ref x]) (StrBack Q) E s) : wpAny (model prog w) A (Str.strOf (.ref x)) Q E s := by
  unfold Str.strOf
  show wpAny _ _ (do cRoomFor "str" [.ref x]; _) _ _ _
  refine wpAny_bind (wpAny_cRoomFor hu ?_)
  refine wpAny_bind (m := callSpecial? (.ref x) (Str.ofString "__str__")) (special_fn X I hs (beq_iff_eq.mp hf) (wpAny_mono h (fun r s' hr => ?_) fun _ _ y => y))
  cases r <;> first | exact hr.elim | skip
  exact wpAny_pure hr
theorem ev_str {Q : Value → Shared → Prop} (hu : A.units + 2 < cLine) (X : K.In s.heap) (I : InstAt s.heap x ox C od) (hs : findIn K (.ref C) "__str__" = some (some (.ref f))) (hf : isFn K (.ref f) = true)
    (h : wpAny (model prog w) A.in1.in1 (call (.ref f) [.ref x]) (StrBack Q) E s) : wpAny (model prog w) A (call (.type "str") [.ref x]) Q E s := by
  refine callType_newIn F.called_str (by decide) (F.typeCall_str_1 _) (F.newCall_str_1 _) (fun obj => F.args_object_init_2 obj _) F.entry_str_new
    (S := fun A' R s' => wpAny (model prog w) A'.in1 (Str.strOf (.ref x)) (fun r s' => R (.ok (.ret r)) s') (fun e s' => R (.error e) s') s') ?_ ?_
  · refine MeetsIn.of_wp fun A R s h => ?_
    rw [PySem.str_new_tree]
    refine wpAny_bind (wpAny_pure ?_)
    refine wpAny_bind (wpAny_of_eq isSubtype_str_str ?_)
    exact wpAny_bind (wpAny_mono h (fun r s' h' => wpAny_pure ⟨_, rfl, h'⟩) fun _ _ e => e)
  · refine ev_strOf (A := A.in1.in1) (by show A.units + 1 + 1 < cLine; omega) X I hs hf (wpAny_mono h (fun r s' hr => ?_) fun e s' z => z)
    cases r <;> first | exact hr.elim | skip
    exact ⟨typeIs_str _ _ _, hr⟩
end
end PySem.W
namespace Ev
open PySem PySem.Spec PyProof.Rows L2 ClX
section
variable {cs : CS} {X : Cx} {W : WX} {c c1 c2 c3 : Nat} {a b e : Expr} {pos : Pos} {k j ar nc : Nat}
/-- a def run some way deeper -/
theorem run_at {u : U} {n : Nat} {H : Hp} {ds : List D} {vs : List V} {us : List Value} {Q : VK} {S : SpX} {σ : L2.St} {post : DP} {xp : XP} {pins : List (Addr × Obj)} {s : Shared} {f : Addr} {fd : FuncData} {ps : List Str} {A' : Around} (F : FnG X.prog X.w X.K X.mg X.base (L2.CX X.prog X.w) k f fd ps (spN cs ar c S)) (hb : Binds X.K fd ps []) (hr : RoomG k A') (e0 : Env0 X.prog X.w X.K X.mg X.base A' X.stack s H) (tk : Takes X W)
    (A : Wd cs u n H) (hn : n + c ≤ lim) (I : Inv X pins σ H s) (r : RepL u H ds vs) (rv : Vals vs us) (hl : ds.length = ar) (hS : S ds u.M post xp) (kn : KN cs u (n + c) H post Q) (kx : KX cs u (n + c) H σ xp W) :
    codeAny (model X.prog X.w) A' (.call (.ref f) ⟨us, []⟩) (fun r' s' => match r' with | .ok (.ret v) => EP X pins σ Q v s' | .ok _ => False | .error e => X.xe e s') s := by
  have q : spN cs ar c S vs H Q (fun cls d H' => W cls d σ H') := ⟨u, n, ds, post, xp, A, hn, r, hl, hS, fun v d u' H' e B r' q => kn v d u' H' e B r' q, fun cls od c fs u' H' e B r q => kx cls od c fs u' H' e B r q⟩
  have hlen : us.length = ps.length := by rw [← rv.length]; exact F.len _ _ _ _ q
  refine codeAny_mono (F.go A' X.stack s H ⟨us, []⟩ us vs Q _ hr e0 (by simpa using hb s us I.kIn (by simpa using hlen)) rv q) fun r' s' hq => ?_
  cases r' with
  | error er => exact takes_call tk I hq
  | ok fl =>
    cases fl with
    | ret u => exact I.after hq
    | next => exact False.elim hq
    | brk => exact False.elim hq
    | cont => exact False.elim hq
theorem run_in {u : U} {n : Nat} {H : Hp} {ds : List D} {vs : List V} {us : List Value} {Q : VK} {S : SpX} {σ : L2.St} {post : DP} {xp : XP} {pins : List (Addr × Obj)} {s : Shared} {f : Addr} {fd : FuncData} {ps : List Str} {A' : Around} (F : FnG X.prog X.w X.K X.mg X.base (L2.CX X.prog X.w) k f fd ps (spN cs ar c S)) (hb : Binds X.K fd ps []) (hr : RoomG k A') (e0 : Env0 X.prog X.w X.K X.mg X.base A' X.stack s H) (tk : Takes X W)
    (A : Wd cs u n H) (hn : n + c ≤ lim) (I : Inv X pins σ H s) (r : RepL u H ds vs) (rv : Vals vs us) (hl : ds.length = ar) (hS : S ds u.M post xp) (kn : KN cs u (n + c) H post Q) (kx : KX cs u (n + c) H σ xp W) :
    wpAny (model X.prog X.w) A' (call (.ref f) us) (EP X pins σ Q) X.xe s := wpAny_call (codeAny_mono (run_at F hb hr e0 tk A hn I r rv hl hS kn kx) fun r' s' hq => by
  cases r' with
  | error er => exact hq
  | ok fl => cases fl <;> first | exact hq | exact hq.elim)
theorem RoomG.in1 {k : Nat} {A : Around} (r : RoomG (k + 1) A) : RoomG k A.in1 := ⟨r.room.in1, r.gd⟩
def tOwnN (nc : Nat) (S : SpX) : TfC := fun ds M post xp => ∃ d fs, ds = [d] ∧ insOf M d = some (nc, fs) ∧ S [d] M (fun r M' => ∃ i : Int, r = .int i ∧ 0 ≤ i ∧ i < 2 ^ 63 ∧ post (.int i) M') xp
theorem poc_lenO {S : SpX} (F : MtD X.prog X.w X.K X.mg X.base cs k nc "__len__" 1 c S) (hr : RoomG j X.A) (tk : Takes X W) (hk : k + 1 ≤ j := by decide) : POC cs X W c (.builtin "len") (tOwnN nc S) := ⟨fun u n H σ ds xs post xp Q A hn rx ⟨d, fs, ed, hi, hS⟩ kn kx => TC.mk fun pins s us I ru => by
  subst ed
  obtain ⟨x, e, r⟩ := rx.one
  subst e
  obtain ⟨v, ev, rv⟩ := Vals.one ru
  subst ev
  obtain ⟨C, f, fd, ps, hC, cl, hme, F, hb⟩ := F.ex
  obtain ⟨a', C', ox, od, m, ex, ev, hC', J, hF⟩ := ins_st A I hi r rv
  rw [hC] at hC'; cases hC'
  subst ev
  refine PySem.W.len_K hF I.ok.mod.kin J hme.at_ hme.fn (thn (run_in (Q := fun v H' => ∃ i : Int, v = .int i ∧ 0 ≤ i ∧ i < 2 ^ 63 ∧ Q (.int i) H') F hb (hr.mono hk).in1 I.env0.in1 tk A hn I (RepL.cons r RepL.nil) (.cons rv .nil) rfl hS (fun v d u' H' e B r ⟨i, ed, h0, h1, hq⟩ => by subst ed; exact ⟨i, r, h0, h1, kn (.int i) (.int i) u' H' e B rfl hq⟩) kx) fun v s' h => ?_)
  obtain ⟨v', H', I', rv', i, ei, h0, h1, q⟩ := h
  subst ei
  obtain ⟨t, rfl⟩ := rv'
  exact ⟨⟨h0, h1⟩, .int i, H', I'.tok _, ⟨_, rfl⟩, q⟩⟩
def tOwnA (nc : Nat) (S : SpX) : TfC := fun ds M post xp => ∃ d fs, ds = [d] ∧ insOf M d = some (nc, fs) ∧ S [d] M post xp
theorem poc_absO {S : SpX} (F : MtD X.prog X.w X.K X.mg X.base cs k nc "__abs__" 1 c S) (hr : RoomG j X.A) (tk : Takes X W) (hk : k + 1 ≤ j := by decide) : POC cs X W c (.builtin "abs") (tOwnA nc S) := ⟨fun u n H σ ds xs post xp Q A hn rx ⟨d, fs, ed, hi, hS⟩ kn kx => TC.mk fun pins s us I ru => by
  subst ed
  obtain ⟨x, e, r⟩ := rx.one
  subst e
  obtain ⟨v, ev, rv⟩ := Vals.one ru
  subst ev
  obtain ⟨C, f, fd, ps, hC, cl, hme, F, hb⟩ := F.ex
  obtain ⟨a', C', ox, od, m, ex, ev, hC', J, hF⟩ := ins_st A I hi r rv
  rw [hC] at hC'; cases hC'
  subst ev
  exact PySem.W.ev_abs hF I.ok.mod.kin J hme.at_ hme.fn (run_in F hb (hr.mono hk).in1 I.env0.in1 tk A hn I (RepL.cons r RepL.nil) (.cons rv .nil) rfl hS kn kx)⟩
def tOwnStr (nc : Nat) (S : SpX) : TfC := fun ds M post xp => ∃ d fs, ds = [d] ∧ insOf M d = some (nc, fs) ∧ S [d] M (fun r M' => ∃ z : Str, r = .str z ∧ post (.str z) M') xp
theorem poc_strO {S : SpX} (F : MtD X.prog X.w X.K X.mg X.base cs k nc "__str__" 1 c S) (hr : RoomG j X.A) (tk : Takes X W) (hk : k + 2 ≤ j := by decide) : POC cs X W c (.type "str") (tOwnStr nc S) := ⟨fun u n H σ ds xs post xp Q A hn rx ⟨d, fs, ed, hi, hS⟩ kn kx => TC.mk fun pins s us I ru => by
  subst ed
  obtain ⟨x, e, r⟩ := rx.one
  subst e
  obtain ⟨v, ev, rv⟩ := Vals.one ru
  subst ev
  obtain ⟨C, f, fd, ps, hC, cl, hme, F, hb⟩ := F.ex
  obtain ⟨a', C', ox, od, m, ex, ev, hC', J, hF⟩ := ins_st A I hi r rv
  rw [hC] at hC'; cases hC'
  subst ev
  refine PySem.W.ev_str (by have := hr.room.un; omega) I.kIn J hme.at_ hme.fn (thn (run_in (Q := fun v H' => ∃ z : Str, v = .str z ∧ Q (.str z) H') F hb (RoomG.in1 (RoomG.in1 (hr.mono hk))) I.env0.in1.in1 tk A hn I (RepL.cons r RepL.nil) (.cons rv .nil) rfl hS (fun v d u' H' e B r ⟨i, ed, hq⟩ => by subst ed; exact ⟨i, r, kn (.str i) (.str i) u' H' e B rfl hq⟩) kx) fun v s' h => ?_)
  obtain ⟨v', H', I', rv', i, ei, q⟩ := h
  subst ei
  obtain ⟨t, rfl⟩ := rv'
  exact ⟨.str i, H', I', ⟨_, rfl⟩, q⟩⟩
/-- x in y by an own __contains__ that tells a truth value -/
def tOwnIn (nc : Nat) (neg : Bool) (S : SpX) : Tf2 := fun d1 d2 M post xp => ∃ fs, insOf M d2 = some (nc, fs) ∧ S [d2, d1] M (fun r M' => ∃ b : Bool, r = .bl b ∧ post (.bl (if neg then !b else b)) M') xp
theorem po_inO {S : SpX} (F : MtD X.prog X.w X.K X.mg X.base cs k nc "__contains__" 2 c S) (hr : RoomG j X.A) (tk : Takes X W) (hk : k ≤ j := by decide) : PO2 cs X W c (compareOp .In) (tOwnIn nc false S) := ⟨fun u n H σ d1 d2 x y post xp Q A hn rx ry ⟨fs, hi, hS⟩ kn kx => TO.mk fun pins s v w I rv rw' => by
  obtain ⟨C, f, fd, ps, hC, cl, hme, F, hb⟩ := F.ex
  obtain ⟨a', C', ox, od, m, ex, ev, hC', J, hF⟩ := ins_st A I hi ry rw'
  rw [hC] at hC'; cases hC'
  rw [ev]
  rw [ev] at rw'
  refine PySem.W.in_K hF I.ok.mod.kin J hme.at_ hme.fn (thn (run_ev (Q := fun v H' => ∃ b : Bool, v = .bl b ∧ Q (.bl b) H') F hb (hr.mono hk) tk A hn I (RepL.cons ry (RepL.cons rx RepL.nil)) (.cons rw' (.cons rv .nil)) rfl hS (fun v d u' H' e B r ⟨b, ed, hq⟩ => by subst ed; exact ⟨b, r, kn (.bl b) (.bl b) u' H' e B rfl hq⟩) kx) fun v s' h => ?_)
  obtain ⟨v', H', I', rv', b, eb, q⟩ := h
  subst eb
  obtain rfl : v = .bool b := rv'
  exact wpAny_truthy_bool ⟨.bl b, H', I', rfl, q⟩⟩
theorem po_ninO {S : SpX} (F : MtD X.prog X.w X.K X.mg X.base cs k nc "__contains__" 2 c S) (hr : RoomG j X.A) (tk : Takes X W) (hk : k ≤ j := by decide) : PO2 cs X W c (compareOp .NotIn) (tOwnIn nc true S) := ⟨fun u n H σ d1 d2 x y post xp Q A hn rx ry ⟨fs, hi, hS⟩ kn kx => TO.mk fun pins s v w I rv rw' => by
  obtain ⟨C, f, fd, ps, hC, cl, hme, F, hb⟩ := F.ex
  obtain ⟨a', C', ox, od, m, ex, ev, hC', J, hF⟩ := ins_st A I hi ry rw'
  rw [hC] at hC'; cases hC'
  rw [ev]
  rw [ev] at rw'
  refine PySem.W.notIn_K hF I.ok.mod.kin J hme.at_ hme.fn (thn (run_ev (Q := fun v H' => ∃ b : Bool, v = .bl b ∧ Q (.bl !b) H') F hb (hr.mono hk) tk A hn I (RepL.cons ry (RepL.cons rx RepL.nil)) (.cons rw' (.cons rv .nil)) rfl hS (fun v d u' H' e B r ⟨b, ed, hq⟩ => by subst ed; exact ⟨b, r, kn (.bl !b) (.bl !b) u' H' e B rfl hq⟩) kx) fun v s' h => ?_)
  obtain ⟨v', H', I', rv', b, eb, q⟩ := h
  subst eb
  obtain rfl : v = .bool b := rv'
  exact wpAny_truthy_bool ⟨.bl !b, H', I', rfl, q⟩⟩
/-- a class by its name -/
theorem px_gcls {x : Str} (nc : Nat) (hm : ∃ C, X.mg x = some (.ref C) ∧ cs.cls[nc]? = some (.ref C)) (hg : Gl X x := by rfl) (hd : (x == ("__debug__" : Str)) = false := by decide) : PX cs X W 0 (.Name x pos) (tCon (.cls nc)) := ⟨fun u n H σ Γ post xp Q A hn q kn kx => by
  obtain ⟨C, hm, hC⟩ := hm
  exact tw_of (pe_glob hg hm (v := .ref C) rfl hd) (kn.here (d := .cls nc) A.toWd ⟨by rw [A.ks.1]; exact hC, nofun⟩ q)⟩
/-! ### C.m(e, ..), m a staticmethod -/
structure StD (P : Program) (w : World) (K : PySem.W.Frag) (mg : Str → Option Value) (base : Heap) (cs : CS) (k nc : Nat) (m : Str) (ar c : Nat) (S : SpX) : Prop where
  ex : ∃ (C p f : Addr) (fd : FuncData) (ps : List Str) (mc : Value) (rest : List Value), cs.cls[nc]? = some (.ref C) ∧ ClX.CRead K C mc ∧ PySem.W.findCls K (.ref C) mc m = some (.get (.builtin "staticmethod.__get__") (.ref p) .none (.ref C)) ∧ PySem.W.recIn K p "staticmethod" = some (.ref f :: rest) ∧
    PySem.W.keepIn K (.ref f) = true ∧ FnG P w K mg base (L2.CX P w) k f fd ps (spN cs ar c S) ∧ Binds K fd ps []
def tStat (nc ar : Nat) (S : SpX) (to : TfE) (ta : TfA) : TfE := fun Γ M post xp => to Γ M (fun d M1 => d = .cls nc ∧ ta Γ M1 (fun ds M2 => ds.length = ar ∧ S ds M2 post xp) xp) xp
theorem px_static {m : Str} {o : Expr} {apos : Pos} {es : List Expr} {S : SpX} {pl : Sem Bool} {to : TfE} {ta : TfA} (F : StD X.prog X.w X.K X.mg X.base cs k nc m ar c3 S) (hr : RoomG j X.A) (tk : Takes X W) (ho : PX cs X W c1 o to) (ha : PXA cs X W c2 (e :: es) ta) (hk : k ≤ j := by decide)
    (hst : starEach (e :: es) X.env = (false, eval e X.env) :: starEach es X.env := by rfl) (hpl : (backTo pos (starEach es X.env)).any (·.1) = false := by rfl)
    (ht : eval (.Call (.Attribute o m apos) (e :: es) [] pos) X.env = (do let ov ← eval o X.env; standAt apos.atName; let (f, first) ← holding [ov] (getMethod ov m pl); callWith pos f first (backTo pos (starEach (e :: es) X.env)) (backToKw pos (keywordEach [] X.env))) := by rfl) :
    PX cs X W (c1 + c2 + c3) (.Call (.Attribute o m apos) (e :: es) [] pos) (tStat nc ar S to ta) := ⟨fun u n H σ Γ post xp Q A hn q kn kx => by
  obtain ⟨C, p, f, fd, ps, mc, rest, hC, hrd, hfc, hrc, hkp, F, hb⟩ := F.ex
  refine TW.mk fun pins s I => ?_
  refine PySem.W.methodCall_KW (pl := pl) (thn (ho.run u n H σ Γ _ xp (fun x H1 => x = .ref C ∧ ∀ s1, Inv X pins σ H1 s1 → wpAny (model X.prog X.w) X.A (getMethod (.ref C) m pl) (fun fx s₂ => wpAny (model X.prog X.w) X.A (callWith pos fx.1 fx.2 (backTo pos (starEach (e :: es) X.env)) (backToKw pos (keywordEach [] X.env))) (EP X pins σ Q) X.xe s₂) X.xe s1) A (by omega) q (fun v d u1 H1 e1 B1 r1 ⟨ed, h1⟩ => ?_) (kx.le (by omega)) pins s I) fun v s1 ⟨x, H1, I1, rx, ex, q⟩ => ?_) ht
  · subst ed
    have r1 : u1.k.cls[nc]? = some v ∧ v ≠ .non := r1
    rw [B1.ks.1, hC] at r1
    cases r1.1
    refine ⟨rfl, fun s1 I1 => ?_⟩
    refine PySem.W.method_cls I1.kIn hrd.ga (PySem.W.cls_bind I1.kIn hrd.rd hfc (wpAny_call (PySem.W.sm_get (s := { s1 with toks := s1.toks + 1 }) I1.kIn hrc (PySem.W.handed_on rfl ?_))))
    have I2 : Inv X pins σ H1 { s1 with toks := s1.toks + 1 } := I1.tok _
    refine PySem.W.callWith_K (first := []) (h₀ := X.base) I.ok.mod.kin hkp (thn (ha.run u1 (n + c1) H1 σ Γ _ xp (fun vs H2 => spN cs ar c3 S vs H2 Q (fun cls d H' => W cls d σ H')) (A.step e1 B1) (by omega) h1 (fun vs ds u2 H2 e2 B2 r2 ⟨hl2, hS⟩ => ?_) (kx.go A.toWd e1 (by omega)) pos pins _ I2) fun us s2 ⟨vs, H2, I2, r, q⟩ => ⟨I2.kIn, ?_⟩) hst hpl
    · have e12 := e1.trans A.toWd e2
      exact ⟨u2, n + c1 + c2, ds, post, xp, B2, by omega, r2, hl2, hS, kn.go A.toWd e12 (by omega), fun cls od c fs u' H' e3 B3 r q => kx cls od c fs u' H' (e12.trans A.toWd e3) (B3.up (by omega)) r q⟩
    · have hlen : us.length = ps.length := by rw [← r.length]; exact F.len _ _ _ _ q
      refine run_g F (hr.mono hk) (fun e s' z => takes_call tk I2 z) I2 r ?_ q
      simpa using hb s2 us I2.kIn (by simpa using hlen)
  · subst ex
    obtain rfl : v = Value.ref C := rx
    exact q s1 I1⟩
/-! ### C.m(e, ..), m a classmethod -/
structure CmD (P : Program) (w : World) (K : PySem.W.Frag) (mg : Str → Option Value) (base : Heap) (cs : CS) (k nc : Nat) (m : Str) (ar c : Nat) (S : SpX) : Prop where
  ex : ∃ (C p g : Addr) (fd : FuncData) (ps : List Str) (mc : Value), cs.cls[nc]? = some (.ref C) ∧ ClX.CRead K C mc ∧ ClX.CMet K C mc m p g ∧ FnG P w K mg base (L2.CX P w) k g fd ps (spN cs ar c S) ∧ Binds K fd ps []
def tCm (nc ar : Nat) (S : SpX) (to : TfE) (ta : TfA) : TfE := fun Γ M post xp => to Γ M (fun d M1 => d = .cls nc ∧ ta Γ M1 (fun ds M2 => ds.length + 1 = ar ∧ S (.cls nc :: ds) M2 post xp) xp) xp
theorem px_cmeth {m : Str} {o : Expr} {apos : Pos} {es : List Expr} {S : SpX} {pl : Sem Bool} {to : TfE} {ta : TfA} (F : CmD X.prog X.w X.K X.mg X.base cs k nc m ar c3 S) (hr : RoomG j X.A) (tk : Takes X W) (ho : PX cs X W c1 o to) (ha : PXA cs X W c2 (e :: es) ta) (hk : k ≤ j := by decide)
    (hst : starEach (e :: es) X.env = (false, eval e X.env) :: starEach es X.env := by rfl) (hpl : (backTo pos (starEach es X.env)).any (·.1) = false := by rfl)
    (ht : eval (.Call (.Attribute o m apos) (e :: es) [] pos) X.env = (do let ov ← eval o X.env; standAt apos.atName; let (f, first) ← holding [ov] (getMethod ov m pl); callWith pos f first (backTo pos (starEach (e :: es) X.env)) (backToKw pos (keywordEach [] X.env))) := by rfl) :
    PX cs X W (c1 + c2 + c3) (.Call (.Attribute o m apos) (e :: es) [] pos) (tCm nc ar S to ta) := ⟨fun u n H σ Γ post xp Q A hn q kn kx => by
  obtain ⟨C, p, g, fd, ps, mc, hC, hrd, cm, F, hb⟩ := F.ex
  refine TW.mk fun pins s I => ?_
  refine PySem.W.methodCall_KW (pl := pl) (thn (ho.run u n H σ Γ _ xp (fun x H1 => x = .ref C ∧ ∀ s1, Inv X pins σ H1 s1 → wpAny (model X.prog X.w) X.A (getMethod (.ref C) m pl) (fun fx s₂ => wpAny (model X.prog X.w) X.A (callWith pos fx.1 fx.2 (backTo pos (starEach (e :: es) X.env)) (backToKw pos (keywordEach [] X.env))) (EP X pins σ Q) X.xe s₂) X.xe s1) A (by omega) q (fun v d u1 H1 e1 B1 r1 ⟨ed, h1⟩ => ?_) (kx.le (by omega)) pins s I) fun v s1 ⟨x, H1, I1, rx, ex, q⟩ => ?_) ht
  · subst ed
    have r1 : u1.k.cls[nc]? = some v ∧ v ≠ .non := r1
    rw [B1.ks.1, hC] at r1
    cases r1.1
    refine ⟨rfl, fun s1 I1 => ?_⟩
    refine getmethcm_ok I1 hrd cm fun s2 I2 => ?_
    refine callwith_cm I2 (base_none I1 (Nat.le_refl _)) cm.fi (thn (ha.run u1 (n + c1) H1 σ Γ _ xp (fun vs H2 => spN cs ar c3 S (.ref C :: vs) H2 Q (fun cls d H' => W cls d σ H')) (A.step e1 B1) (by omega) h1 (fun vs ds u2 H2 e2 B2 r2 ⟨hl2, hS⟩ => ?_) (kx.go A.toWd e1 (by omega)) pos _ _ I2) fun us s3 ⟨vs, H2, I3, rv, q2⟩ => ⟨⟨pin_at I3, I3.kIn⟩, ?_⟩) hst hpl
    · have e12 := e1.trans A.toWd e2
      exact ⟨u2, n + c1 + c2, .cls nc :: ds, post, xp, B2, by omega, RepL.cons ⟨by rw [B2.ks.1]; exact hC, nofun⟩ r2, by simpa using hl2, hS, kn.go A.toWd e12 (by omega), fun cls od c fs u' H' e3 B3 r q => kx cls od c fs u' H' (e12.trans A.toWd e3) (B3.up (by omega)) r q⟩
    · have r3 : Vals (.ref C :: vs) (.ref C :: us) := .cons rfl rv
      have hlen : (Value.ref C :: us).length = ps.length := by rw [← r3.length]; exact F.len _ _ _ _ q2
      have z : wpAny (model X.prog X.w) X.A (call (.ref s1.heap.objs.size) us) (EP X ((s1.heap.objs.size, PySem.W.methodObj (.ref g) (.ref C)) :: pins) σ Q) X.xe s3 := by
        refine wpAny_call (PySem.W.method_call (pin_at I3) (codeAny_mono (F.go X.A X.stack s3 H2 ⟨.ref C :: us, []⟩ (.ref C :: us) (.ref C :: vs) Q _ (hr.mono hk) I3.env0 (by simpa using hb s3 (.ref C :: us) I3.kIn (by simpa using hlen)) r3 q2) fun r' s' hq => ?_))
        cases r' with
        | error er => exact takes_call tk I3 hq
        | ok fl =>
          cases fl with
          | ret u => exact I3.after hq
          | next => exact False.elim hq
          | brk => exact False.elim hq
          | cont => exact False.elim hq
      exact thn z fun _ _ y => unpinE y
  · subst ex
    obtain rfl : v = Value.ref C := rx
    exact q s1 I1⟩
/-! ### properties of own classes; nothing is raised there -/
structure PrD (P : Program) (w : World) (K : PySem.W.Frag) (mg : Str → Option Value) (base : Heap) (cs : CS) (k nc : Nat) (f : Str) (c : Nat) (S : SpX) : Prop where
  ex : ∃ (C p g : Addr) (fd : FuncData) (ps : List Str), cs.cls[nc]? = some (.ref C) ∧ Cls K C ∧ PropOf K C f p g ∧ FnG P w K mg base (L2.CX P w) k g fd ps (spN cs 1 c S) ∧ Binds K fd ps []
def tProp (nc : Nat) (S : SpX) : Tf1 := fun d M post _ => ∃ fs, insOf M d = some (nc, fs) ∧ S [d] M post (fun _ _ _ => False)
theorem pat_prop {f : Str} {S : SpX} (F : PrD X.prog X.w X.K X.mg X.base cs k nc f c S) (hr : RoomG j X.A) (hk : k + 1 ≤ j := by decide) : PAt cs X W c f (tProp nc S) := ⟨fun u n H σ d x post xp Q A hn rx ⟨fs, hi, hS⟩ kn kx b pins s v I rv => by
  obtain ⟨C, p, g, fd, ps, hC, cl, hp, F, hb⟩ := F.ex
  obtain ⟨a', C', ox, od, m, ex, ev, hC', J, hF⟩ := ins_st A I hi rx rv
  rw [hC] at hC'; cases hC'
  subst ev
  obtain ⟨rest, hrec⟩ := hp.rec_
  have I2 := I.tok (s.toks + 1)
  have hc : (PySem.W.clsIn X.K C).isSome = true := by
    obtain ⟨cd, hc, _⟩ := PySem.W.any_some cl.hd
    rw [hc]; rfl
  refine PySem.W.get_bind I.kIn J (PySem.W.plainGet_of (cl.get f)).1 (PySem.W.findObj_data hc hp.at_ hp.get hp.tak) (PySem.W.plainGet_of (cl.get f)).2 (wpAny_call (PySem.W.prop_get (s := { s with toks := s.toks + 1 }) I.kIn hrec ?_))
  have q : spN cs 1 c S [x] H Q (fun _ _ _ => False) := ⟨u, n, [d], post, _, A, hn, RepL.cons rx RepL.nil, rfl, hS, kn, fun _ _ _ _ _ _ _ _ _ z => z.elim⟩
  have r3 : Vals [x] [.ref a'] := .cons rv .nil
  have hlen : [Value.ref a'].length = ps.length := by rw [← r3.length]; exact F.len _ _ _ _ q
  refine codeAny_mono (F.go X.A.in1 X.stack _ H ⟨[.ref a'], []⟩ [.ref a'] [x] Q _ (hr.mono hk).in1 I2.env0.in1 (by simpa using hb _ [.ref a'] I2.kIn (by simpa using hlen)) r3 q) fun r' s' hq => ?_
  cases r' with
  | error er =>
    obtain ⟨_, _, _, _, _, _, _, _, _, _, _, _, z⟩ := hq
    exact z.elim
  | ok fl =>
    cases fl with
    | ret u =>
      obtain ⟨v, H', I3, rv3, q3⟩ := I2.after hq
      show wpAny _ _ (handedOut u) _ _ _
      rw [PySem.W.handedOut_of (handed_of rv3)]
      exact wpAny_pure ⟨v, H', I3, rv3, q3⟩
    | next => exact False.elim hq
    | brk => exact False.elim hq
    | cont => exact False.elim hq⟩
end
end Ev
-- EvT
namespace Ev
open PySem PySem.Spec PyProof.Rows L2 ClX
section
variable {cs : CS} {X : Cx} {W : WX} {c c1 c2 c3 : Nat} {a b e : Expr} {pos : Pos} {k j ar nc : Nat} {dfl : List D}
/-! ### calls where parameters are left out -/
/-- a class made by its name, the last parameters' values dfl left out -/
structure MkE (P : Program) (w : World) (K : PySem.W.Frag) (mg : Str → Option Value) (base : Heap) (cs : CS) (k : Nat) (x : Str) (n : Nat) (ar c : Nat) (dfl : List D) (S : SpX) : Prop where
  ex : ∃ (C f : Addr) (fd : FuncData) (ps : List Str) (ds : List Value) (dvs : List V), cs.cls[n]? = some (.ref C) ∧ Mk K C f ∧ FnG P w K mg base (L2.CX P w) k f fd ps (spN cs ar c S) ∧ mg x = some (.ref C) ∧ Binds K fd ps ds ∧ Vals dvs ds ∧ ∀ (u : U) (H : Hp), RepL u H dfl dvs
theorem make_runD {f C : Addr} {fd : FuncData} {ps : List Str} {S : SpX} {pins : List (Addr × Obj)} {σ : L2.St} {H : Hp} {s : Shared} {Q : VK} {us ds : List Value} {vs dvs : List V} (F : FnG X.prog X.w X.K X.mg X.base (L2.CX X.prog X.w) k f fd ps (spN cs ar c2 S)) (hr : RoomG (k + 1) X.A) (tk : Takes X W) (M : Mk X.K C f) (hb : Binds X.K fd ps ds) (hd : Vals dvs ds) (I : Inv X pins σ H s) (r : Vals vs us)
    (h : ∀ x dx, H x = none → H dx = none → dx ≠ x → spN cs ar c2 S (.ref x :: (vs ++ dvs)) (upd (upd H dx (.own x)) x (.ins C dx [])) (fun v H2 => v = .non ∧ Q (.ref x) H2) (fun cls d H' => W cls d σ H')) : wpAny (model X.prog X.w) X.A (call (.ref C) us) (EP X pins σ Q) X.xe s := by
  refine make_g (us' := us ++ ds) M F hr I (fun s2 H2 e s' I2 z => takes_call tk I2 z) (fun x => .cons rfl (r.append hd)) (fun s2 x hk => ?_) h
  have hq := h (s.heap.objs.size + 1) s.heap.objs.size (I.hok.fresh (Nat.le_succ _)) (I.hok.fresh (Nat.le_refl _)) (Nat.ne_of_lt (Nat.lt_succ_self _))
  have hlen := F.len _ _ _ _ hq
  have e := (r.append hd).length
  have := hb s2 (.ref x :: us) hk (by
    rw [← hlen]
    simp at e ⊢
    omega)
  simpa using this
def tMkE (nc ar : Nat) (dfl : List D) (S : SpX) (ta : TfA) : TfE := tMk nc ar S (fun Γ M post xp => ta Γ M (fun ds M1 => post (ds ++ dfl) M1) xp)
theorem px_mkE {x : Str} {p : Pos} {es : List Expr} {S : SpX} {ta : TfA} (F : MkE X.prog X.w X.K X.mg X.base cs k x nc ar c2 dfl S) (hr : RoomG j X.A) (tk : Takes X W) (ha : PXA cs X W c1 (e :: es) ta) (hk : k + 1 ≤ j := by decide) (hg : Gl X x := by rfl) (hdb : (x == ("__debug__" : Str)) = false := by decide)
    (he : starEach (e :: es) X.env = (false, eval e X.env) :: starEach es X.env := by rfl) (hpl : (backTo pos (starEach es X.env)).any (·.1) = false := by rfl) : PX cs X W (c1 + c2) (.Call (.Name x p) (e :: es) [] pos) (tMkE nc ar dfl S ta) := ⟨fun u n H σ Γ post xp Q A hn q kn kx => by
  obtain ⟨C, f, fd, ps, ds, dvs, hC, M, F, hm, hb, hd, hD⟩ := F.ex
  refine TW.mk fun pins s I => ?_
  refine wpAny_Call_Name_kw (ld_glob I hg hm (PySem.W.callWith_K (h₀ := X.base) I.ok.mod.kin M.kp (thn (ha.run u n H σ Γ _ xp (fun vs H1 => ∀ x' dx, H1 x' = none → H1 dx = none → dx ≠ x' → spN cs ar c2 S (.ref x' :: (vs ++ dvs)) (upd (upd H1 dx (.own x')) x' (.ins C dx [])) (fun v H2 => v = .non ∧ Q (.ref x') H2) (fun cls d H' => W cls d σ H')) A (by omega) q (fun vs ds u1 H1 e1 B1 r1 ⟨hl, hS⟩ x' dx hx hdx hne => mk_sp B1 (by omega) (r1.append (hD u1 H1)) hC hl hS (kn.go A.toWd e1 (by omega)) (kx.go A.toWd e1 (by omega)) hx hdx hne) (kx.le (by omega)) pos pins s I) fun us s1 ⟨vs, H1, I1, r, q⟩ => ⟨I1.kIn, ?_⟩) he hpl) hdb)
  exact make_runD F (hr.mono hk) tk M hb hd I1 r q⟩
/-- .. the instance changes later -/
def tMkME (nc ar : Nat) (dfl : List D) (S : SpX) (ta : TfA) : TfE := tMkM nc ar S (fun Γ M post xp => ta Γ M (fun ds M1 => post (ds ++ dfl) M1) xp)
theorem px_mkME {x : Str} {p : Pos} {es : List Expr} {S : SpX} {ta : TfA} (F : MkE X.prog X.w X.K X.mg X.base cs k x nc ar c2 dfl S) (hr : RoomG j X.A) (tk : Takes X W) (ha : PXA cs X W c1 (e :: es) ta) (hk : k + 1 ≤ j := by decide) (hg : Gl X x := by rfl) (hdb : (x == ("__debug__" : Str)) = false := by decide)
    (he : starEach (e :: es) X.env = (false, eval e X.env) :: starEach es X.env := by rfl) (hpl : (backTo pos (starEach es X.env)).any (·.1) = false := by rfl) : PX cs X W (c1 + c2) (.Call (.Name x p) (e :: es) [] pos) (tMkME nc ar dfl S ta) := ⟨fun u n H σ Γ post xp Q A hn q kn kx => by
  obtain ⟨C, f, fd, ps, ds, dvs, hC, M, F, hm, hb, hd, hD⟩ := F.ex
  refine TW.mk fun pins s I => ?_
  refine wpAny_Call_Name_kw (ld_glob I hg hm (PySem.W.callWith_K (h₀ := X.base) I.ok.mod.kin M.kp (thn (ha.run u n H σ Γ _ xp (fun vs H1 => ∀ x' dx, H1 x' = none → H1 dx = none → dx ≠ x' → spN cs ar c2 S (.ref x' :: (vs ++ dvs)) (upd (upd H1 dx (.own x')) x' (.ins C dx [])) (fun v H2 => v = .non ∧ Q (.ref x') H2) (fun cls d H' => W cls d σ H')) A (by omega) q (fun vs ds u1 H1 e1 B1 r1 ⟨hl, hS⟩ x' dx hx hdx hne => mkM_sp B1 (by omega) (r1.append (hD u1 H1)) hC hl hS (kn.go A.toWd e1 (by omega)) (kx.go A.toWd e1 (by omega)) hx hdx hne) (kx.le (by omega)) pos pins s I) fun us s1 ⟨vs, H1, I1, r, q⟩ => ⟨I1.kIn, ?_⟩) he hpl) hdb)
  exact make_runD F (hr.mono hk) tk M hb hd I1 r q⟩
/-- c(e, ..), c a variable that holds the class of the number nc -/
def tMkV (i nc ar : Nat) (S : SpX) (ta : TfA) : TfE := fun Γ M post xp => Γ[i]? = some (some (.cls nc)) ∧ tMk nc ar S ta Γ M post xp
theorem px_mkV (i : Nat) {x y : Str} {p : Pos} {es : List Expr} {S : SpX} {ta : TfA} (F : MkD X.prog X.w X.K X.mg X.base cs k y nc ar c2 S) (hr : RoomG j X.A) (tk : Takes X W) (ha : PXA cs X W c1 (e :: es) ta) (hk : k + 1 ≤ j := by decide) (hN : X.N[i]? = some x := by rfl) (hv : Vis X.env.scope x := by first | exact Or.inl rfl | exact Or.inr (Or.inl rfl) | exact Or.inr (Or.inr rfl))
    (hdb : (x == ("__debug__" : Str)) = false := by decide) (hcd : (x == ("__classdict__" : Str)) = false := by decide)
    (he : starEach (e :: es) X.env = (false, eval e X.env) :: starEach es X.env := by rfl) (hpl : (backTo pos (starEach es X.env)).any (·.1) = false := by rfl) : PX cs X W (c1 + c2) (.Call (.Name x p) (e :: es) [] pos) (tMkV i nc ar S ta) := ⟨fun u n H σ Γ post xp Q A hn ⟨hi, q⟩ kn kx => by
  obtain ⟨C, f, fd, ps, hC, M, F, hm, hb⟩ := F.ex
  obtain ⟨v0, h0, r0⟩ := A.sl i _ hi
  have r0 : u.k.cls[nc]? = some v0 ∧ v0 ≠ .non := r0
  rw [A.ks.1, hC] at r0
  cases r0.1
  refine TW.mk fun pins s I => ?_
  refine wpAny_Call_Name_kw (thn ((pe_var (pos := p) (i := i) hN hv hdb hcd).run pins s σ H (fun v H1 => v = .ref C ∧ H1 = H) I ⟨.ref C, h0, rfl, rfl⟩) fun w s2 ⟨v, H2, I2, r2, ev, eH⟩ => ?_)
  subst ev
  rw [eH] at I2
  obtain rfl : w = Value.ref C := r2
  refine PySem.W.callWith_K (h₀ := X.base) I2.ok.mod.kin M.kp (thn (ha.run u n H σ Γ _ xp (fun vs H1 => ∀ x' dx, H1 x' = none → H1 dx = none → dx ≠ x' → spN cs ar c2 S (.ref x' :: vs) (upd (upd H1 dx (.own x')) x' (.ins C dx [])) (fun v H2 => v = .non ∧ Q (.ref x') H2) (fun cls d H' => W cls d σ H')) A (by omega) q (fun vs ds u1 H1 e1 B1 r1 ⟨hl, hS⟩ x' dx hx hdx hne => mk_sp B1 (by omega) r1 hC hl hS (kn.go A.toWd e1 (by omega)) (kx.go A.toWd e1 (by omega)) hx hdx hne) (kx.le (by omega)) pos pins s2 I2) fun us s1 ⟨vs, H1, I1, r, q⟩ => ⟨I1.kIn, ?_⟩) he hpl
  exact make_run F (hr.mono hk) tk M hb I1 r q⟩
/-! ### f-strings -/
def tFm (te : TfE) : TfE := fun Γ M post xp => te Γ M (fun d M1 => match d with
  | .str y => y.length ≤ sizeLine ∧ post (.str y) M1
  | .int i => i.natAbs.log2 < 1920 ∧ post (.str (toString i)) M1
  | _ => False) xp
theorem px_fm {te : TfE} (he : PX cs X W c e te) : PX cs X W c (.FormattedValue e (-1) none pos) (tFm te) := ⟨fun u n H σ Γ post xp Q A hn q kn kx => by
  refine tw_of (pe_fmt (tw_pe X e)) ?_
  refine he.run u n H σ Γ _ xp _ A hn q (fun v d u1 H1 e1 B1 r1 q1 => ?_) kx
  cases d <;> (try exact (show False from q1).elim)
  case int i => exact .inr ⟨i, r1, q1.1, kn (.str (toString i)) (.str (toString i)) u1 H1 e1 B1 rfl q1.2⟩
  case str y => exact .inl ⟨y, r1, q1.1, kn (.str y) (.str y) u1 H1 e1 B1 rfl q1.2⟩⟩
/-- the parts of an f-string -/
inductive PXJ (cs : CS) (X : Cx) (W : WX) : Nat → List Expr → List TfE → Prop where
  | nil : PXJ cs X W 0 [] []
  | cons {c1 c2 : Nat} {e : Expr} {t : TfE} {es : List Expr} {ts : List TfE} (h : PX cs X W c1 e t) (r : PXJ cs X W c2 es ts) : PXJ cs X W (c1 + c2) (e :: es) (t :: ts)
def tJoin2 : List TfE → Str → Gm → Store → (Str → Store → Prop) → XP → Prop
  | [], acc, _, M, post, _ => post acc M
  | t :: ts, acc, Γ, M, post, xp => t Γ M (fun d M1 => ∃ y : Str, d = .str y ∧ (acc ++ y).length ≤ sizeLine ∧ tJoin2 ts (acc ++ y) Γ M1 post xp) xp
theorem pxj_run {es : List Expr} {ts : List TfE} (h : PXJ cs X W c es ts) : ∃ rs : List TE, PJ X es rs ∧ ∀ (acc : Str) (u : U) (n : Nat) (H : Hp) (σ : L2.St) (Γ : Gm) (post : Str → Store → Prop) (xp : XP) (Q : Str → Hp → Prop), At cs u n H σ Γ → n + c ≤ lim → tJoin2 ts acc Γ u.M post xp →
    (∀ z u' H', Nx u H u' H' → Wd cs u' (n + c) H' → post z u'.M → Q z H') → KX cs u (n + c) H σ xp W → tJs rs acc σ H Q := by
  induction h with
  | nil => exact ⟨[], .nil, fun acc u n H σ Γ post xp Q A hn q kn kx => kn acc u H Nx.refl A.toWd q⟩
  | @cons c1 c2 e t es ts h r ih =>
    obtain ⟨rs, hj, hr⟩ := ih
    refine ⟨TW X e :: rs, .cons (tw_pe X e) hj, fun acc u n H σ Γ post xp Q A hn q kn kx => ?_⟩
    refine h.run u n H σ Γ _ xp _ A (by omega) q (fun v d u1 H1 e1 B1 r1 ⟨y, ed, hz, q1⟩ => ?_) (kx.le (by omega))
    subst ed
    exact ⟨y, r1, hz, hr (acc ++ y) u1 (n + c1) H1 σ Γ post xp Q (A.step e1 B1) (by omega) q1 (fun z u' H' e2 B2 q2 => kn z u' H' (e1.trans A.toWd e2) (B2.up (by omega)) q2) (kx.go A.toWd e1 (by omega))⟩
def tFstr (ts : List TfE) : TfE := fun Γ M post xp => tJoin2 ts Str.empty Γ M (fun z M1 => post (.str z) M1) xp
theorem px_fstr {v1 v2 : Expr} {rest : List Expr} {ts : List TfE} (h : PXJ cs X W c (v1 :: v2 :: rest) ts) : PX cs X W c (.JoinedStr (v1 :: v2 :: rest) pos) (tFstr ts) := ⟨fun u n H σ Γ post xp Q A hn q kn kx => by
  obtain ⟨rs, hj, hr⟩ := pxj_run h
  refine tw_of (pe_joined hj) ?_
  exact hr Str.empty u n H σ Γ _ xp _ A hn q (fun z u' H' e B q' => kn (.str z) (.str z) u' H' e B rfl q') kx⟩
theorem px_fstr1 {te : TfE} (he : PX cs X W c e te) : PX cs X W c (.JoinedStr [e] pos) te := ⟨fun u n H σ Γ post xp Q A hn q kn kx => tw_of (pe_joined1 (tw_pe X e)) (he.run u n H σ Γ post xp Q A hn q kn kx)⟩
/-! ### a, b, .. = a list -/
def gLs (n : Nat) (gs : List D → Gm → (Gm → Prop) → Prop) : TfG := fun d Γ nx => ∃ ds, d = .lst ds ∧ ds.length = n ∧ gs ds Γ nx
theorem xg_lst {es : List Expr} {k n : Nat} {gs : List D → Gm → (Gm → Prop) → Prop} {is : List Nat} (h : PXGs cs X es is gs) (hn : (assignEach es X.env).length = n := by rfl) (hc : X.calm = true := by rfl) (hst : (assignEach es X.env).findIdx? (·.1) = none := by rfl) : PXG cs X (.Tuple es k pos) is (gLs n gs) := ⟨fun u m H σ Γ d v nx Q A r ⟨ds, e, hl, q⟩ kk => by
  subst e
  obtain ⟨a, vs, ev, f, g, rl⟩ := r.lstE
  exact twg_of (pg_lst hc (twgs_pgs X es) hn hst) ⟨a, vs, ev, SqL.of g, by rw [rl.length, hl], h.run u m H σ Γ ds vs nx Q A rl q kk⟩⟩
theorem PXG.or {tg : Expr} {is : List Nat} {g1 g2 : TfG} (h1 : PXG cs X tg is g1) (h2 : PXG cs X tg is g2) : PXG cs X tg is (fun d Γ nx => g1 d Γ nx ∨ g2 d Γ nx) := ⟨fun u m H σ Γ d v nx Q A r q kk => by
  rcases q with q | q
  · exact h1.run u m H σ Γ d v nx Q A r q kk
  · exact h2.run u m H σ Γ d v nx Q A r q kk⟩
end
end Ev
-- EvU
namespace Ev
open PySem PySem.Spec PyProof.Rows L2
/-! ### the pen is made -/
def spPen (K : PySem.W.Frag) : Sp := fun vs H Q _ => ∃ (a : Addr) (ns : List Int), vs = [.ref a] ∧ SqL K H a (ns.map V.int) ∧ ∀ p c H', p ≠ c → (∀ b o, H b = some o → H' b = some o) → H' p = some (.lst [.ref c, .int 0, .int 0]) → H' c = some (.lst ((ns.take 63).map V.int)) → Q (.ref p) H'
def spLaw (K : PySem.W.Frag) (T : List (Addr × Str)) : Sp := fun vs H Q _ => ∃ (a : Addr) (ns : List Int), vs = [.ref a] ∧ LamX.Tabs T H ∧ SqL K H a (ns.map V.int) ∧ ns.length ≤ 63 ∧ (∀ z ∈ ns, Builtin.Int.intBits z ≤ 1048576) ∧ ∀ H', Q (.bl true) H'
theorem bits_lt {z : Int} (h : Builtin.Int.intBits z ≤ 1048576) : z.natAbs < 2 ^ (BB - 3) := by
  unfold Builtin.Int.intBits at h
  by_cases h0 : z = 0
  · subst h0; exact Nat.pow_pos (by decide)
  · rw [if_neg (by simpa using h0)] at h
    have h1 : z.natAbs < 2 ^ (z.natAbs.log2 + 1) := Nat.lt_log2_self
    refine Nat.lt_of_lt_of_le h1 (Nat.pow_le_pow_right (by decide) ?_)
    have : BB - 3 = 1048577 := rfl
    omega
theorem cut63 {ns : List Int} : cutV (ns.map V.int) none (some 63) = (ns.take 63).map V.int := by
  unfold cutV
  have h0 : HT.sIx (ns.map V.int).length 0 none = 0 := rfl
  have h1 : HT.sIx (ns.map V.int).length (ns.map V.int).length (some 63) = min 63 ns.length := by
    unfold HT.sIx
    simp
    try omega
  rw [h0, h1]
  simp [List.map_take]
  try omega
section
variable {P : Program} {w : World} {K : PySem.W.Frag} {mg : Str → Option Value} {base : Heap}
theorem upd3 {H : Hp} {l c p b : Addr} {o1 o2 o3 o : HO} (hl : H l = none) (hc : upd H l o1 c = none) (hp : upd (upd H l o1) c o2 p = none) (e : H b = some o) : upd (upd (upd H l o1) c o2) p o3 b = some o := by
  have e1 : upd H l o1 b = some o := by rw [upd_ne (ne_of_none e hl)]; exact e
  have e2 : upd (upd H l o1) c o2 b = some o := by rw [upd_ne (ne_of_none e1 hc)]; exact e1
  rw [upd_ne (ne_of_none e2 hp)]; exact e2
theorem pen_of {x y qual : Str} {st : Stmt} {f : Addr} {fd : FuncData} {p1 p2 p3 p4 p5 p6 p7 p8 p9 p10 : Pos} {j1 j2 j3} (F : Fun K x qual st f fd) (sc : FnScope [y] [y] (defScope st)) (hm : mg "list" = none)
    (hb : defBody st = [.Return (some (.List [.Call (.Name "list" p1) [.Subscript (.Name y p2) (.Slice none (some (.Constant (.int 63) j1 p3)) none p4) p5] [] p6, .Constant (.int 0) j2 p7, .Constant (.int 0) j3 p8] p9)) p10])
    (hd : (y == ("__debug__" : Str)) = false := by decide) (hcd : (y == ("__classdict__" : Str)) = false := by decide)
    (hg : ∀ (cdv : Value) (A : Around) (outer : List Env) (s : Shared) (H : Hp) (E : XK), Gl (CxB P w K mg base [y] qual st f cdv A outer s H E) "list" := by exact fun _ _ _ _ _ _ => rfl)
    (hv : ∀ (cdv : Value) (A : Around) (outer : List Env) (s : Shared) (H : Hp) (E : XK), Vis (CxB P w K mg base [y] qual st f cdv A outer s H E).env.scope y := by exact fun _ _ _ _ _ _ => Or.inl rfl)
    (hst : ∀ (cdv : Value) (A : Around) (outer : List Env) (s : Shared) (H : Hp) (E : XK), starEach [.Subscript (.Name y p2) (.Slice none (some (.Constant (.int 63) j1 p3)) none p4) p5] (CxB P w K mg base [y] qual st f cdv A outer s H E).env = (false, eval (.Subscript (.Name y p2) (.Slice none (some (.Constant (.int 63) j1 p3)) none p4) p5) (CxB P w K mg base [y] qual st f cdv A outer s H E).env) :: starEach [] (CxB P w K mg base [y] qual st f cdv A outer s H E).env := by exact fun _ _ _ _ _ _ => rfl) :
    FnG P w K mg base (L2.CX P w) 1 f fd [y] (spPen K) := by
  refine fnG_of F sc (fun vs H Q E ⟨a, ns, e, _⟩ => by rw [e]; rfl) (fun cdv A outer s H vs Q E hr ⟨a, ns, e, hS, q⟩ => ?_)
  rw [hb]
  refine ⟨_, pss_cons (ps_ret (pe_lst (L2.pa_cons (pe_callTy call_list_of (hg cdv A outer s H E) hm (by decide +kernel : bootBuiltins "list" = some (.type "list")) (L2.pa_cons (pe_slice sl_list (pe_var (i := 0) rfl (hv cdv A outer s H E) hd hcd) po_none (po_some pe_int)) L2.pa_nil (hst cdv A outer s H E)) (by decide) (by decide) (hst cdv A outer s H E) (by rfl)) (L2.pa_cons pe_int (L2.pa_cons pe_int L2.pa_nil (by rfl)) (by rfl)) (by rfl)))) pss_nil, ?_⟩
  subst e
  refine ⟨_, rfl, ?_⟩
  refine ⟨63, rfl, a, _, rfl, hS, fun l hl => ?_⟩
  refine ⟨l, _, rfl, .inl (SqL.of upd_same), fun c hc => ?_⟩
  refine ⟨(by show 3 ≤ sizeLine; decide), fun p hp => ?_⟩
  refine q p c _ (ne_of_none (a := c) upd_same hp).symm (fun b o e => upd3 hl hc hp e) upd_same ?_
  rw [upd_ne (ne_of_none (a := c) upd_same hp), upd_same, cut63]
/-! ### the law's def: its first statement makes the pen, the rest walks in the pen's world -/
def GL (N : List Str) : Gm := none :: some .pen :: List.replicate (N.length - 2) none
abbrev E0 : XK := fun _ _ _ => False
abbrev OL : Out := { nx := fun _ _ => False, rt := fun d _ => d = .bl true }
theorem law_of {cs : CS} {x y pn z qual : Str} {st : Stmt} {f g : Addr} {fd gd : FuncData} {p1 p2 p3 p4 p5 : Pos} {N : List Str} {rest : List Stmt} {j k c : Nat} {t : TfS} (F : Fun K x qual st f fd) (sc : FnScope N [y] (defScope st))
    (hb : defBody st = .Assign [.Name z p1] (.Call (.Name pn p2) [.Name y p3] [] p4) p5 :: rest) (hN : ∃ Nr, N = y :: z :: Nr)
    (G : FnG P w K mg base (L2.CX P w) j g gd [y] (spPen K)) (hm : mg pn = some (.ref g)) (hk' : PySem.W.keepIn K (.ref g) = true) (hbi : Binds K gd [y] [])
    (hj : j ≤ k) (hc : c ≤ lim)
    (hrest : ∀ (cdv : Value) (A : Around) (outer : List Env) (s : Shared) (H : Hp) (E : XK), RoomG k (A.deeper (envOfC qual (defScope st) s.heap.objs.size f cdv)) → PSU cs (CxB P w K mg base N qual st f cdv A outer s H E) W0 c rest t)
    (ht : t (GL N) [] OL)
    (hd : (y == ("__debug__" : Str)) = false := by decide) (hcd : (y == ("__classdict__" : Str)) = false := by decide) (hdp : (pn == ("__debug__" : Str)) = false := by decide)
    (hg : ∀ (cdv : Value) (A : Around) (outer : List Env) (s : Shared) (H : Hp) (E : XK), Gl (CxB P w K mg base N qual st f cdv A outer s H E) pn := by exact fun _ _ _ _ _ _ => rfl)
    (hv : ∀ (cdv : Value) (A : Around) (outer : List Env) (s : Shared) (H : Hp) (E : XK), Vis (CxB P w K mg base N qual st f cdv A outer s H E).env.scope y := by exact fun _ _ _ _ _ _ => Or.inl rfl)
    (hl : ∀ (cdv : Value) (A : Around) (outer : List Env) (s : Shared) (H : Hp) (E : XK), (CxB P w K mg base N qual st f cdv A outer s H E).env.scope.names.lookup z = some .local ∨ (CxB P w K mg base N qual st f cdv A outer s H E).env.scope.names.lookup z = some .cell := by first | exact fun _ _ _ _ _ _ => Or.inl rfl | exact fun _ _ _ _ _ _ => Or.inr rfl)
    (hst : ∀ (cdv : Value) (A : Around) (outer : List Env) (s : Shared) (H : Hp) (E : XK), starEach [.Name y p3] (CxB P w K mg base N qual st f cdv A outer s H E).env = (false, eval (.Name y p3) (CxB P w K mg base N qual st f cdv A outer s H E).env) :: starEach [] (CxB P w K mg base N qual st f cdv A outer s H E).env := by exact fun _ _ _ _ _ _ => rfl)
    (hsw : ∀ (cdv : Value) (A : Around) (outer : List Env) (s : Shared) (H : Hp) (E : XK), swapsWith (.Call (.Name pn p2) [.Name y p3] [] p4) (some (.Name z p1)) p5.line (CxB P w K mg base N qual st f cdv A outer s H E).env = pure false := by exact fun _ _ _ _ _ _ => rfl) :
    FnG P w K mg base (L2.CX P w) (k + 1) f fd [y] (spLaw K cs.T) := by
  refine fnG_of F sc (fun vs H Q E ⟨a, ns, e, _⟩ => by rw [e]; rfl) (fun cdv A outer s H vs Q E hr ⟨a, ns, e, hT, hS, hl1, hbits, q⟩ => ?_)
  rw [hb]
  obtain ⟨Nr, hN'⟩ := hN
  have nd : (CxB P w K mg base N qual st f cdv A outer s H E).N.Nodup := sc.nd
  have i0 : (CxB P w K mg base N qual st f cdv A outer s H E).N[0]? = some y := by show N[0]? = _; rw [hN']; rfl
  have i1 : (CxB P w K mg base N qual st f cdv A outer s H E).N[1]? = some z := by show N[1]? = _; rw [hN']; rfl
  have pcall : PE (CxB P w K mg base N qual st f cdv A outer s H E) (.Call (.Name pn p2) [.Name y p3] [] p4) (fun σ H1 Q1 => ∃ v, σ[0]? = some (some v) ∧ spPen K [v] H1 Q1 E0) := ⟨fun pins s1 σ H1 Q1 I ⟨v, hv0, h⟩ => by
    refine wpAny_Call_Name_kw (ld_glob I (hg cdv A outer s H E) hm (PySem.W.callWith_K (h₀ := base) I.ok.mod.kin hk' (thn ((L2.pa_cons (pe_var i0 (hv cdv A outer s H E) hd hcd) L2.pa_nil (hst cdv A outer s H E)).run p4 pins s1 σ H1 (fun vs H2 => spPen K vs H2 Q1 E0) I ⟨v, hv0, h⟩) fun us s2 ⟨vs, H2, I2, r, q2⟩ => ⟨I2.kIn, ?_⟩) (hst cdv A outer s H E) (by rfl)) hdp)
    have hlen : us.length = 1 := by rw [← r.length]; exact G.len _ _ _ _ q2
    refine run_g G (hr.mono hj) (fun e s' z => takes_call (W := WN) LamX.takes0 I2 z) I2 r ?_ q2
    have := hbi s2 us I2.kIn (by simpa using hlen)
    simpa using this⟩
  refine ⟨_, pss_cons (ps_set nd i1 (hl cdv A outer s H E) pcall (hsw cdv A outer s H E) (.inl rfl)) (twss_pss _ rest), ?_⟩
  subst e
  have est : L2.start N [V.ref a] = some (.ref a) :: none :: List.replicate Nr.length none := by
    rw [hN']; unfold L2.start; simp [List.replicate_succ]
  rw [est]
  refine ⟨.ref a, rfl, a, ns, rfl, hS, fun p cl H' hne hkp hp hcl => ?_⟩
  have fe : ∀ b, (⟨p, ⟨cl, cs.T, cs.cls⟩, [], [], []⟩ : U).F b → b = p := fun b f => by
    rcases f with (f | ⟨i, c, h1, _⟩) | f
    · exact f
    · simp at h1
    · cases f
  have A0 : Wd cs ⟨p, ⟨cl, cs.T, cs.cls⟩, [], [], []⟩ 0 H' := by
    refine ⟨⟨rfl, rfl⟩, ⟨ns.take 63, 0, 0, hp, hcl, ?_, by decide, by decide, by decide, Nat.pow_pos (by decide), fun i hi => bits_lt (hbits i (List.mem_of_mem_take hi)), hT.ext hkp⟩, fun z => hne (fe _ z).symm, rfl, fun i j b h => by simp at h, fun i h => by simp at h, fun b h => by (have h : b ∈ ([] : List Addr) := h; cases h), fun b h => by (have h : b ∈ ([] : List Addr) := h; cases h), fun i b c h => by simp at h⟩
    rw [List.length_take]; omega
  have At0 : At cs ⟨p, ⟨cl, cs.T, cs.cls⟩, [], [], []⟩ 0 H' (some (.ref a) :: some (.ref p) :: List.replicate Nr.length none) (GL N) := by
    refine ⟨A0, by unfold GL; simp [hN'], fun i d g => ?_⟩
    unfold GL at g
    match i, g with
    | 0, g => simp at g
    | 1, g => have g : D.pen = d := by simpa using g
              subst g; exact ⟨.ref p, rfl, rfl⟩
    | i + 2, g =>
      have g : (List.replicate (N.length - 2) (none : Option D))[i]? = some (some d) := by simpa using g
      have := List.eq_of_mem_replicate (List.mem_of_getElem? g)
      cases this
  refine (hrest cdv A outer s H E hr).run _ 0 H' _ _ OL _ At0 (by omega) ht ⟨fun _ _ _ _ _ _ z => z.elim, fun v d u2 H2 _ _ r ed => ?_, fun _ _ _ _ _ _ z => z.elim, fun _ _ _ _ _ _ z => z.elim, fun _ _ _ _ _ _ _ _ _ _ _ z => z.elim⟩
  have ed : d = .bl true := ed
  subst ed
  rw [show v = .bl true from r]
  exact q H2
end
/-! ### the end -/
/-- the law's promise at the heap behind the top, where tables of code objects stand empty -/
theorem law_callG {P : Program} {w : World} {K : PySem.W.Frag} {mg mb : Str → Option Value} {k : Nat} {fa a : Addr} {cs : List (Addr × Addr)} {T : List (Addr × Str)} {fd : FuncData} {x : Str} {s1 : Shared} {vs : List Value} {ns : List Int}
    (kin : K.In s1.heap) (gl : s1.heap.Ns mainGlobals mg) (bl : s1.heap.Ns builtinsNs mb) (bb : ∀ y : Str, y ≠ "__name__" → mb y = bootBuiltins y) (nl : s1.heap.NoLimit) (g0 : s1.gens = #[])
    (hT : ∀ p ∈ cs, s1.heap.get? p.2 = some { cls := .none, data := .fields #[] }) (nT : ∀ p ∈ cs, K.lookup p.2 = none) (cT : ∀ p ∈ cs, PySem.W.CodeHd s1.heap p.1 p.2) (tT : ∀ q ∈ T, ∃ p ∈ cs, p.2 = q.1)
    (bm0 : ∃ (bm : Addr) (ob : Obj), mg "__builtins__" = some (.ref bm) ∧ bm ≠ builtinsNs ∧ s1.heap.get? bm = some ob ∧ ob.cls = .type "module" ∧ ob.dict = some builtinsNs ∧ ob.data = .plain)
    (ga : s1.heap.get? a = some { cls := .type "list", data := .seq vs.toArray }) (ia : IntsAre vs ns) (l63 : ns.length ≤ 63) (bits : ∀ z ∈ ns, Builtin.Int.intBits z ≤ 1048576) (rm : Room k callerA)
    (F : ∀ base : Heap, K.In base → base.Ns mainGlobals mg → (∀ p ∈ cs, LamX.TabB base mg p.1 p.2) → FnG P w K mg base (L2.CX P w) k fa fd [x] (spLaw K T)) (bnd : ∀ (s : Shared) (u : Value), BindsTo s fd ⟨[u], []⟩ [(x, u)]) :
    codeAny (model P w) callerA (.call (.ref fa) ⟨[.ref a], []⟩) (fun r s' => r = .ok (.ret (.bool true)) ∧ OldK s1.heap s'.heap ∧ s'.os = s1.os ∧ AllBare s'.gens) s1 := by
  have rel := vals_ints ia
  have len := ia.length
  have naT : ∀ p ∈ cs, p.2 ≠ a := fun p hp z => by
    have h := hT p hp
    rw [z, ga] at h
    cases (congrArg Obj.data (Option.some.inj h) : Data.seq vs.toArray _ = Data.fields #[])
  have main : ∀ H : Hp, (∀ p ∈ cs, H p.2 = some (.tbl #[])) → (∀ b o, H b = some o → (b = a ∧ K.lookup a = none ∧ ∃ ob xs, o = .frz ob (.lst xs)) ∨ ((∃ p ∈ cs, p.2 = b) ∧ o = .tbl #[])) → SqL K H a (ns.map V.int) → HOk P w H s1.heap →
      codeAny (model P w) callerA (.call (.ref fa) ⟨[.ref a], []⟩) (fun r s' => r = .ok (.ret (.bool true)) ∧ OldK s1.heap s'.heap ∧ s'.os = s1.os ∧ AllBare s'.gens) s1 := by
    intro H tabs only sq hok
    have nop : ∀ {b : Addr} {o : Obj}, s1.heap.get? b = some o → o.data ≠ .seq vs.toArray → o.data ≠ .fields #[] → H b = none := by
      intro b o e d1 d2
      rcases hq : H b with _ | u
      · rfl
      · rcases only b u hq with ⟨eb, _⟩ | ⟨⟨p, hp, eb⟩, _⟩
        · subst eb
          rw [ga] at e; cases e
          exact absurd rfl d1
        · subst eb
          rw [hT p hp] at e; cases e
          exact absurd rfl d2
    have nsB : ∀ {b : Addr} {m : Str → Option Value}, s1.heap.Ns b m → (hidT s1.heap H).Ns b m := by
      rintro b m ⟨o, es, ep, e, d, r⟩
      refine ⟨o, es, ep, hidT_get e (nop e ?_ ?_), d, r⟩ <;> (rw [d]; nofun)
    have kinB : K.In (hidT s1.heap H) := by
      intro b o e
      refine hidT_get (kin b o e) ?_
      rcases hq : H b with _ | u
      · rfl
      · rcases only b u hq with ⟨eb, out, _⟩ | ⟨⟨p, hp, eb⟩, _⟩
        · subst eb; rw [out] at e; cases e
        · subst eb; rw [nT p hp] at e; cases e
    obtain ⟨mc, n1, n2⟩ := nl
    have md : Mod K mg (hidT s1.heap H) := ⟨kinB, nsB gl, ⟨mb, nsB bl, bb⟩, ⟨mc, nsB n1, n2⟩⟩
    have tb : ∀ p ∈ cs, LamX.TabB (hidT s1.heap H) mg p.1 p.2 := fun p hp => by
      obtain ⟨bm, ob, b1, b2, b3, b4, b5, b6⟩ := bm0
      obtain ⟨og, es, ep, eg, dg, _⟩ := gl
      have k1 : mainGlobals ≠ p.2 := fun z => by
        have h := hT p hp
        rw [← z, eg] at h; cases h; cases dg
      have k2 : bm ≠ mainGlobals := fun z => by
        rw [z, eg] at b3; cases b3
        rw [dg] at b6; cases b6
      have k3 : bm ≠ p.2 := fun z => by
        rw [z, hT p hp] at b3; cases b3; cases b6
      refine ⟨?_, ⟨bm, ob, b1, b2, k2, k3, hidT_get b3 (nop b3 (by rw [b6]; nofun) (by rw [b6]; nofun)), b4, b5, b6⟩, k1⟩
      obtain ⟨o, us, file, tf, flags, tg, inF, text, tt, e1, r1, r2, r3, r⟩ := cT p hp
      refine ⟨o, us, file, tf, flags, tg, inF, text, tt, hidT_get e1 (nop e1 (by rw [r2]; nofun) fun z => ?_), r1, r2, r3, r⟩
      rw [r2] at z; cases z; simp at r3
    have env : Env0 P w K mg (hidT s1.heap H) callerA [] s1 H := by
      refine ⟨rfl, md, fun b o e => of_hidT e, Nat.le_of_eq (hidT_size _ _), trivial, fun b hb => ?_, hok, .of_eq g0⟩
      exact absurd (show b ∈ ([] : List Addr) from hb) (by simp)
    have tbs : LamX.Tabs T H := fun q hq => by
      obtain ⟨p, hp, e⟩ := tT q hq
      rw [← e]; exact .nil (tabs p hp)
    have go := (F _ kinB (nsB gl) tb).go callerA [] s1 H ⟨[.ref a], []⟩ [.ref a] [.ref a] (fun v _ => v = .bl true) E0 ⟨rm, rfl⟩ env (bnd s1 (.ref a)) (.cons rfl .nil) ⟨a, ns, rfl, tbs, sq, l63, bits, fun _ => rfl⟩
    refine codeAny_mono go fun r s' h => ?_
    match r, h with
    | .error e, h => exact (by obtain ⟨_, _, _, _, _, _, _, _, _, _, _, z⟩ := h; exact z.2.elim)
    | .ok .next, h => exact False.elim h
    | .ok .brk, h => exact False.elim h
    | .ok .cont, h => exact False.elim h
    | .ok (.ret u), h =>
      obtain ⟨v, H', os, bare, un, hok', r', ev⟩ := h
      have ev : v = .bl true := ev
      subst ev
      have eu : u = Value.bool true := r'
      subst eu
      have grown : ∀ p ∈ cs, ∃ more : Array Value, s'.heap.get? p.2 = some { cls := .none, data := .fields more } := fun p hp => by
        obtain ⟨more, z⟩ := un.tbls p.2 #[] (tabs p hp)
        exact ⟨_, hok' p.2 _ z⟩
      have same : ∀ b o, (∀ p ∈ cs, p.2 ≠ b) → s1.heap.get? b = some o → s'.heap.get? b = some o := fun b o nb e => by
        rcases hq : H b with _ | u2
        · refine un.keep b o e hq (fun z => ?_) (by simp)
          exact absurd (show b ∈ ([] : List Addr) from z) (by simp)
        · rcases only b u2 hq with ⟨_, _, ob, xs, eo⟩ | ⟨⟨p, hp, eb⟩, _⟩
          · subst eo
            have t1 := (hok b _ hq).1
            have t2 := (hok' b _ (un.frzs b ob _ hq)).1
            rw [e] at t1; cases t1
            exact t2
          · exact absurd eb (nb p hp)
      refine ⟨rfl, ⟨fun b o e => ?_, fun b o e => ?_⟩, os, bare⟩
      · by_cases hb : ∃ p ∈ cs, p.2 = b
        · obtain ⟨p, hp, eb⟩ := hb
          subst eb
          obtain ⟨more, hm⟩ := grown p hp
          have e2 := hT p hp
          rw [e] at e2; cases e2
          exact .inr (.inl ⟨((cT p hp).tab (hT p hp)).isCodeTable, rfl, #[], more, rfl, by rw [Array.empty_append]; exact hm⟩)
        · exact .inl (same b o (fun p hp z => hb ⟨p, hp, z⟩) e)
      · by_cases hb : ∃ p ∈ cs, p.2 = b
        · obtain ⟨p, hp, eb⟩ := hb
          subst eb
          obtain ⟨more, hm⟩ := grown p hp
          exact ⟨_, hm⟩
        · exact ⟨o, same b o (fun p hp z => hb ⟨p, hp, z⟩) e⟩
  have l1 : ns.length ≤ sizeLine := Nat.le_trans l63 (by decide)
  have hdec : ∀ b, Decidable (∃ p ∈ cs, p.2 = b) := fun b => Classical.propDecidable _
  rcases hk : K.lookup a with _ | o
  · refine main (fun b => if b = a then some (.frz { cls := .type "list", data := .seq vs.toArray } (.lst (ns.map V.int))) else if ∃ p ∈ cs, p.2 = b then some (.tbl #[]) else none) (fun p hp => ?_) (fun b o h => ?_) (.inl (.inr ⟨{ cls := .type "list", data := .seq vs.toArray }, by simp⟩)) (fun b u z => ?_)
    · simp only [if_neg (naT p hp)]
      exact if_pos ⟨p, hp, rfl⟩
    · split at h
      · rename_i hb
        cases h
        exact .inl ⟨hb, hk, _, _, rfl⟩
      · split at h
        · rename_i hb
          cases h
          exact .inr ⟨hb, rfl⟩
        · cases h
    · dsimp only at z
      split at z
      · rename_i hb
        subst hb
        cases z
        exact ⟨ga, by rw [List.length_map]; exact l1, vs, _, rel, ga⟩
      · split at z
        · rename_i hb
          obtain ⟨p, hp, eb⟩ := hb
          subst eb
          cases z
          exact hT p hp
        · cases z
  · have e := kin a o hk
    rw [ga] at e
    cases e
    refine main (fun b => if ∃ p ∈ cs, p.2 = b then some (.tbl #[]) else none) (fun p hp => if_pos ⟨p, hp, rfl⟩) (fun b o h => ?_) (.inr ⟨_, vs.toArray, _, hk, rfl, rfl, rfl, ?_, by simpa using rel⟩) (fun b u z => ?_)
    · split at h
      · rename_i hb
        cases h
        exact .inr ⟨hb, rfl⟩
      · cases h
    · rw [List.size_toArray, len]; exact l1
    · dsimp only at z
      split at z
      · rename_i hb
        obtain ⟨p, hp, eb⟩ := hb
        subst eb
        cases z
        exact hT p hp
      · cases z
theorem walkG {l : PySem.W.OpenLaw} {k : Nat} {q : Program} {loose : List Str} {XP : (Str → Option Value) → Heap → Prop} {YP : World → Heap → Prop} {d : DefRec} {K : Params → PySem.W.Frag} {x : Str}
    (most : l.most = some 63) (dfl : d.params.defaults = []) (rm : Room k callerA) (hY : ∀ (w : World) (h : Heap), YP w h → (K w.params).In h)
    (F : ∀ (w : World) (mg : Str → Option Value) (fa : Addr) (h : Heap), (K w.params).In h → h.Ns mainGlobals mg → mg d.name = some (.ref fa) → (∀ (d' : DefRec) (y : Str) (c P : Addr), (recsOf q).find? (fun e => e.name == y) = some d' → PySem.W.tabIn (K w.params) y = some (c, P) → PySem.W.CodeHd h c P ∧ h.get? P = some { cls := .none, data := .fields #[] }) →
      ∃ (fd : FuncData) (cs : List (Addr × Addr)) (T : List (Addr × Str)), (∀ p ∈ cs, PySem.W.CodeHd h p.1 p.2 ∧ h.get? p.2 = some { cls := .none, data := .fields #[] }) ∧ (∀ p ∈ cs, (K w.params).lookup p.2 = none) ∧ (∀ t ∈ T, ∃ p ∈ cs, p.2 = t.1) ∧ (∀ (s : Shared) (u : Value), BindsTo s fd ⟨[u], []⟩ [(x, u)]) ∧
        ∀ base : Heap, (K w.params).In base → base.Ns mainGlobals mg → (∀ p ∈ cs, LamX.TabB base mg p.1 p.2) → FnG l.prog w (K w.params) mg base (L2.CX l.prog w) k fa fd [x] (spLaw (K w.params) T)) :
    PySem.W.WalkO q loose XP YP l.row.toRowW d [] (fun f vs => PySem.call f vs) := by
  refine Att.attach_callB most dfl fun w s0 s1 mg mb fa o pm cd doc a vs ns G Y ho hd hcd hmg hobj hints hlen hbits hg => ?_
  have kin := hY w _ Y
  obtain ⟨fd, cs, T, h1, h2, h3, b1, b2⟩ := F w mg fa _ kin G.T.g hmg (fun d' y c P hr ht => PySem.W.tab_of G.T kin hr ht)
  exact law_callG kin G.T.g G.T.b G.T.builtins G.T.nolimit hg (fun p hp => (h1 p hp).2) h2 (fun p hp => (h1 p hp).1) h3 G.T.bmain hobj hints hlen hbits rm b2 b1
end Ev
-- EvV
namespace Ev
open PySem PySem.Spec PyProof.Rows L2 ClX
theorem RoomG.hu {k : Nat} {A : Around} (r : RoomG k A) : A.units + 64 < cLine := by have := r.room.un; omega
theorem RoomG.hu1 {k : Nat} {A : Around} (r : RoomG k A) : A.units + 1 < cLine := by have := r.room.un; omega
theorem takes0 {X : Cx} : Takes X W0 := LamX.takes0
theorem takesL {X : Cx} {A : Around} {outer : List Env} {s : Shared} {H : Hp} {E : XK} {scope : Scope} {f c' : Addr} : Takes (LamX.lamCx X A outer s H E scope f c') (WE E) := takes_of rfl rfl rfl rfl
section
variable {cs : CS} {X : Cx} {W : WX} {c c1 c2 c3 : Nat} {a b e : Expr} {pos : Pos}
theorem px_le {t : TfE} (h : PX cs X W c e t) (hc : c ≤ c1) : PX cs X W c1 e t := ⟨fun u n H σ Γ post xp Q A hn q kn kx => h.run u n H σ Γ post xp Q A (by omega) q (kn.le (by omega)) (kx.le (by omega))⟩
/-! ### isinstance of a caught exception -/
structure IsxF (K : PySem.W.Frag) (cs : CS) (os : List Nat) (sub : Nat → Nat → Bool) : Prop where
  at_ : ∀ c ∈ os, ∃ C, cs.cls[c]? = some (.ref C) ∧ PySem.W.findIn K (.ref C) "__class__" = some (some (.builtin "object.__class__"))
end
end Ev
-- EvX
namespace PySem
open Builtin
theorem ev_int_mul (a : Int) (t : Tok) (l : Addr) (c : Value) (d : Option Addr) (sl : Array (Option Value)) :
    Meets (Builtin.«int.__mul__» ⟨[.int a t, .ref l], []⟩) (fun _ R s => s.heap.get? l = some { cls := c, dict := d, data := .plain, slots := sl } ∧ R (.ok (.ret Value.notImplemented)) s) :=
  .of_wp fun prog w A R s h => by obtain ⟨hp, g, d, tk, os⟩ := s; obtain ⟨hl, h⟩ := h; wp_walk; exact ⟨_, rfl, h⟩
end PySem
namespace PySem
open Builtin
theorem ev_int_add (a : Int) (t : Tok) (l : Addr) (c : Value) (d : Option Addr) (sl : Array (Option Value)) :
    Meets (Builtin.«int.__add__» ⟨[.int a t, .ref l], []⟩) (fun _ R s => s.heap.get? l = some { cls := c, dict := d, data := .plain, slots := sl } ∧ R (.ok (.ret Value.notImplemented)) s) :=
  .of_wp fun prog w A R s h => by obtain ⟨hp, g, d, tk, os⟩ := s; obtain ⟨hl, h⟩ := h; wp_walk; exact ⟨_, rfl, h⟩
theorem ev_int_sub (a : Int) (t : Tok) (l : Addr) (c : Value) (d : Option Addr) (sl : Array (Option Value)) :
    Meets (Builtin.«int.__sub__» ⟨[.int a t, .ref l], []⟩) (fun _ R s => s.heap.get? l = some { cls := c, dict := d, data := .plain, slots := sl } ∧ R (.ok (.ret Value.notImplemented)) s) :=
  .of_wp fun prog w A R s h => by obtain ⟨hp, g, d, tk, os⟩ := s; obtain ⟨hl, h⟩ := h; wp_walk; exact ⟨_, rfl, h⟩
end PySem
namespace PySem.W
open PySem PySem.Calls PyProof.Rows
section
variable {prog : Program} {w : World} {A : Around} {E : Value → Shared → Prop} {s : Shared} {K : Frag} {x C L f g : Addr} {h₀ : Heap} {m : Str → Option Value} {ox : Obj} {od : Option Obj}
/-- i op x, x of an own class that reflects op -/
theorem ev_binR {op : Operator} {i : Int} {t : Tok} {Q : Value → Shared → Prop} (F : Fr h₀ L s.heap m) (X₀ : K.In h₀) (I : InstAt s.heap x ox C od) (hc : selfFirst K C = true) (hs : findIn K (.ref C) (PySem.dunder op.info.2) = some (some (.ref g)))
    (hr : findIn K (.ref C) (dunderR op.info.2) = some (some (.ref f))) (hf : isFn K (.ref f) = true) (hsub : subIn K (.ref C) (.type "int") = some false) (hfill : fillsNumberSlot (.type "int") op.info.2 = pure true)
    (hd : ∀ {Q' : Option Value → Shared → Prop}, Q' none s → wpAny (model prog w) A (tryMethod (.int i t) (PySem.dunder op.info.2) (.ref x)) Q' E s)
    (h : wpAny (model prog w) A (call (.ref f) [.ref x, .int i t]) (CmpBack Q) E s) : wpAny (model prog w) A (binaryOp op (.int i t) (.ref x)) Q E s := by
  have X := X₀.keeps F.keep
  obtain ⟨cd, rest, hcd, hm⟩ := ksp_first hc
  rcases hi : op.info with ⟨sym, nm'⟩
  rw [hi] at hs hr hfill hd
  dsimp only at hs hr hfill hd
  have one := ksp_try X I hr hf h
  obtain ⟨hh, gg, d, tt, os⟩ := s
  have L1 : Looks (model prog w) hh (typeOf (.ref x)) (.ref C) := I.type
  have L2 : Looks (model prog w) hh (typeOf (.int i t)) (.type "int") := Looks.of_pure rfl
  have L3 : Looks (model prog w) hh (fillsNumberSlot (.ref C) nm') true := fills_K X hcd hm hs
  have L4 : Looks (model prog w) hh (fillsNumberSlot (.type "int") nm') true := Looks.of_pure hfill
  have L5 : Looks (model prog w) hh (isSubtype (.ref C) (.type "int")) false := looks_subIn X hsub
  have L7 : Looks (model prog w) hh (numberSlotInPython (.type "int") nm') false := Looks.of_pure rfl
  have hne : (Value.type "int" == Value.ref C) = false := Bool.eq_false_iff.mpr fun q => by cases beq_iff_eq.mp q
  simp only [binaryOp, hi]
  refine wpAny_holding (wpAny_bind ?_)
  unfold binaryOp1
  refine wpAny_bind (L2.at (wpAny_bind (L1.at (wpAny_bind (L4.at ?_)))))
  simp only [hne, Bool.false_eq_true, if_false]
  ksp_lk
  refine hd ?_
  ksp_lk
  refine wpAny_mono one (fun r s' hr' => ?_) fun _ _ e => e
  obtain ⟨v, rfl, hq⟩ := hr'
  ksp_lk
  exact hq
end
end PySem.W
namespace Ev
open PySem PySem.Spec PyProof.Rows L2 ClX
def DecI (nm : String) : Prop := ∀ (prog : Program) (w : World) (A : Around) (E : Value → Shared → Prop) (s : Shared) (i : Int) (t : Tok) (x : Addr) (c : Value) (d : Option Addr) (sl : Array (Option Value)) (Q' : Option Value → Shared → Prop), s.heap.get? x = some { cls := c, dict := d, data := .plain, slots := sl } → Q' none s →
  wpAny (model prog w) A (tryMethod (.int i t) (PySem.dunder nm) (.ref x)) Q' E s
theorem decI_of {nm : String} {B : Builtin} {id : String} (hs : Slot "int" (PySem.dunder nm) id) (he : entryFor table id = some B) (ha : ∀ a b, argsOk id ⟨[a, b], []⟩)
    (hm : ∀ (a : Int) (t : Tok) (l : Addr) (c : Value) (d : Option Addr) (sl : Array (Option Value)), Meets (B ⟨[.int a t, .ref l], []⟩) (fun _ R s => s.heap.get? l = some { cls := c, dict := d, data := .plain, slots := sl } ∧ R (.ok (.ret Value.notImplemented)) s)) : DecI nm := fun prog w A E s i t x c d sl Q' hx q =>
  @wpAny_tryMethod_declines (model prog w) A E s (.int i t) (.ref x) "int" (PySem.dunder nm) id Q' (typeIs_int s i t) hs (call_meets hs (typeIs_int s i t) he (ha _ _) (hm i t x c d sl) ⟨hx, rfl, q⟩)
theorem decI_mul : DecI "mul" := @decI_of "mul" _ "int.__mul__" F.slot_int_mul F.entry_int_mul (fun a b => F.args_int_mul_2 a b) ev_int_mul
theorem decI_add : DecI "add" := @decI_of "add" _ "int.__add__" F.slot_int_add F.entry_int_add (fun a b => F.args_int_add_2 a b) ev_int_add
theorem decI_sub : DecI "sub" := @decI_of "sub" _ "int.__sub__" F.slot_int_sub F.entry_int_sub (fun a b => F.args_int_sub_2 a b) ev_int_sub
/-- an own class that reflects op beside ints -/
structure OrF (K : PySem.W.Frag) (cs : CS) (nc : Nat) (op : Operator) : Prop where
  at_ : ∀ C, cs.cls[nc]? = some (.ref C) → PySem.W.selfFirst K C = true ∧ (∃ g : Addr, PySem.W.findIn K (.ref C) (PySem.dunder op.info.2) = some (some (.ref g))) ∧ PySem.W.subIn K (.ref C) (.type "int") = some false
section
variable {cs : CS} {X : Cx} {W : WX} {c c1 c2 c3 : Nat} {a b e : Expr} {pos : Pos} {k j ar nc : Nat}
def tOwnR (nc : Nat) (S : SpX) : Tf2 := fun d1 d2 M post xp => ∃ i fs, d1 = .int i ∧ insOf M d2 = some (nc, fs) ∧ S [d2, d1] M post xp
theorem po_ownR {op : Operator} {S : SpX} (ni : NoNI cs) (O : OrF X.K cs nc op) (dc : DecI op.info.2) (hfill : fillsNumberSlot (.type "int") op.info.2 = pure true) (F : MtD X.prog X.w X.K X.mg X.base cs k nc (dunderR op.info.2) 2 c S) (hr : RoomG j X.A) (tk : Takes X W) (hk : k ≤ j := by decide) : PO2 cs X W c (binaryOp op) (tOwnR nc S) := ⟨fun u n H σ d1 d2 x y post xp Q A hn rx ry ⟨i, fs, e1, hi, hS⟩ kn kx => TO.mk fun pins s v w I rv rw' => by
  obtain ⟨C, f, fd, ps, hC, cl, hme, F, hb⟩ := F.ex
  obtain ⟨h1, ⟨g, h2⟩, h3⟩ := O.at_ C hC
  have ry0 := ry
  have rx0 := rx
  have rv0 := rv
  subst e1
  rw [show x = .int i from rx] at rv
  obtain ⟨t, ev⟩ := rv
  subst ev
  obtain ⟨a', C', dx, us0, ey, hC', gH, rf⟩ := ins_rep A hi ry
  rw [hC] at hC'; cases hC'
  subst ey
  obtain rfl : w = Value.ref a' := rw'
  obtain ⟨mA, O1, _⟩ := ins_get I.hok gH
  obtain ⟨od, J, _⟩ := O1.look
  obtain ⟨m, hF⟩ := I.fr
  have := O1.obj
  refine PySem.W.ev_binR hF I.ok.mod.kin J h1 h2 hme.at_ hme.fn h3 hfill (fun q => dc _ _ _ _ _ i t a' _ _ _ _ O1.obj q) ?_
  exact run_op ni F hb (hr.mono hk) tk A hn I (RepL.cons ry0 (RepL.cons rx0 RepL.nil)) (.cons rfl (.cons rv0 .nil)) rfl hS kn kx⟩
end
end Ev
-- EvY
namespace Ev
open PySem PySem.Spec PyProof.Rows L2
/-! ### lists of ints as data of the library; the pen's cell -/
theorem dpA_ints {K : PySem.W.Frag} {H : Hp} : ∀ ns : List Int, DpAll K H (ns.map V.int) (ns.map PyData.int)
  | [] => .nil
  | n :: ns => .cons (.int n) (dpA_ints ns)
theorem lay_ints : ∀ ns : List Int, PyData.canLayAll0 (ns.map PyData.int) = true
  | [] => rfl
  | n :: ns => by
    show (true && PyData.canLayAll0 (ns.map PyData.int)) = true
    rw [lay_ints ns]; rfl
theorem dep_ints : ∀ ns : List Int, PyData.depthAll (ns.map PyData.int) = 0
  | [] => rfl
  | n :: ns => by
    show max 0 (PyData.depthAll (ns.map PyData.int)) = 0
    rw [dep_ints ns]; rfl
theorem shaped_ints (ns : List Int) : SeqAt.shaped (.list (ns.map PyData.int)) = true := by
  unfold SeqAt.shaped
  show (PyData.canLayAll0 (ns.map PyData.int) && decide (PyData.depthAll (ns.map PyData.int) + 1 ≤ 64)) = true
  rw [lay_ints, dep_ints]; rfl
theorem eqv_nil (ns : List Int) : PyData.eqv (.list (ns.map PyData.int)) (.list []) = ns.isEmpty := by
  cases ns <;> rfl
section
variable {cs : CS} {X : Cx} {W : WX} {c c1 c2 c3 : Nat} {a b e : Expr} {pos : Pos} {k : Nat}
def tPenIf (i t l : Nat) : TfS := fun Γ M O => ∃ tk, Γ[i]? = some (some .pen) ∧ Γ[t]? = some (some (.int tk)) ∧ (∀ r, Cel r → O.nx (Γ.set l (some (.int r))) M) ∧ O.nx Γ M
/-- if pen[0] != []: cell = pen[0][int(taken) % len(pen[0])] -/
theorem st_penIf (i t l : Nat) {x y z : Str} {p1 p2 p3 p4 p5 p6 p7 p8 p9 p10 p11 p12 p13 p14 p15 p16 p17 p18 p19 p20 p21 : Pos} {j1 j2 j3} (hr : RoomG k X.A) (hi' : X.mg "int" = none) (hl' : X.mg "len" = none) (hN : X.N.Nodup)
    (hi : X.N[i]? = some x := by rfl) (ht : X.N[t]? = some y := by rfl) (hl : X.N[l]? = some z := by rfl)
    (hv : Vis X.env.scope x := by first | exact Or.inl rfl | exact Or.inr (Or.inl rfl) | exact Or.inr (Or.inr rfl)) (hvy : Vis X.env.scope y := by first | exact Or.inl rfl | exact Or.inr (Or.inl rfl) | exact Or.inr (Or.inr rfl)) (hlz : X.env.scope.names.lookup z = some .local := by rfl)
    (hd : (x == ("__debug__" : Str)) = false := by decide) (hcd : (x == ("__classdict__" : Str)) = false := by decide) (hdy : (y == ("__debug__" : Str)) = false := by decide) (hcdy : (y == ("__classdict__" : Str)) = false := by decide)
    (hx1 : PlainIx (.Constant (.int 0) j1 p2) := by exact fun _ _ => rfl) (hx2 : PlainIx (.Constant (.int 0) j2 p8) := by exact fun _ _ => rfl) (hx3 : PlainIx (.Constant (.int 0) j3 p15) := by exact fun _ _ => rfl)
    (hx4 : PlainIx (.BinOp (.Call (.Name "int" p10) [.Name y p11] [] p12) .Mod (.Call (.Name "len" p13) [.Subscript (.Name x p14) (.Constant (.int 0) j3 p15) p16] [] p17) p18) := by exact fun _ _ => rfl)
    (hgi : Gl X "int" := by rfl) (hgl : Gl X "len" := by rfl)
    (hs : swapsWith (.Subscript (.Subscript (.Name x p7) (.Constant (.int 0) j2 p8) p9) (.BinOp (.Call (.Name "int" p10) [.Name y p11] [] p12) .Mod (.Call (.Name "len" p13) [.Subscript (.Name x p14) (.Constant (.int 0) j3 p15) p16] [] p17) p18) p19) (some (.Name z p6)) p20.line X.env = pure false := by first | kernel_rfl | rfl)
    (hst1 : starEach [.Name y p11] X.env = (false, eval (.Name y p11) X.env) :: starEach [] X.env := by rfl)
    (hst2 : starEach [.Subscript (.Name x p14) (.Constant (.int 0) j3 p15) p16] X.env = (false, eval (.Subscript (.Name x p14) (.Constant (.int 0) j3 p15) p16) X.env) :: starEach [] X.env := by rfl) :
    PST cs X W 0 (.If (.Compare (.Subscript (.Name x p1) (.Constant (.int 0) j1 p2) p3) [.NotEq] [.List [] p4] p5) [.Assign [.Name z p6] (.Subscript (.Subscript (.Name x p7) (.Constant (.int 0) j2 p8) p9) (.BinOp (.Call (.Name "int" p10) [.Name y p11] [] p12) .Mod (.Call (.Name "len" p13) [.Subscript (.Name x p14) (.Constant (.int 0) j3 p15) p16] [] p17) p18) p19) p20] [] p21) (tPenIf i t l) := ⟨fun u n H σ Γ O E A hn ⟨tk, g, gt, h1, h2⟩ k' => by
  have hu : X.A.units + 64 < cLine := by have := hr.room.un; omega
  refine tws_of (ps_if (pt_cmpR (op_neD hu) (pe_ix ix_list (pe_var hi hv hd hcd) pe_int hx1) (L2.pe_lst L2.pa_nil) (nomark _))
    (pss_cons (ps_set hN hl (.inl hlz) (pe_ix ix_list (pe_ix ix_list (pe_var hi hv hd hcd) pe_int hx2) (pe_op op_mod (pe_callTy call_int1 hgi hi' PyProof.Rows.boot_int (L2.pa_cons (pe_var ht hvy hdy hcdy) L2.pa_nil hst1) (by decide) (by decide) hst1 (by rfl)) (pe_callB call_len_seq hgl hl' PySem.boot_len (L2.pa_cons (pe_ix ix_list (pe_var hi hv hd hcd) pe_int hx3) L2.pa_nil hst2) (by decide) (by decide) hst2 (by rfl))) hx4) hs (.inr hlz)) pss_nil) pss_nil) ?_
  obtain ⟨ns, tt, r0, a1, a2, a3, a4, a5, a6, a7, a8, a9⟩ := A.pen
  have a1 : H u.p = some (.lst [.ref u.k.cl, .int tt, .int r0]) := a1
  have a2 : H u.k.cl = some (.lst (ns.map V.int)) := a2
  have gp := pen_at A g
  obtain ⟨vt, ht1, ht2⟩ := A.sl t _ gt
  have ht1 : σ[t]? = some (some (.int tk)) := by rw [ht1, show vt = .int tk from ht2]
  refine ⟨_, gp, u.p, _, 0, .ref u.k.cl, rfl, rfl, SqL.of a1, rfl, ?_⟩
  refine ⟨by decide, fun q hq => ?_⟩
  have n1 : upd H q (.lst []) u.p = some (.lst [.ref u.k.cl, .int tt, .int r0]) := by rw [upd_ne (ne_of_none a1 hq)]; exact a1
  have n2 : upd H q (.lst []) u.k.cl = some (.lst (ns.map V.int)) := by rw [upd_ne (ne_of_none a2 hq)]; exact a2
  refine ⟨.list (ns.map PyData.int), .list [], .lst (SqL.of n2) (dpA_ints ns), .lst (SqL.of upd_same) .nil, shaped_ints ns, by decide +kernel, !ns.isEmpty, by rw [eqv_nil], ?_⟩
  have kk : Keep H (upd H q (.lst [])) := Keep.new hq
  have A1 : At cs u n (upd H q (.lst [])) σ Γ := A.step kk.nx (kk.wd A.toWd)
  cases he : ns.isEmpty with
  | true => exact k'.nx Γ σ u _ kk.nx (A1.up (by omega)) h2
  | false =>
    have hlen : 0 < ns.length := by
      cases ns with
      | nil => simp at he
      | cons a b => simp
    refine ⟨_, gp, u.p, _, 0, .ref u.k.cl, rfl, rfl, SqL.of n1, rfl, ?_⟩
    refine ⟨.int tk, ht1, .inl ⟨tk, rfl, ?_⟩⟩
    refine ⟨_, gp, u.p, _, 0, .ref u.k.cl, rfl, rfl, SqL.of n1, rfl, ?_⟩
    refine ⟨u.k.cl, ns.map V.int, rfl, .inl (SqL.of n2), ?_⟩
    have hpos : (0 : Int) < ((ns.map V.int).length : Int) := by rw [List.length_map]; omega
    refine ⟨tk, _, rfl, rfl, hpos, ?_⟩
    have hm0 := Int.emod_nonneg tk (Int.ne_of_gt hpos)
    have hm1 := Int.emod_lt_of_pos tk hpos
    rw [List.length_map] at hm0 hm1
    have hat : ∃ r, r ∈ ns ∧ atI (ns.map V.int) (tk % ((ns.map V.int).length : Int)) = some (.int r) := by
      rw [List.length_map]
      obtain ⟨m, hm⟩ : ∃ m : Nat, tk % (ns.length : Int) = (m : Int) := ⟨(tk % (ns.length : Int)).toNat, by omega⟩
      rw [hm] at hm1 ⊢
      have hml : m < ns.length := by omega
      refine ⟨ns[m], List.getElem_mem hml, ?_⟩
      unfold atI
      have : ixN (ns.map V.int).length (m : Int) = some m := by
        unfold ixN
        rw [List.length_map]
        simp
        try omega
      rw [this]
      simp [hml]
    obtain ⟨r, hr1, hr2⟩ := hat
    refine ⟨u.k.cl, ns.map V.int, _, .int r, rfl, rfl, SqL.of n2, hr2, ?_⟩
    exact k'.nx _ _ u _ kk.nx ((A1.up (by omega)).set (d := .int r) (v := .int r) rfl) (h1 r (a8 r hr1))⟩
end
end Ev
-- EvZ
namespace Ev
open PySem PySem.Spec PyProof.Rows L2
/-! ### the draw, as all laws have it -/
def tDraw (a1 a2 b1 b2 b3 b4 c1 c2 c3 c4 : Int) : TfS := (tSeq (tIf ((tBin (tPen2 0) (tCon (.int 0)) tGt).bl)
    (tSeq (tAsg 2 (tBin (tCall (tCons (tPen2 0) tNil) tInt) (tVar 1) tMod))
    (tSeq (tPenS 0 (tBin (tCall (tCons (tPen2 0) tNil) tInt) (tVar 1) tFdiv))
    (tSeq (tRet (tVar 2))
    tSkip)))
    tSkip)
    (tPen1 0 3 (tSeq (tAsg 4 (tBin (tBin (tCon (.int a1)) (tVar 3) tMul) (tCon (.int a2)) tAdd))
    (tSeq (tPenIf 0 3 4)
    (tSeq (tIf (tAndT ((tBin (tVar 3) (tCall (tCons (tPen0 0) tNil) tLen) tLt).bl) ((tBin (tCall (tCons (tVar 4) tNil) tAbs) (tBin (tCon (.int 10)) (tCon (.int 18)) tPow) tGe).bl))
    (tSeq (tAsg 5 (tBin (tBin (tCon (.int 2)) (tBin (tCall (tCons (tVar 4) tNil) tAbs) (tBin (tCon (.int 10)) (tCon (.int 18)) tPow) tSub) tMul) (tCall (tCons (tBin (tVar 4) (tCon (.int 0)) tLt) tNil) tInt) tAdd))
    (tSeq (tPenS 0 (tBin (tCall (tCons (tVar 5) tNil) tInt) (tVar 1) tFdiv))
    (tSeq (tRet (tBin (tCall (tCons (tVar 5) tNil) tInt) (tVar 1) tMod))
    tSkip)))
    tSkip)
    (tSeq (tAsg 6 (tBin (tCall (tCons (tBin (tBin (tBin (tBin (tCall (tCons (tVar 4) tNil) tInt) (tCon (.int b1)) tMod) (tBin (tCon (.int b2)) (tVar 3) tMul) tAdd) (tCon (.int b3)) tAdd) (tCon (.int 5)) tPow) tNil) tInt) (tCon (.int b4)) tMod))
    (tSeq (tAsg 6 (tBin (tCall (tCons (tBin (tBin (tBin (tBin (tVar 6) (tBin (tBin (tCon (.int 2)) (tVar 3) tMul) (tCon (.int c1)) tAdd) tMul) (tBin (tBin (tCon (.int c2)) (tVar 3) tMul) (tVar 3) tMul) tAdd) (tCon (.int c3)) tAdd) (tCon (.int 3)) tPow) tNil) tInt) (tCon (.int c4)) tMod))
    (tSeq (tRet (tBin (tCall (tCons (tBin (tVar 6) (tCon (.int 32)) tFdiv) tNil) tInt) (tVar 1) tMod))
    tSkip))))))))
def spDraw : SpX := fun ds M post _ => ∃ m : Int, ds = [.pen, .int m] ∧ 0 < m ∧ m.natAbs < 2 ^ 200 ∧ ∀ i : Int, 0 ≤ i → i < m → post (.int i) M
theorem rst_div {r m : Int} (h : Rst r) (hm : 0 < m) : Rst (r / m) := by
  obtain ⟨h0, h1⟩ := h
  refine ⟨Int.ediv_nonneg h0 (Int.le_of_lt hm), ?_⟩
  have h2 : r / m ≤ r := Int.ediv_le_self _ h0
  have h3 : 0 ≤ r / m := Int.ediv_nonneg h0 (Int.le_of_lt hm)
  omega
theorem lt_pow {x y a b : Int} {n : Nat} (hx0 : 0 ≤ x) (hx : x ≤ 2 ^ 64 * 2 ^ n) (h : 0 ≤ y) : True := trivial
theorem log_le {x : Int} {n : Nat} (hn : 0 < n) (h : x.natAbs < 2 ^ n) : x.natAbs.log2 + 1 ≤ n := by
  have := PySem.Flt.log2_lt_of hn h
  omega
theorem great_rst {cell m : Int} (hc : Cel cell) (hge : (10 : Int) ^ (18 : Int).toNat ≤ (if cell < 0 then -cell else cell)) (h0 : 0 < m) (k : Bool) : Rst ((2 * ((if cell < 0 then -cell else cell) - (10 : Int) ^ (18 : Int).toNat) + (if k then 1 else 0)) / m) := by
  refine rst_div ?_ h0
  unfold Cel at hc
  have e : (10 : Int) ^ (18 : Int).toNat = 1000000000000000000 := by decide
  rw [e] at hge ⊢
  have hb : (2 : Nat) ^ BB = 8 * 2 ^ (BB - 3) := by
    have : BB = 3 + (BB - 3) := by unfold BB; rfl
    rw [this, Nat.pow_add, show 3 + (BB - 3) - 3 = BB - 3 from by unfold BB; rfl]
  refine ⟨?_, ?_⟩
  · split <;> split at hge <;> cases k <;> simp <;> omega
  · rw [hb]
    generalize (2 : Nat) ^ (BB - 3) = z at hc ⊢
    split <;> split at hge <;> cases k <;> simp <;> omega
/-- constants as the laws have them -/
abbrev cst (x : Int) : Prop := 0 < x ∧ x < 2147483648
theorem draw_ok {a1 a2 b1 b2 b3 b4 c1 c2 c3 c4 : Int} {N : List Str} (hN : N.length = 7) (ha1 : cst a1) (ha2 : cst a2) (hb1 : cst b1) (hb2 : cst b2) (hb3 : cst b3) (hb4 : cst b4) (hc1 : cst c1) (hc2 : cst c2) (hc3 : cst c3) (hc4 : cst c4) :
    ∀ (ds : List D) (M : Store) (post : DP) (xp : XP), ds.length = 2 → spDraw ds M post xp → tDraw a1 a2 b1 b2 b3 b4 c1 c2 c3 c4 (G0 N ds) M { nx := fun _ M' => post .non M', rt := post, xx := fun _ => xp } := by
  rintro ds M post xp - ⟨m, rfl, h0, hm, hp⟩
  have eG : G0 N [.pen, .int m] = [some .pen, some (.int m), none, none, none, none, none] := by
    unfold G0
    rw [hN]; rfl
  rw [eG]
  have hw : ∀ i, CDivW i m := fun i => L2.wide_div (i := i) h0 hm (by decide) (by decide)
  have h2 : (2 : Int) ^ 64 = 18446744073709551616 := by decide
  refine ⟨rfl, fun r hr => ⟨_, rfl, fun h => ?_, fun h => ?_⟩⟩
  · refine ⟨rfl, fun r1 hr1 => ⟨_, rfl, _, rfl, h0, ?_⟩⟩
    refine ⟨rfl, fun r2 hr2 => ⟨_, rfl, _, rfl, hw _, rfl, _, rfl, rst_div hr2 h0, ?_⟩⟩
    exact ⟨_, rfl, hp _ (Int.emod_nonneg _ (by omega)) (Int.emod_lt_of_pos _ h0)⟩
  · refine ⟨rfl, by show 3 < 7; decide, fun t t0 t1 => ?_⟩
    have tb : t.natAbs < 2 ^ 4001 := by
      have e : ((2 : Int) ^ 4000) = ((2 ^ 4000 : Nat) : Int) := (Int.natCast_pow 2 4000).symm
      rw [e] at t1
      have : (2 : Nat) ^ 4001 = 2 * 2 ^ 4000 := by rw [Nat.pow_succ, Nat.mul_comm]
      rw [this]
      have hz : 0 < (2 : Nat) ^ 4000 := Nat.pow_pos (by decide)
      generalize (2 : Nat) ^ 4000 = z at *
      omega
    have sm : ∀ {x : Int}, cst x → x.natAbs < 2 ^ 32 := fun {x} h => by
      have e : (2 : Nat) ^ 32 = 4294967296 := by decide
      rw [e]; have := h.1; have := h.2; omega
    have big : ∀ {x : Int} {n : Nat}, x.natAbs < 2 ^ n → n ≤ BB - 3 → Cel x := fun {x n} h hn => Nat.lt_of_lt_of_le h (Nat.pow_le_pow_right (by decide) hn)
    have add : ∀ {x y : Int} {n : Nat}, x.natAbs < 2 ^ n → y.natAbs < 2 ^ n → (x + y).natAbs < 2 ^ (n + 1) := fun {x y n} hx hy => by
      rw [Nat.pow_succ]
      generalize (2 : Nat) ^ n = z at *
      omega
    have up : ∀ {x : Int} {n k : Nat}, x.natAbs < 2 ^ n → n ≤ k → x.natAbs < 2 ^ k := fun {x n k} h hn => Nat.lt_of_lt_of_le h (Nat.pow_le_pow_right (by decide) hn)
    have s1 := wide_lt (sm ha1) tb
    have s2 := add (up s1 (show 32 + 4001 ≤ 4040 by decide)) (up (sm ha2) (show 32 ≤ 4040 by decide))
    refine ⟨_, rfl, .inl (.inl ⟨by have := ha1.1; omega, by have := ha1.2; omega⟩), ?_⟩
    suffices rest : ∀ cell : Int, Cel cell → (tSeq (tIf (tAndT ((tBin (tVar 3) (tCall (tCons (tPen0 0) tNil) tLen) tLt).bl) ((tBin (tCall (tCons (tVar 4) tNil) tAbs) (tBin (tCon (.int 10)) (tCon (.int 18)) tPow) tGe).bl))
    (tSeq (tAsg 5 (tBin (tBin (tCon (.int 2)) (tBin (tCall (tCons (tVar 4) tNil) tAbs) (tBin (tCon (.int 10)) (tCon (.int 18)) tPow) tSub) tMul) (tCall (tCons (tBin (tVar 4) (tCon (.int 0)) tLt) tNil) tInt) tAdd))
    (tSeq (tPenS 0 (tBin (tCall (tCons (tVar 5) tNil) tInt) (tVar 1) tFdiv))
    (tSeq (tRet (tBin (tCall (tCons (tVar 5) tNil) tInt) (tVar 1) tMod))
    tSkip)))
    tSkip)
    (tSeq (tAsg 6 (tBin (tCall (tCons (tBin (tBin (tBin (tBin (tCall (tCons (tVar 4) tNil) tInt) (tCon (.int b1)) tMod) (tBin (tCon (.int b2)) (tVar 3) tMul) tAdd) (tCon (.int b3)) tAdd) (tCon (.int 5)) tPow) tNil) tInt) (tCon (.int b4)) tMod))
    (tSeq (tAsg 6 (tBin (tCall (tCons (tBin (tBin (tBin (tBin (tVar 6) (tBin (tBin (tCon (.int 2)) (tVar 3) tMul) (tCon (.int c1)) tAdd) tMul) (tBin (tBin (tCon (.int c2)) (tVar 3) tMul) (tVar 3) tMul) tAdd) (tCon (.int c3)) tAdd) (tCon (.int 3)) tPow) tNil) tInt) (tCon (.int c4)) tMod))
    (tSeq (tRet (tBin (tCall (tCons (tBin (tVar 6) (tCon (.int 32)) tFdiv) tNil) tInt) (tVar 1) tMod))
    tSkip)))) [some .pen, some (.int m), none, some (.int t), some (.int cell), none, none] M { nx := fun _ M' => post .non M', rt := post, xx := fun _ => xp } from
      ⟨t, rfl, rfl, fun r hr => rest r hr, rest _ (big s2 (by unfold BB; decide))⟩
    intro cell hc
    have ten : CPowW 10 18 := ⟨by decide, by decide⟩
    have tail : (tSeq (tAsg 6 (tBin (tCall (tCons (tBin (tBin (tBin (tBin (tCall (tCons (tVar 4) tNil) tInt) (tCon (.int b1)) tMod) (tBin (tCon (.int b2)) (tVar 3) tMul) tAdd) (tCon (.int b3)) tAdd) (tCon (.int 5)) tPow) tNil) tInt) (tCon (.int b4)) tMod))
    (tSeq (tAsg 6 (tBin (tCall (tCons (tBin (tBin (tBin (tBin (tVar 6) (tBin (tBin (tCon (.int 2)) (tVar 3) tMul) (tCon (.int c1)) tAdd) tMul) (tBin (tBin (tCon (.int c2)) (tVar 3) tMul) (tVar 3) tMul) tAdd) (tCon (.int c3)) tAdd) (tCon (.int 3)) tPow) tNil) tInt) (tCon (.int c4)) tMod))
    (tSeq (tRet (tBin (tCall (tCons (tBin (tVar 6) (tCon (.int 32)) tFdiv) tNil) tInt) (tVar 1) tMod))
    tSkip))) [some .pen, some (.int m), none, some (.int t), some (.int cell), none, none] M { nx := fun _ M' => post .non M', rt := post, xx := fun _ => xp } := by
      have e1 : (cell % b1).natAbs < 2 ^ 32 := by
        have := Int.emod_nonneg cell (show b1 ≠ 0 by have := hb1.1; omega)
        have := Int.emod_lt_of_pos cell hb1.1
        have e : (2 : Nat) ^ 32 = 4294967296 := by decide
        rw [e]; have := hb1.2; omega
      have e2 := wide_lt (sm hb2) tb
      have e3 := add (up e1 (show 32 ≤ 4040 by decide)) (up e2 (show 32 + 4001 ≤ 4040 by decide))
      have e4 := add e3 (up (sm hb3) (show 32 ≤ 4041 by decide))
      refine ⟨_, rfl, _, rfl, hb1.1, ?_⟩
      refine ⟨_, rfl, .inl (.inl ⟨by have := hb2.1; omega, by have := hb2.2; omega⟩), ?_⟩
      refine ⟨⟨by decide, ?_⟩, ?_⟩
      · have := log_le (by decide) e4
        show _ * 5 ≤ _
        omega
      refine ⟨_, rfl, hb4.1, ?_⟩
      generalize ((cell % b1 + b2 * t + b3) ^ (5 : Int).toNat) = z
      have f1 : (z % b4).natAbs < 2 ^ 32 := by
        have := Int.emod_nonneg z (show b4 ≠ 0 by have := hb4.1; omega)
        have := Int.emod_lt_of_pos z hb4.1
        have e : (2 : Nat) ^ 32 = 4294967296 := by decide
        rw [e]; have := hb4.2; omega
      have f1' : 0 ≤ z % b4 := Int.emod_nonneg z (show b4 ≠ 0 by have := hb4.1; omega)
      have e32 : (2 : Nat) ^ 32 = 4294967296 := by decide
      have two : (2 : Int).natAbs < 2 ^ 32 := by decide
      have f2 := add (up (wide_lt two tb) (show 32 + 4001 ≤ 4040 by decide)) (up (sm hc1) (show 32 ≤ 4040 by decide))
      have f3 := wide_lt f1 f2
      have f4 := wide_lt (sm hc2) tb
      have f5 := wide_lt f4 tb
      have f6 := add (up f3 (show 32 + 4041 ≤ 8040 by decide)) (up f5 (show 32 + 4001 + 4001 ≤ 8040 by decide))
      have f7 := add f6 (up (sm hc3) (show 32 ≤ 8041 by decide))
      refine ⟨_, rfl, _, rfl, .inl (.inl ⟨by decide, by decide⟩), ?_⟩
      refine ⟨.inl (.inl ⟨by omega, by rw [e32] at f1; omega⟩), ?_⟩
      refine ⟨_, rfl, .inl (.inl ⟨by have := hc2.1; omega, by have := hc2.2; omega⟩), _, rfl, .inr (wide_mul f4 tb (by decide) (by decide) (by decide)), ?_⟩
      refine ⟨⟨by decide, ?_⟩, ?_⟩
      · have := log_le (by decide) f7
        show _ * 3 ≤ _
        omega
      refine ⟨_, rfl, hc4.1, ?_⟩
      refine ⟨_, rfl, ⟨by decide, by decide⟩, ?_⟩
      exact ⟨_, rfl, _, rfl, h0, hp _ (Int.emod_nonneg _ (by omega)) (Int.emod_lt_of_pos _ h0)⟩
    refine ⟨_, rfl, rfl, fun ns hns hcel => ⟨_, rfl, .inl ⟨_, rfl, _, rfl, fun h1 => ?_, fun h1 => ⟨fun z => (nomatch z), fun _ => tail⟩⟩⟩⟩
    refine ⟨_, rfl, _, rfl, ten, _, rfl, fun h2 => ?_, fun h2 => tail⟩
    have hge := of_decide_eq_true h2
    refine ⟨_, rfl, _, rfl, ten, .inl (.inl ⟨by decide, by decide⟩), ?_⟩
    refine ⟨_, rfl, _, rfl, ?_⟩
    have g1 := great_rst hc hge h0 (decide (cell < 0))
    refine ⟨_, rfl, _, rfl, _, rfl, hw _, rfl, _, rfl, g1, ?_⟩
    exact ⟨_, rfl, _, rfl, _, rfl, h0, hp _ (Int.emod_nonneg _ (by omega)) (Int.emod_lt_of_pos _ h0)⟩
end Ev
-- EvW
namespace Ev
open PySem PySem.Spec PyProof.Rows L2
/-- the text of an integer -/
def intL (i : Int) : List Nat := if i < 0 then 45 :: TL.numL i.natAbs else TL.numL i.natAbs
theorem ofString_S (s : String) : Str.ofString s = SX.S (s.toList.map Char.toNat) := Str.ofString_eq_toList s
theorem toString_S (i : Int) : Str.ofString (toString i) = SX.S (intL i) := by
  have hn : ∀ n : Nat, (toString n).toList.map Char.toNat = TL.numL n := fun n => by
    have h := SX.num_S n
    rw [ofString_S] at h
    exact SX.S_inj h
  unfold intL
  cases i with
  | ofNat n =>
    rw [if_neg (show ¬ (Int.ofNat n < 0) from Int.not_lt.mpr (Int.natCast_nonneg n))]
    exact SX.num_S n
  | negSucc n =>
    rw [if_pos (Int.negSucc_lt_zero n), ofString_S]
    have e : (toString (Int.negSucc n)).toList.map Char.toNat = 45 :: TL.numL (n + 1) := by
      show ("-" ++ toString (n + 1)).toList.map Char.toNat = _
      rw [String.toList_append, List.map_append, hn]
      rfl
    rw [e]
    rfl
theorem intL_len {i : Int} (h : i.natAbs.log2 < 1920) : (intL i).length ≤ 1921 := by
  have := PyProof.Rows.int_text_len_1921 h
  rw [toString_S, SX.S_len] at this
  exact this
/-! ### steps backwards through a formula -/
section
variable {Γ : Gm} {M : Store} {post : DP} {pb : Bool → Store → Prop} {pl : List D → Store → Prop} {po : Option Int → Store → Prop} {xp : XP} {d d1 d2 : D} {te ta tb tc : TfE} {tt tt2 : TfT} {tr : TfA} {i j k n ar nc : Nat} {a b : Int} {x y z : Str} {ds es : List D} {f g : Tf2} {A B : Prop} {S : SpX} {c : Bool}
variable {nx : Gm → Store → Prop} {rt : D → Store → Prop} {bk ct : Gm → Store → Prop} {xx : Gm → XP} {t1 t2 : TfS} {O : Out}
theorem r_var (h : Γ[i]? = some (some d)) (q : post d M) : tVar i Γ M post xp := ⟨d, h, q⟩
theorem r_con (q : post d M) : tCon d Γ M post xp := q
theorem r_bin (q : ta Γ M (fun d1 M1 => tb Γ M1 (fun d2 M2 => f d1 d2 M2 post xp) xp) xp) : tBin ta tb f Γ M post xp := q
theorem r_un {f : Tf1} (q : ta Γ M (fun d1 M1 => f d1 M1 post xp) xp) : tUn ta f Γ M post xp := q
theorem r_chain (q : ta Γ M (fun d1 M1 => tb Γ M1 (fun d2 M2 => f d1 d2 M2 (fun d M3 => ∃ k : Bool, d = .bl k ∧ ((k = true → tc Γ M3 (fun d3 M4 => g d2 d3 M4 post xp) xp) ∧ (k = false → post (.bl false) M3))) xp) xp) xp)
    (hf : ∀ d1 d2 M p p', (∀ d M, p d M → p' d M) → f d1 d2 M p xp → f d1 d2 M p' xp) (ha : ∀ M p p', (∀ d M, p d M → p' d M) → ta Γ M p xp → ta Γ M p' xp) (hb : ∀ M p p', (∀ d M, p d M → p' d M) → tb Γ M p xp → tb Γ M p' xp) : tChain ta tb tc f g Γ M post xp :=
  ha _ _ _ (fun d1 M1 => hb _ _ _ (fun d2 M2 => hf _ _ _ _ _ fun d M3 ⟨k, e, h1, h2⟩ => ⟨k, e, h2, h1⟩)) q
theorem r_chain0 (q : ta Γ M (fun d1 M1 => tb Γ M1 (fun d2 M2 => f d1 d2 M2 (fun d M3 => ∃ k : Bool, d = .bl k ∧ (k = false → post (.bl false) M3) ∧ (k = true → tc Γ M3 (fun d3 M4 => g d2 d3 M4 post xp) xp)) xp) xp) xp) : tChain ta tb tc f g Γ M post xp := q
theorem r_bl (q : te Γ M (fun d M' => ∃ k, d = .bl k ∧ pb k M') xp) : (te).bl Γ M pb xp := q
theorem r_exb {p : Bool → Prop} (q : p c) : ∃ k, D.bl c = .bl k ∧ p k := ⟨c, rfl, q⟩
theorem r_exi {p : Int → Prop} (q : p a) : ∃ k, D.int a = .int k ∧ p k := ⟨a, rfl, q⟩
theorem r_exs {p : Str → Prop} (q : p x) : ∃ k, D.str x = .str k ∧ p k := ⟨x, rfl, q⟩
theorem r_test {tf : TfB} (q : ta Γ M (fun d M1 => tf d M1 pb xp) xp) : tTest ta tf Γ M pb xp := q
theorem r_notT (q : tt Γ M (fun k M1 => pb (!k) M1) xp) : tNotT tt Γ M pb xp := q
theorem r_andT (q : tt Γ M (fun k M1 => (k = true → tt2 Γ M1 pb xp) ∧ (k = false → pb false M1)) xp) : tAndT tt tt2 Γ M pb xp := q
theorem r_orT (q : tt Γ M (fun k M1 => (k = false → tt2 Γ M1 pb xp) ∧ (k = true → pb true M1)) xp) : tOrT tt tt2 Γ M pb xp := q
theorem r_and {tf : TfB} (q : ta Γ M (fun d M1 => tf d M1 (fun k M2 => (k = true → tb Γ M2 post xp) ∧ (k = false → post d M2)) xp) xp) : tAnd ta tf tb Γ M post xp := q
theorem r_or {tf : TfB} (q : ta Γ M (fun d M1 => tf d M1 (fun k M2 => (k = false → tb Γ M2 post xp) ∧ (k = true → post d M2)) xp) xp) : tOr ta tf tb Γ M post xp := q
theorem r_not {tf : TfB} (q : ta Γ M (fun d M1 => tf d M1 (fun k M2 => post (.bl (!k)) M2) xp) xp) : tNot ta tf Γ M post xp := q
theorem r_ifx (q : tt Γ M (fun k M1 => (k = true → ta Γ M1 post xp) ∧ (k = false → tb Γ M1 post xp)) xp) : tIfx tt ta tb Γ M post xp := q
theorem r_nil (q : pl [] M) : tNil Γ M pl xp := q
theorem r_cons (q : ta Γ M (fun d M1 => tr Γ M1 (fun ds M2 => pl (d :: ds) M2) xp) xp) : tCons ta tr Γ M pl xp := q
theorem r_tup (q : tr Γ M (fun ds M1 => ds.length ≤ sizeLine ∧ post (.tup ds) M1) xp) : tTup tr Γ M post xp := q
theorem r_lst (q : tr Γ M (fun ds M1 => ds.length ≤ sizeLine ∧ post (.lst ds) M1) xp) : tLst tr Γ M post xp := q
theorem r_le (h : ds.length ≤ n) (q : A) : ds.length ≤ n ∧ A := ⟨h, q⟩
/-! cases -/
theorem r_tt (q : A) : (true = true → A) ∧ (true = false → B) := ⟨fun _ => q, nofun⟩
theorem r_ff (q : B) : (false = true → A) ∧ (false = false → B) := ⟨nofun, fun _ => q⟩
theorem r_nt (q : (c = true → B) ∧ (c = false → A)) : ((!c) = true → A) ∧ ((!c) = false → B) := by cases c <;> simp_all
theorem r_sw (q : (c = true → B) ∧ (c = false → A)) : (c = false → A) ∧ (c = true → B) := ⟨q.2, q.1⟩
theorem r_dc {p : Prop} [Decidable p] (h1 : p → A) (h2 : ¬ p → B) : (decide p = true → A) ∧ (decide p = false → B) := ⟨fun h => h1 (of_decide_eq_true h), fun h => h2 (of_decide_eq_false h)⟩
theorem r_dt {p : Prop} [Decidable p] (h : p) (q : A) : (decide p = true → A) ∧ (decide p = false → B) := ⟨fun _ => q, fun z => absurd h (of_decide_eq_false z)⟩
theorem r_df {p : Prop} [Decidable p] (h : ¬ p) (q : B) : (decide p = true → A) ∧ (decide p = false → B) := ⟨fun z => absurd (of_decide_eq_true z) h, fun _ => q⟩
theorem r_ct (h : c = true) (q : A) : (c = true → A) ∧ (c = false → B) := by subst h; exact r_tt q
theorem r_cf (h : c = false) (q : B) : (c = true → A) ∧ (c = false → B) := by subst h; exact r_ff q
theorem r_cc (h1 : c = true → A) (h2 : c = false → B) : (c = true → A) ∧ (c = false → B) := ⟨h1, h2⟩
/-! truth -/
theorem r_tru_b (q : pb c M) : tTru (.bl c) M pb xp := q
theorem r_tru_i (q : pb (a != 0) M) : tTru (.int a) M pb xp := q
theorem r_tru_n (q : pb false M) : tTru .non M pb xp := q
theorem r_tru_s (h : x.length ≤ sizeLine) (q : pb (x.length != 0) M) : tTru (.str x) M pb xp := ⟨h, q⟩
theorem r_tru_l (q : pb (!ds.isEmpty) M) : tTru (.lst ds) M pb xp := q
theorem r_tru_t (q : pb (!ds.isEmpty) M) : tTru (.tup ds) M pb xp := q
/-! operators -/
theorem r_add_ii (q : post (.int (a + b)) M) : tAdd (.int a) (.int b) M post xp := q
theorem r_add_ib (q : post (.int (a + b2i c)) M) : tAdd (.int a) (.bl c) M post xp := q
theorem r_add_ss (h : x.length + y.length ≤ sizeLine) (q : post (.str (x ++ y)) M) : tAdd (.str x) (.str y) M post xp := ⟨h, q⟩
theorem r_add_ll (h : ds.length + es.length ≤ sizeLine) (q : post (.lst (ds ++ es)) M) : tAdd (.lst ds) (.lst es) M post xp := ⟨h, q⟩
theorem r_add_tt (h : ds.length + es.length ≤ sizeLine) (q : post (.tup (ds ++ es)) M) : tAdd (.tup ds) (.tup es) M post xp := ⟨h, q⟩
theorem r_sub (q : post (.int (a - b)) M) : tSub (.int a) (.int b) M post xp := q
theorem r_mul_ii (h : CMul a b ∨ CMulW a b) (q : post (.int (a * b)) M) : tMul (.int a) (.int b) M post xp := ⟨h, q⟩
theorem r_mul_si (h : 0 ≤ a ∧ a < 2 ^ 62 ∧ x.length * a.toNat ≤ sizeLine) (q : post (.str (repS x a)) M) : tMul (.str x) (.int a) M post xp := ⟨h, q⟩
theorem r_mul_li (h : 0 ≤ a ∧ a < 2 ^ 62 ∧ ds.length * a.toNat ≤ sizeLine) (q : post (.lst (List.replicate a.toNat ds).flatten) M) : tMul (.lst ds) (.int a) M post xp := ⟨h, q⟩
theorem r_mod (h : 0 < b) (q : post (.int (a % b)) M) : tMod (.int a) (.int b) M post xp := ⟨h, q⟩
theorem r_fdiv (h : CDivW a b) (q : post (.int (a / b)) M) : tFdiv (.int a) (.int b) M post xp := ⟨h, q⟩
theorem r_pow (h : CPowW a b) (q : post (.int (a ^ b.toNat)) M) : tPow (.int a) (.int b) M post xp := ⟨h, q⟩
theorem r_lt (q : post (.bl (decide (a < b))) M) : tLt (.int a) (.int b) M post xp := q
theorem r_lt_s (q : post (.bl (decide (x.cps.toList < y.cps.toList))) M) : tLt (.str x) (.str y) M post xp := q
theorem r_le_ii (q : post (.bl (decide (a ≤ b))) M) : tLe (.int a) (.int b) M post xp := q
theorem r_gt (q : post (.bl (decide (b < a))) M) : tGt (.int a) (.int b) M post xp := q
theorem r_ge (q : post (.bl (decide (b ≤ a))) M) : tGe (.int a) (.int b) M post xp := q
theorem r_eq_i (q : post (.bl (decide (a = b))) M) : tEq (.int a) (.int b) M post xp := q
theorem r_eq_s (q : post (.bl (decide (x = y))) M) : tEq (.str x) (.str y) M post xp := q
theorem r_eq_b {c c' : Bool} (q : post (.bl (c == c')) M) : tEq (.bl c) (.bl c') M post xp := q
theorem r_eq_n (q : post (.bl true) M) : tEq .non .non M post xp := q
theorem r_ne_i (q : post (.bl (!decide (a = b))) M) : tNe (.int a) (.int b) M post xp := q
theorem r_ne_s (q : post (.bl (!decide (x = y))) M) : tNe (.str x) (.str y) M post xp := q
theorem r_ne_b {c c' : Bool} (q : post (.bl (!(c == c'))) M) : tNe (.bl c) (.bl c') M post xp := q
theorem r_is (h : d.isN = c) (q : post (.bl c) M) : tIsN false d .non M post xp := ⟨rfl, by rw [if_neg (by decide), h]; exact q⟩
theorem r_isnt (h : d.isN = c) (q : post (.bl (!c)) M) : tIsN true d .non M post xp := ⟨rfl, by rw [if_pos rfl, h]; exact q⟩
theorem r_is_t (h : d.isN = true) (q : post (.bl true) M) : tIsN false d .non M post xp := r_is h q
theorem r_is_f (h : d.isN = false) (q : post (.bl false) M) : tIsN false d .non M post xp := r_is h q
theorem r_isnt_t (h : d.isN = true) (q : post (.bl false) M) : tIsN true d .non M post xp := r_isnt h q
theorem r_isnt_f (h : d.isN = false) (q : post (.bl true) M) : tIsN true d .non M post xp := r_isnt h q
/-- a text stands in a text -/
def inS (x z : Str) : Bool := !(Builtin.Str.occurrences z x 0 z.length 1).isEmpty
theorem r_in_s (q : post (.bl (inS x z)) M) : tIn false (.str x) (.str z) M post xp := q
theorem r_nin_s (q : post (.bl (!inS x z)) M) : tIn true (.str x) (.str z) M post xp := q
theorem r_neg (q : post (.int (-a)) M) : tNeg (.int a) M post xp := q
theorem r_ix_l (h : atI ds a = some d) (q : post d M) : tIx (.lst ds) (.int a) M post xp := ⟨d, h, q⟩
theorem r_ix_t (h : atI ds a = some d) (q : post d M) : tIx (.tup ds) (.int a) M post xp := ⟨d, h, q⟩
theorem r_ix_s {ch : Nat} (h0 : z.length ≤ sizeLine) (h : atI z.cps.toList a = some ch) (q : post (.str ⟨#[ch]⟩) M) : tIx (.str z) (.int a) M post xp := ⟨h0, ch, h, q⟩
theorem r_ix_d {kvs : List (Key × D)} {w : D} {key : Key} (h0 : keyD d = some key) (h : lkK kvs key = some w) (q : post w M) : tIx (.dic kvs) d M post xp := ⟨key, w, h0, h, q⟩
def slK (d : D) (l h : Option Int) (post : DP) (M3 : Store) : Prop := match d with
  | .lst ds => post (.lst (cutD ds l h)) M3
  | .tup ds => post (.tup (cutD ds l h)) M3
  | .str z => z.length ≤ sizeLine ∧ post (.str (cutS z l h)) M3
  | .loc n => match M3[n]? with
    | some (.li ds) => post (.lst (cutD ds l h)) M3
    | _ => False
  | _ => False
theorem r_sl {tl th} (q : te Γ M (fun d M1 => tl Γ M1 (fun l M2 => th Γ M2 (fun h M3 => slK d l h post M3) xp) xp) xp) : tSl te tl th Γ M post xp := q
theorem r_sl_l {l h} (q : post (.lst (cutD ds l h)) M) : slK (.lst ds) l h post M := q
theorem r_sl_t {l h} (q : post (.tup (cutD ds l h)) M) : slK (.tup ds) l h post M := q
theorem r_sl_s {l h} (hz : z.length ≤ sizeLine) (q : post (.str (cutS z l h)) M) : slK (.str z) l h post M := ⟨hz, q⟩
theorem r_no (q : po none M) : tNo Γ M po xp := q
theorem r_some (q : te Γ M (fun d M1 => ∃ i, d = .int i ∧ po (some i) M1) xp) : tSome te Γ M po xp := q
/-! calls -/
theorem r_call {tf : TfC} (q : tr Γ M (fun ds M1 => tf ds M1 post xp) xp) : tCall tr tf Γ M post xp := q
theorem r_len_s (h : z.length ≤ sizeLine) (q : post (.int z.length) M) : tLen [.str z] M post xp := ⟨_, rfl, h, q⟩
theorem r_len_l (q : post (.int ds.length) M) : tLen [.lst ds] M post xp := ⟨_, rfl, .inl ⟨ds, rfl, q⟩⟩
theorem r_len_t (q : post (.int ds.length) M) : tLen [.tup ds] M post xp := ⟨_, rfl, .inl ⟨ds, rfl, q⟩⟩
theorem r_len_d {kvs : List (Key × D)} (q : post (.int kvs.length) M) : tLen [.dic kvs] M post xp := ⟨_, rfl, .inr ⟨kvs, rfl, q⟩⟩
theorem r_int_i (q : post (.int a) M) : tInt [.int a] M post xp := ⟨_, rfl, q⟩
theorem r_int_b (q : post (.int (if c then 1 else 0)) M) : tInt [.bl c] M post xp := ⟨_, rfl, q⟩
theorem r_int_s (h : PySem.intText? z = some a) (h2 : z.length ≤ 640) (q : post (.int a) M) : tInt [.str z] M post xp := ⟨_, rfl, a, h, h2, q⟩
theorem r_abs (q : post (.int (if a < 0 then -a else a)) M) : tAbs [.int a] M post xp := ⟨_, rfl, q⟩
theorem r_bool_i (q : post (.bl (a != 0)) M) : tBool [.int a] M post xp := ⟨_, rfl, q⟩
theorem r_bool_b (q : post (.bl c) M) : tBool [.bl c] M post xp := ⟨_, rfl, q⟩
theorem r_str_i (h : a.natAbs.log2 < 1920) (q : post (.str (SX.S (intL a))) M) : tStr [.int a] M post xp := ⟨_, rfl, h, by rw [← toString_S a] at q; exact q⟩
theorem r_str_s (q : post (.str x) M) : tStr [.str x] M post xp := ⟨_, rfl, q⟩
theorem r_list_l (q : post (.lst ds) M) : tList [.lst ds] M post xp := ⟨_, rfl, ds, rfl, q⟩
theorem r_list_t (q : post (.lst ds) M) : tList [.tup ds] M post xp := ⟨_, rfl, ds, rfl, q⟩
theorem r_tuple_l (q : post (.tup ds) M) : tTuple [.lst ds] M post xp := ⟨_, rfl, ds, rfl, q⟩
theorem r_tuple_t (q : post (.tup ds) M) : tTuple [.tup ds] M post xp := ⟨_, rfl, ds, rfl, q⟩
theorem r_sum {α : Type} {xs : List α} {p : α → Int} (q : post (.int (xs.map p).sum) M) : tSum [.lst (xs.map fun w => .int (p w))] M post xp := ⟨xs.map p, by rw [List.map_map]; rfl, q⟩
theorem r_all {α : Type} {xs : List α} {p : α → Bool} (q : post (.bl (xs.all p)) M) : tAll [.lst (xs.map fun w => .bl (p w))] M post xp := ⟨xs.map p, by rw [List.map_map]; rfl, by rw [List.all_map]; exact q⟩
theorem r_any {α : Type} {xs : List α} {p : α → Bool} (q : post (.bl (xs.any p)) M) : tAny [.lst (xs.map fun w => .bl (p w))] M post xp := ⟨xs.map p, by rw [List.map_map]; rfl, by rw [List.any_map]; exact q⟩
theorem r_sortS {ws : List Str} (h : ws.length < 64) (q : ∀ ys : List Str, ys.Perm ws → sortedS ys = true → post (.lst (ys.map D.str)) M) : tSortS [.lst (ws.map D.str)] M post xp := ⟨ws, rfl, h, q⟩
theorem r_max2 (q : post (.int (if b > a then b else a)) M) : tMaxI [.int a, .int b] M post xp := .inl ⟨_, _, rfl, q⟩
theorem r_min2 (q : post (.int (if b < a then b else a)) M) : tMinI [.int a, .int b] M post xp := .inl ⟨_, _, rfl, q⟩
theorem r_isi_t {os sub kd} {cd : D} (h1 : kdOf M d = some kd) (h2 : isiB os sub kd cd = some true) (q : post (.bl true) M) : tIsi os sub [d, cd] M post xp := ⟨d, cd, kd, true, rfl, h1, h2, q⟩
theorem r_isi_f {os sub kd} {cd : D} (h1 : kdOf M d = some kd) (h2 : isiB os sub kd cd = some false) (q : post (.bl false) M) : tIsi os sub [d, cd] M post xp := ⟨d, cd, kd, false, rfl, h1, h2, q⟩
theorem r_isi {os sub kd} {cd : D} (h1 : kdOf M d = some kd) (h2 : isiB os sub kd cd = some c) (q : post (.bl c) M) : tIsi os sub [d, cd] M post xp := ⟨d, cd, kd, c, rfl, h1, h2, q⟩
theorem r_fld {fl : Str} {cl fs} {r : D} (h1 : insOf M d = some (nc, fs)) (h3 : fs.lookup fl = some r) (h2 : nc ∈ cl) (q : post r M) : tFld fl cl d M post xp := ⟨nc, fs, r, h1, h2, h3, q⟩
theorem r_con1 {fl : Str} {cl fs} {r : D} (h1 : insOf M d = some (nc, fs)) (h3 : fs.lookup fl = none) (h2 : (nc, r) ∈ cl) (q : post r M) : tCon1 fl cl d M post xp := ⟨nc, fs, r, h1, h2, h3, q⟩
theorem r_bm {T : String} {tf : TfM} (q : ta Γ M (fun d M1 => tyM M1 T d ∧ tr Γ M1 (fun ds M2 => tf d ds M2 post) xp) xp) : tBm T ta tr tf Γ M post xp := q
theorem r_tyS (q : A) : tyM M "str" (.str x) ∧ A := ⟨rfl, q⟩
theorem r_tyL (q : A) : tyM M "list" (.lst ds) ∧ A := ⟨rfl, q⟩
theorem r_tyD {kvs : List (Key × D)} (q : A) : tyM M "dict" (.dic kvs) ∧ A := ⟨rfl, q⟩
theorem r_count (q : post (.int (Txt.count z x)) M) : tCountS (.str z) [.str x] M post := ⟨z, x, rfl, rfl, q⟩
theorem r_join_l {ws : List Str} (h : (ws.map (·.length)).sum + ws.length * z.length ≤ 16777216) (q : post (.str (Txt.join z ws)) M) : tJoin (.str z) [.lst (ws.map D.str)] M post := ⟨z, _, ws, rfl, rfl, rfl, h, q⟩
theorem r_join {α : Type} {xs : List α} {p : α → Str} (h : ((xs.map p).map (·.length)).sum + (xs.map p).length * z.length ≤ 16777216) (q : post (.str (Txt.join z (xs.map p))) M) : tJoin (.str z) [.lst (xs.map fun w => .str (p w))] M post := ⟨z, _, xs.map p, rfl, rfl, by show some _ = some _; rw [List.map_map]; rfl, h, q⟩
theorem r_part (h : (x.length == 0) = false) (hz : z.length ≤ sizeLine) (q : post (.tup [.str (Txt.partition z x).1, .str (Txt.partition z x).2.1, .str (Txt.partition z x).2.2]) M) : tPart (.str z) [.str x] M post := ⟨z, x, rfl, rfl, h, hz, q⟩
theorem r_split (h : (x.length == 0) = false) (hz : z.length + 2 ≤ sizeLine) (q : post (.lst ((Txt.split z x).map D.str)) M) : tSplit (.str z) [.str x] M post := ⟨z, x, rfl, rfl, h, hz, q⟩
theorem r_fn (q : tr Γ M (fun ds M1 => ds.length = ar ∧ S ds M1 post xp) xp) : tFn ar S tr Γ M post xp := q
theorem r_ar (h : ds.length = ar) (q : A) : ds.length = ar ∧ A := ⟨h, q⟩
theorem r_ar1 (h : ds.length + 1 = ar) (q : A) : ds.length + 1 = ar ∧ A := ⟨h, q⟩
theorem r_meth {m : Str} (q : te Γ M (fun d M1 => (∃ fs, insOf M1 d = some (nc, fs) ∧ fs.lookup m = none) ∧ tr Γ M1 (fun ds M2 => ds.length + 1 = ar ∧ S (d :: ds) M2 post xp) xp) xp) : tMeth nc m ar S te tr Γ M post xp := q
theorem r_recv {m : Str} {fs : List (Str × D)} (h1 : insOf M d = some (nc, fs)) (h2 : fs.lookup m = none) (q : A) : (∃ fs, insOf M d = some (nc, fs) ∧ fs.lookup m = none) ∧ A := ⟨⟨fs, h1, h2⟩, q⟩
theorem r_stat (q : te Γ M (fun d M1 => d = .cls nc ∧ tr Γ M1 (fun ds M2 => ds.length = ar ∧ S ds M2 post xp) xp) xp) : tStat nc ar S te tr Γ M post xp := q
theorem r_cm (q : te Γ M (fun d M1 => d = .cls nc ∧ tr Γ M1 (fun ds M2 => ds.length + 1 = ar ∧ S (.cls nc :: ds) M2 post xp) xp) xp) : tCm nc ar S te tr Γ M post xp := q
theorem r_iscls (q : A) : D.cls nc = .cls nc ∧ A := ⟨rfl, q⟩
/-- an instance of a class that never changes is made -/
def mkK (nc ar : Nat) (S : SpX) (post : DP) (xp : XP) (ds : List D) (M1 : Store) : Prop := ds.length + 1 = ar ∧ S (.loc M1.length :: ds) (M1 ++ [.ins nc []]) (fun v M2 => v = .non ∧ ∃ fs, M2 = M1 ++ [.ins nc fs] ∧ D.ltF M1.length fs ∧ ∀ a, post (.obj a nc fs) M1) (fun c fs M2 => (∃ q, M2 = M1 ++ [q]) ∧ D.ltF M1.length fs ∧ xp c fs M1)
def mkMK (nc ar : Nat) (S : SpX) (post : DP) (xp : XP) (ds : List D) (M1 : Store) : Prop := ds.length + 1 = ar ∧ S (.loc M1.length :: ds) (M1 ++ [.ins nc []]) (fun v M2 => v = .non ∧ post (.loc M1.length) M2) xp
theorem r_mk (q : tr Γ M (fun ds M1 => mkK nc ar S post xp ds M1) xp) : tMk nc ar S tr Γ M post xp := by
  unfold mkK at q; exact q
theorem r_mkE {df : List D} (q : tr Γ M (fun ds M1 => mkK nc ar S post xp (ds ++ df) M1) xp) : tMkE nc ar df S tr Γ M post xp := by
  unfold mkK at q; exact q
theorem r_mkM (q : tr Γ M (fun ds M1 => mkMK nc ar S post xp ds M1) xp) : tMkM nc ar S tr Γ M post xp := by
  unfold mkMK at q; exact q
theorem r_mkV (h : Γ[i]? = some (some (.cls nc))) (q : tMk nc ar S tr Γ M post xp) : tMkV i nc ar S tr Γ M post xp := ⟨h, q⟩
theorem r_prop {fs} (h : insOf M d = some (nc, fs)) (q : S [d] M post (fun _ _ _ => False)) : tProp nc S d M post xp := ⟨fs, h, q⟩
theorem r_own {fs Ts T} (h : insOf M d1 = some (nc, fs)) (h2 : scT d2 = some T) (h3 : T ∈ Ts) (q : S [d1, d2] M post xp) : tOwn nc Ts S d1 d2 M post xp := ⟨fs, T, h, h2, h3, q⟩
theorem r_ownS {fs gs} (h : insOf M d1 = some (nc, fs)) (h2 : insOf M d2 = some (nc, gs)) (q : S [d1, d2] M post xp) : tOwnS nc S d1 d2 M post xp := ⟨fs, gs, h, h2, q⟩
theorem r_ownC_t {fs Ts os T} (h : insOf M d1 = some (nc, fs)) (h2 : kdOf M d2 = some (.ty T)) (h3 : T ∈ Ts) (h4 : T ≠ .dict) (q : S [d1, d2] M post xp) : tOwnC nc Ts os S d1 d2 M post xp := ⟨fs, .ty T, h, h2, ⟨h3, h4⟩, q⟩
theorem r_ownC_o {fs Ts os k} (h : insOf M d1 = some (nc, fs)) (h2 : kdOf M d2 = some (.ob k)) (h3 : k ∈ os) (q : S [d1, d2] M post xp) : tOwnC nc Ts os S d1 d2 M post xp := ⟨fs, .ob k, h, h2, h3, q⟩
theorem r_own1 {fs} (h : insOf M d = some (nc, fs)) (q : S [d] M post xp) : tOwn1 nc S d M post xp := ⟨fs, h, q⟩
theorem r_ownB {fs} (h : insOf M d = some (nc, fs)) (q : S [d] M (fun r M' => ∃ b, r = .bl b ∧ pb b M') xp) : tOwnB nc S d M pb xp := ⟨fs, h, q⟩
theorem r_ownN {fs} (h : insOf M d = some (nc, fs)) (q : S [d] M (fun r M' => ∃ i : Int, r = .int i ∧ 0 ≤ i ∧ i < 2 ^ 63 ∧ post (.int i) M') xp) : tOwnN nc S [d] M post xp := ⟨d, fs, rfl, h, q⟩
theorem r_ownA {fs} (h : insOf M d = some (nc, fs)) (q : S [d] M post xp) : tOwnA nc S [d] M post xp := ⟨d, fs, rfl, h, q⟩
theorem r_ownStr {fs} (h : insOf M d = some (nc, fs)) (q : S [d] M (fun r M' => ∃ z : Str, r = .str z ∧ post (.str z) M') xp) : tOwnStr nc S [d] M post xp := ⟨d, fs, rfl, h, q⟩
theorem r_ownIn {fs} {ng : Bool} (h : insOf M d2 = some (nc, fs)) (q : S [d2, d1] M (fun r M' => ∃ b : Bool, r = .bl b ∧ post (.bl (if ng then !b else b)) M') xp) : tOwnIn nc ng S d1 d2 M post xp := ⟨fs, h, q⟩
theorem r_ownR {fs} (h : insOf M d2 = some (nc, fs)) (q : S [d2, .int a] M post xp) : tOwnR nc S (.int a) d2 M post xp := ⟨a, fs, rfl, h, q⟩
/-! f-strings -/
theorem r_fstr {ts : List TfE} (q : tJoin2 ts (SX.S []) Γ M (fun z M1 => post (.str z) M1) xp) : tFstr ts Γ M post xp := q
theorem r_j0 {ps : Str → Store → Prop} (q : ps x M) : tJoin2 [] x Γ M ps xp := q
def jsK (ts : List TfE) (x : Str) (Γ : Gm) (ps : Str → Store → Prop) (xp : XP) (d : D) (M1 : Store) : Prop := ∃ y : Str, d = .str y ∧ (x ++ y).length ≤ sizeLine ∧ tJoin2 ts (x ++ y) Γ M1 ps xp
theorem r_j1 {ts : List TfE} {ps : Str → Store → Prop} (q : te Γ M (fun d M1 => jsK ts x Γ ps xp d M1) xp) : tJoin2 (te :: ts) x Γ M ps xp := by
  unfold jsK at q; exact q
theorem r_jS {ts : List TfE} {ps : Str → Store → Prop} {l m : List Nat} (h : l.length + m.length ≤ 16777216) (q : tJoin2 ts (SX.S (l ++ m)) Γ M ps xp) : jsK ts (SX.S l) Γ ps xp (.str (SX.S m)) M := ⟨_, rfl, by rw [SX.S_cat, SX.S_len, List.length_append]; exact h, by rw [SX.S_cat]; exact q⟩
def fmK (d : D) (post : DP) (M1 : Store) : Prop := match d with
  | .str y => y.length ≤ sizeLine ∧ post (.str y) M1
  | .int i => i.natAbs.log2 < 1920 ∧ post (.str (toString i)) M1
  | _ => False
theorem r_fm (q : te Γ M (fun d M1 => fmK d post M1) xp) : tFm te Γ M post xp := q
theorem r_fm_i (h : a.natAbs.log2 < 1920) (q : post (.str (SX.S (intL a))) M) : fmK (.int a) post M := ⟨h, by rw [← toString_S a] at q; exact q⟩
theorem r_fm_s (h : x.length ≤ sizeLine) (q : post (.str x) M) : fmK (.str x) post M := ⟨h, q⟩
/-! the pen -/
theorem r_draw (h0 : 0 < a) (hb : a.natAbs < 2 ^ 200) (q : ∀ i : Int, 0 ≤ i → i < a → post (.int i) M) : spDraw [.pen, .int a] M post xp := ⟨a, rfl, h0, hb, q⟩
/-! ### statements -/
theorem r_seq (q : t1 Γ M ⟨fun Γ' M' => t2 Γ' M' ⟨nx, rt, bk, ct, xx⟩, rt, bk, ct, xx⟩) : tSeq t1 t2 Γ M ⟨nx, rt, bk, ct, xx⟩ := q
theorem r_skip (q : nx Γ M) : tSkip Γ M ⟨nx, rt, bk, ct, xx⟩ := q
theorem r_pass (q : nx Γ M) : tPass Γ M ⟨nx, rt, bk, ct, xx⟩ := q
theorem r_break (q : bk Γ M) : tBreak Γ M ⟨nx, rt, bk, ct, xx⟩ := q
theorem r_cont (q : ct Γ M) : tCont Γ M ⟨nx, rt, bk, ct, xx⟩ := q
theorem r_asg (q : te Γ M (fun d M' => nx (Γ.set i (some d)) M') (xx Γ)) : tAsg i te Γ M ⟨nx, rt, bk, ct, xx⟩ := q
theorem r_ifs (q : tt Γ M (fun k M' => (k = true → t1 Γ M' ⟨nx, rt, bk, ct, xx⟩) ∧ (k = false → t2 Γ M' ⟨nx, rt, bk, ct, xx⟩)) (xx Γ)) : tIf tt t1 t2 Γ M ⟨nx, rt, bk, ct, xx⟩ := q
theorem r_ret (q : te Γ M rt (xx Γ)) : tRet te Γ M ⟨nx, rt, bk, ct, xx⟩ := q
theorem r_retN (q : rt .non M) : tRetN Γ M ⟨nx, rt, bk, ct, xx⟩ := q
theorem r_drop (q : te Γ M (fun _ M' => nx Γ M') (xx Γ)) : tDrop te Γ M ⟨nx, rt, bk, ct, xx⟩ := q
theorem r_par (q : tr Γ M (fun ds M' => ∃ d1 d2, ds = [d1, d2] ∧ nx ((Γ.set i (some d1)).set j (some d2)) M') (xx Γ)) : tPar i j tr Γ M ⟨nx, rt, bk, ct, xx⟩ := q
theorem r_ex2 {p : D → D → Prop} (q : p d1 d2) : ∃ x y, [d1, d2] = [x, y] ∧ p x y := ⟨d1, d2, rfl, q⟩
theorem r_raise1 {fl : Str} (q : te Γ M (fun d M1 => xx Γ nc [(fl, d)] M1) (xx Γ)) : tRaise1 nc fl te Γ M ⟨nx, rt, bk, ct, xx⟩ := q
theorem r_raise2 {fl gl : Str} (q : ta Γ M (fun d M1 => tb Γ M1 (fun d2 M2 => xx Γ nc [(gl, d2), (fl, d)] M2) (xx Γ)) (xx Γ)) : tRaise2 nc fl gl ta tb Γ M ⟨nx, rt, bk, ct, xx⟩ := q
theorem r_try {ys zs} (q : t1 Γ M ⟨nx, rt, bk, ct, fun Γ' nc fs M' => (nc ∈ ys ∧ ∀ a, t2 (Γ'.set i (some (.exc a nc fs))) M' ⟨fun Γ M => nx (Γ.set i none) M, rt, fun Γ M => bk (Γ.set i none) M, fun Γ M => ct (Γ.set i none) M, fun _ _ _ _ => False⟩) ∨ (nc ∈ zs ∧ xx Γ' nc fs M')⟩) : tTryAs ys zs i t1 t2 Γ M ⟨nx, rt, bk, ct, xx⟩ := q
theorem r_unp {tg : TfG} (q : te Γ M (fun d M' => tg d Γ (fun Γ' => nx Γ' M')) (xx Γ)) : tUnp te tg Γ M ⟨nx, rt, bk, ct, xx⟩ := q
def fstK (fl : Str) (cl : List Nat) (d od : D) (M2 : Store) (p : Store → Prop) : Prop := ∃ i c fs, od = .loc i ∧ M2[i]? = some (.ins c fs) ∧ c ∈ cl ∧ fs.length < 1000 ∧ p (M2.set i (.ins c (putD fl d fs)))
theorem r_fst {fl : Str} {cl} (q : ta Γ M (fun d M1 => tb Γ M1 (fun od M2 => fstK fl cl d od M2 (fun M3 => nx Γ M3)) (xx Γ)) (xx Γ)) : tFst fl cl ta tb Γ M ⟨nx, rt, bk, ct, xx⟩ := by
  unfold fstK at q; exact q
/-- the last cell's fields are set, as an __init__ does -/
theorem st_at {M : Store} {x : Cell} : (M ++ [x])[M.length]? = some x := by simp
theorem st_set {M : Store} {x y : Cell} : (M ++ [x]).set M.length y = M ++ [y] := by simp
theorem r_fstI {fl : Str} {fs : List (Str × D)} {cl : List Nat} {p : Store → Prop} (h : nc ∈ cl) (hl : fs.length < 1000) (q : p (M ++ [Cell.ins nc (putD fl d fs)])) : fstK fl cl d (.loc M.length) (M ++ [Cell.ins nc fs]) p := ⟨M.length, nc, fs, rfl, st_at, h, hl, by rw [st_set]; exact q⟩
theorem r_fstL {fl : Str} {fs : List (Str × D)} {cl : List Nat} {p : Store → Prop} (h0 : M[n]? = some (.ins nc fs)) (h : nc ∈ cl) (hl : fs.length < 1000) (q : p (M.set n (.ins nc (putD fl d fs)))) : fstK fl cl d (.loc n) M p := ⟨n, nc, fs, rfl, h0, h, hl, q⟩
theorem r_insI {fs : List (Str × D)} : insOf (M ++ [Cell.ins nc fs]) (.loc M.length) = some (nc, fs) := by
  unfold insOf
  simp
/-! targets -/
theorem r_gNm {p : Gm → Prop} (q : p (Γ.set i (some d))) : gNm i d Γ p := q
theorem r_gTup {gs} {p : Gm → Prop} (h : ds.length = n) (q : gs ds Γ p) : gTup n gs (.tup ds) Γ p := ⟨ds, rfl, h, q⟩
theorem r_gLs {gs} {p : Gm → Prop} (h : ds.length = n) (q : gs ds Γ p) : gLs n gs (.lst ds) Γ p := ⟨ds, rfl, h, q⟩
theorem r_gNil {p : Gm → Prop} (q : p Γ) : gNil [] Γ p := ⟨rfl, q⟩
theorem r_gCons {tg : TfG} {gs} {p : Gm → Prop} (q : tg d Γ (fun Γ' => gs ds Γ' p)) : gCons tg gs (d :: ds) Γ p := ⟨d, ds, rfl, q⟩
/-! ### loops and comprehensions, turn by turn -/
abbrev TfIP := List D → (Store → Prop) → Store → Prop
def forK (tg : TfG) (tb : TfS) (Γ : Gm) (O : Out) (ds : List D) (S : Store → Prop) (M1 : Store) : Prop := ds.length ≤ LL ∧ ∃ I : Nat → Gm → Store → Prop, I 0 Γ M1 ∧ (∀ k Γ' M', k ≤ ds.length → I k Γ' M' → S M') ∧ (∀ Γ' M', I ds.length Γ' M' → O.nx Γ' M') ∧
  ∀ k d Γ' M', ds[k]? = some d → I k Γ' M' → tg d Γ' (fun Γ2 => tb Γ2 M' { nx := I (k + 1), ct := I (k + 1), bk := O.nx, rt := O.rt, xx := O.xx })
theorem r_for {tg : TfG} {ti : TfI} {tb : TfS} (q : ti Γ M (fun ds S M1 => forK tg tb Γ ⟨nx, rt, bk, ct, xx⟩ ds S M1) (xx Γ)) : tFor tg ti tb Γ M ⟨nx, rt, bk, ct, xx⟩ := by
  unfold forK at q; exact q
def itK (d : D) (M1 : Store) (p : TfIP) : Prop := match d with
  | .lst ds => p ds STrue M1
  | .tup ds => p ds STrue M1
  | .str z => p (signs z) STrue M1
  | .loc n => match M1[n]? with
    | some (.li ds) => p ds (fun M' => M'[n]? = some (.li ds)) M1
    | _ => False
  | _ => False
theorem r_it {p : TfIP} (q : te Γ M (fun d M1 => itK d M1 p) xp) : tIt te Γ M p xp := q
theorem r_it_l {p : TfIP} (q : p ds STrue M) : itK (.lst ds) M p := q
theorem r_it_t {p : TfIP} (q : p ds STrue M) : itK (.tup ds) M p := q
theorem r_it_s {p : TfIP} (q : p (signs z) STrue M) : itK (.str z) M p := q
theorem r_rg1 {p : TfIP} (q : tr Γ M (fun ds M1 => ∃ j : Int, ds = [.int j] ∧ -(2 ^ 62) ≤ j ∧ j < 2 ^ 62 ∧ p ((List.range j.toNat).map fun (i : Nat) => D.int (i : Int)) STrue M1) xp) : tRg1 tr Γ M p xp := q
theorem r_rg2 {p : TfIP} (q : tr Γ M (fun ds M1 => ∃ i j : Int, ds = [.int i, .int j] ∧ (-(2 ^ 62) ≤ i ∧ i < 2 ^ 62 ∧ -(2 ^ 62) ≤ j ∧ j < 2 ^ 62) ∧ p ((List.range (j - i).toNat).map fun (k : Nat) => D.int (i + (k : Int))) STrue M1) xp) : tRg2 tr Γ M p xp := q
theorem r_ri1 {p : Int → Prop} {N : Nat} (h : a = (N : Int)) (hN : N < 1000000) (q : p N) : ∃ j : Int, [D.int a] = [.int j] ∧ -(2 ^ 62) ≤ j ∧ j < 2 ^ 62 ∧ p j := ⟨a, rfl, by omega, by omega, by rw [h]; exact q⟩
/-- the turns that are left -/
def forL (tg : TfG) (tb : TfS) (O : Out) : List D → Gm → Store → Prop
  | [], Γ, M => O.nx Γ M
  | d :: ds, Γ, M => tg d Γ (fun Γ2 => tb Γ2 M ⟨forL tg tb O ds, O.rt, O.nx, forL tg tb O ds, O.xx⟩)
theorem r_forL {tg : TfG} {tb : TfS} (h : ds.length ≤ LL) (q : forL tg tb O ds Γ M) : forK tg tb Γ O ds STrue M := by
  refine ⟨h, fun k Γ' M' => forL tg tb O (ds.drop k) Γ' M', by simpa using q, fun _ _ _ _ _ => trivial, fun Γ' M' h => ?_, fun k d Γ' M' hd h => ?_⟩
  · have h : forL tg tb O (ds.drop ds.length) Γ' M' := h
    rw [List.drop_length] at h; exact h
  · have hk : k < ds.length := (List.getElem?_eq_some_iff.mp hd).1
    have e : ds.drop k = d :: ds.drop (k + 1) := by
      rw [List.drop_eq_getElem_cons hk]
      congr 1
      exact (List.getElem?_eq_some_iff.mp hd).2
    have h : forL tg tb O (ds.drop k) Γ' M' := h
    rw [e] at h; exact h
theorem r_for0 {tg : TfG} {tb : TfS} (q : nx Γ M) : forL tg tb ⟨nx, rt, bk, ct, xx⟩ [] Γ M := q
theorem r_for1 {tg : TfG} {tb : TfS} (q : tg d Γ (fun Γ2 => tb Γ2 M ⟨forL tg tb ⟨nx, rt, bk, ct, xx⟩ ds, rt, nx, forL tg tb ⟨nx, rt, bk, ct, xx⟩ ds, xx⟩)) : forL tg tb ⟨nx, rt, bk, ct, xx⟩ (d :: ds) Γ M := q
/-- by an invariant of what is left -/
theorem r_forI {tg : TfG} {tb : TfS} (I : List D → Gm → Store → Prop) (h : I ds Γ M) (h0 : ∀ Γ M, I [] Γ M → nx Γ M) (h1 : ∀ d ds Γ M (N : Gm → Store → Prop), I (d :: ds) Γ M → (∀ Γ M, I ds Γ M → N Γ M) → tg d Γ (fun Γ2 => tb Γ2 M ⟨N, rt, nx, N, xx⟩)) : forL tg tb ⟨nx, rt, bk, ct, xx⟩ ds Γ M := by
  induction ds generalizing Γ M with
  | nil => exact h0 _ _ h
  | cons d ds ih => exact h1 d ds Γ M _ h fun Γ M h => ih h
def lcK (tg : TfG) (js : List Nat) (tt : TfT) (te : TfE) (Γ : Gm) (post : DP) (ds : List D) (S : Store → Prop) (M1 : Store) : Prop := ds.length ≤ 100000 ∧ ∃ I : Nat → List D → Store → Prop, I 0 [] M1 ∧ (∀ k acc M', k ≤ ds.length → I k acc M' → S M') ∧ (∀ acc M', I ds.length acc M' → post (.lst acc) M') ∧
  ∀ k d acc M', ds[k]? = some d → I k acc M' → tg d (wG Γ js) (fun Γ' => tt Γ' M' (fun b M2 => (b = true → te Γ' M2 (fun y M3 => I (k + 1) (acc ++ [y]) M3) XNo) ∧ (b = false → I (k + 1) acc M2)) XNo)
theorem r_lc {tg : TfG} {js} {ti : TfI} (q : ti Γ M (fun ds S M1 => lcK tg js tt te Γ post ds S M1) xp) : tLc tg js ti tt te Γ M post xp := by
  unfold lcK at q; exact q
def lcL (tg : TfG) (tt : TfT) (te : TfE) (Γ0 : Gm) (post : DP) : List D → List D → Store → Prop
  | [], acc, M => post (.lst acc) M
  | d :: ds, acc, M => tg d Γ0 (fun Γ' => tt Γ' M (fun b M2 => (b = true → te Γ' M2 (fun y M3 => lcL tg tt te Γ0 post ds (acc ++ [y]) M3) XNo) ∧ (b = false → lcL tg tt te Γ0 post ds acc M2)) XNo)
theorem r_lcL {tg : TfG} {js} (h : ds.length ≤ 100000) (q : lcL tg tt te (wG Γ js) post ds [] M) : lcK tg js tt te Γ post ds STrue M := by
  refine ⟨h, fun k acc M' => lcL tg tt te (wG Γ js) post (ds.drop k) acc M', by simpa using q, fun _ _ _ _ _ => trivial, fun acc M' h => ?_, fun k d acc M' hd h => ?_⟩
  · have h : lcL tg tt te (wG Γ js) post (ds.drop ds.length) acc M' := h
    rw [List.drop_length] at h; exact h
  · have hk : k < ds.length := (List.getElem?_eq_some_iff.mp hd).1
    have e : ds.drop k = d :: ds.drop (k + 1) := by
      rw [List.drop_eq_getElem_cons hk]
      congr 1
      exact (List.getElem?_eq_some_iff.mp hd).2
    have h : lcL tg tt te (wG Γ js) post (ds.drop k) acc M' := h
    rw [e] at h; exact h
theorem r_lc0 {tg : TfG} {Γ0 : Gm} {acc : List D} (q : post (.lst acc) M) : lcL tg tt te Γ0 post [] acc M := q
theorem r_lc1 {tg : TfG} {Γ0 : Gm} {acc : List D} (q : tg d Γ0 (fun Γ' => tt Γ' M (fun b M2 => (b = true → te Γ' M2 (fun y M3 => lcL tg tt te Γ0 post ds (acc ++ [y]) M3) XNo) ∧ (b = false → lcL tg tt te Γ0 post ds acc M2)) XNo)) : lcL tg tt te Γ0 post (d :: ds) acc M := q
theorem r_yes (q : pb true M) : tYesT Γ M pb xp := q
/-- each turn is told by a function -/
theorem lcL_map {α : Type} {tg : TfG} {Γ0 : Gm} {enc : α → D} (f : α → D) : ∀ {xs : List α} {acc : List D}, (∀ x ∈ xs, ∀ p : DP, p (f x) M → tg (enc x) Γ0 (fun Γ' => te Γ' M p XNo)) → post (.lst (acc ++ xs.map f)) M → lcL tg tYesT te Γ0 post (xs.map enc) acc M
  | [], acc, _, q => by
    have q : post (.lst (acc ++ [])) M := q
    rw [List.append_nil] at q; exact q
  | x :: xs, acc, h, q => by
    have e : ∀ p : DP, (fun Γ' => tYesT Γ' M (fun b M2 => (b = true → te Γ' M2 p XNo) ∧ (b = false → lcL tg tYesT te Γ0 post (xs.map enc) acc M2)) XNo) = fun Γ' => te Γ' M p XNo := fun p => by
      funext Γ'
      exact propext ⟨fun z => z.1 rfl, fun z => ⟨fun _ => z, nofun⟩⟩
    show tg (enc x) Γ0 (fun Γ' => tYesT Γ' M (fun b M2 => (b = true → te Γ' M2 _ XNo) ∧ (b = false → lcL tg tYesT te Γ0 post (xs.map enc) acc M2)) XNo)
    rw [e]
    refine h x List.mem_cons_self _ ?_
    refine lcL_map f (fun y hy => h y (List.mem_cons_of_mem _ hy)) ?_
    rw [List.append_assoc]; exact q
theorem r_lcM {α : Type} {tg : TfG} {js} {enc : α → D} (f : α → D) {xs : List α} (hl : xs.length ≤ 100000) (h : ∀ x ∈ xs, ∀ p : DP, p (f x) M → tg (enc x) (wG Γ js) (fun Γ' => te Γ' M p XNo)) (q : post (.lst (xs.map f)) M) : lcK tg js tYesT te Γ post (xs.map enc) STrue M := r_lcL (by simpa using hl) (lcL_map f h (by simpa using q))
theorem lcL_filt {α : Type} {tg : TfG} {Γ0 : Gm} {enc : α → D} (f : α → D) (c : α → Bool) : ∀ {xs : List α} {acc : List D}, (∀ x ∈ xs, ∀ (p : DP) (p2 : Store → Prop), (c x = true → p (f x) M) → (c x = false → p2 M) → tg (enc x) Γ0 (fun Γ' => tt Γ' M (fun b M2 => (b = true → te Γ' M2 p XNo) ∧ (b = false → p2 M2)) XNo)) → post (.lst (acc ++ (xs.filter c).map f)) M → lcL tg tt te Γ0 post (xs.map enc) acc M
  | [], acc, _, q => by
    have q : post (.lst (acc ++ [])) M := q
    rw [List.append_nil] at q; exact q
  | x :: xs, acc, h, q => by
    refine h x List.mem_cons_self _ (lcL tg tt te Γ0 post (xs.map enc) acc) (fun hc => ?_) (fun hc => ?_)
    · refine lcL_filt f c (fun y hy => h y (List.mem_cons_of_mem _ hy)) ?_
      rw [List.append_assoc]
      rw [List.filter_cons_of_pos hc] at q; exact q
    · refine lcL_filt f c (fun y hy => h y (List.mem_cons_of_mem _ hy)) ?_
      rw [List.filter_cons_of_neg (by simp [hc])] at q; exact q
theorem r_lcF {α : Type} {tg : TfG} {js} {enc : α → D} (f : α → D) (c : α → Bool) {xs : List α} (hl : xs.length ≤ 100000) (h : ∀ x ∈ xs, ∀ (p : DP) (p2 : Store → Prop), (c x = true → p (f x) M) → (c x = false → p2 M) → tg (enc x) (wG Γ js) (fun Γ' => tt Γ' M (fun b M2 => (b = true → te Γ' M2 p XNo) ∧ (b = false → p2 M2)) XNo)) (q : post (.lst ((xs.filter c).map f)) M) : lcK tg js tt te Γ post (xs.map enc) STrue M := r_lcL (by simpa using hl) (lcL_filt f c h (by simpa using q))
theorem r_exh {ys zs : List Nat} {P : Addr → Prop} {B : Prop} (h : nc ∈ ys) (q : ∀ a, P a) : (nc ∈ ys ∧ ∀ a, P a) ∨ B := .inl ⟨h, q⟩
theorem at0 {α : Type} {c : α} {l : List α} : atI (c :: l) 0 = some c := by
  unfold atI ixN
  simp
theorem pbl {b1 b2 : Bool} (h : b2 = b1) (hp : post (.bl b2) M) : post (.bl b1) M := h ▸ hp
theorem signs_S (l : List Nat) : signs (SX.S l) = l.map fun c => D.str (SX.S [c]) := by
  unfold signs
  simp [SX.S, sgn]
theorem in_S {c : Nat} {l : List Nat} : inS (SX.S [c]) (SX.S l) = decide (c ∈ l) := SX.in_one l c
theorem ne0 {l : List Nat} (h : 1 ≤ l.length) : ∃ c r, l = c :: r := by
  cases l with
  | nil => simp at h
  | cons c r => exact ⟨c, r, rfl⟩
/-! while, by a measure -/
theorem r_while (I : Nat → Gm → Store → Prop) (m0 : Nat) (hm : m0 < LL) (h0 : I m0 Γ M) (h : ∀ (m : Nat) (Γ' : Gm) (M' : Store) (N : Gm → Store → Prop), m ≤ m0 → I m Γ' M' → (∀ m' Γ2 M3, m' < m → I m' Γ2 M3 → N Γ2 M3) → tt Γ' M' (fun k M2 => (k = true → t1 Γ' M2 ⟨N, rt, nx, N, xx⟩) ∧ (k = false → nx Γ' M2)) (xx Γ')) : tWhile tt t1 Γ M ⟨nx, rt, bk, ct, xx⟩ :=
  ⟨m0, I, hm, h0, fun m Γ' M' hm hI => h m Γ' M' (fun Γ2 M3 => ∃ m', m' < m ∧ I m' Γ2 M3) hm hI fun m' Γ2 M3 h1 h2 => ⟨m', h1, h2⟩⟩
end
end Ev
-- EvEnd
namespace Ev
open PySem PySem.Spec PyProof.Rows L2
/-- a def of the text, whatever its defaults -/
structure FunA (K : PySem.W.Frag) (x qual : Str) (st : Stmt) (f : Addr) (fd : FuncData) : Prop where
  ex : ∃ (oc : Value) (od : Option Addr) (dV kV doc pm : Value) (an : Option Addr) (cdv ct : Value) (osl : Array (Option Value)),
    fd = PySem.W.fnOf x qual (defArgs st) (defBody st) (defScope st) dV kV doc pm an cdv ct ∧ K.lookup f = some ⟨oc, od, .func fd, osl⟩ ∧ PySem.W.codeIn K cdv qual = true
  kp : PySem.W.keepIn K (.ref f) = true
section
variable {P : Program} {w : World} {K : PySem.W.Frag} {mg : Str → Option Value} {base : Heap} {cs : CS}
theorem funA_mk {x qual : Str} {st : Stmt} {f : Addr} {oc : Value} {od an : Option Addr} {osl : Array (Option Value)} {dV kV doc pm cdv ct : Value} (l : K.lookup f = some ⟨oc, od, .func (PySem.W.fnOf x qual (defArgs st) (defBody st) (defScope st) dV kV doc pm an cdv ct), osl⟩)
    (c : PySem.W.codeIn K cdv qual = true) (k : PySem.W.keepIn K (.ref f) = true) : FunA K x qual st f (PySem.W.fnOf x qual (defArgs st) (defBody st) (defScope st) dV kV doc pm an cdv ct) := ⟨⟨oc, od, dV, kV, doc, pm, an, cdv, ct, osl, rfl, l, c⟩, k⟩
theorem fnG_ofA {x qual : Str} {st : Stmt} {f : Addr} {fd : FuncData} {N ps : List Str} {k : Nat} {sp : Sp} (F : FunA K x qual st f fd) (S : FnScope N ps (defScope st)) (len : ∀ vs H Q E, sp vs H Q E → vs.length = ps.length)
    (hbody : ∀ (cdv : Value) (A : Around) (outer : List Env) (s : Shared) (H : Hp) (vs : List V) (Q : VK) (E : XK), RoomG k (A.deeper (envOfC qual (defScope st) s.heap.objs.size f cdv)) → sp vs H Q E →
      ∃ t, PSs (cxOf (L2.CX P w) P w K mg base N qual (defScope st) f cdv A outer s H E) (defBody st) t ∧ t { nx := fun _ H' => Q .non H', rt := Q } (L2.start N vs) H) : FnG P w K mg base (L2.CX P w) (k + 1) f fd ps sp := by
  obtain ⟨oc, od, dV, kV, doc, pm, an, cdv, ct, osl, rfl, lk, hcd⟩ := F.ex
  refine ⟨len, fun A outer s H args us vs Q E hr e0 hb r hsp => LamX.run_ofS lk hcd S hr.room e0 hb r (len _ _ _ _ hsp) fun hr' => ?_⟩
  obtain ⟨t, h, q⟩ := hbody cdv A outer s H vs Q E ⟨hr', hr.gd⟩ hsp
  exact ⟨t, h, q⟩
theorem fn_ofA {x qual : Str} {st : Stmt} {f : Addr} {fd : FuncData} {N ps : List Str} {k ar c c0 : Nat} {S : SpX} {t : TfS} (F : FunA K x qual st f fd) (sc : FnScope N ps (defScope st)) (har : ps.length = ar) (hle : ar ≤ N.length)
    (hb : ∀ (cdv : Value) (A : Around) (outer : List Env) (s : Shared) (H : Hp) (E : XK), RoomG k (A.deeper (envOfC qual (defScope st) s.heap.objs.size f cdv)) → PSU cs (CxB P w K mg base N qual st f cdv A outer s H E) (WE E) c0 (defBody st) t) (hc : c0 ≤ c)
    (hS : ∀ (ds : List D) (M : Store) (post : DP) (xp : XP), ds.length = ar → S ds M post xp → t (G0 N ds) M { nx := fun _ M' => post .non M', rt := post, xx := fun _ => xp }) : FnG P w K mg base (L2.CX P w) (k + 1) f fd ps (spN cs ar c S) := by
  refine fnG_ofA F sc (fun vs H Q E ⟨u, n, ds, post, xp, A, hn, r, hl, hS, kn, ke⟩ => by rw [r.length, hl, har]) (fun cdv A outer s H vs Q E hr ⟨u, n, ds, post, xp, A0, hn, r, hl, hS', kn, ke⟩ => ?_)
  refine ⟨_, twss_pss _ _, ?_⟩
  exact (hb cdv A outer s H E hr).run u n H _ _ _ _ (at_start A0 r (by omega)) (by omega) (hS ds u.M post xp hl hS') ⟨fun Γ σ u' H' e B q => kn .non .non u' H' e (B.toWd.up (by omega)) rfl q, fun v d u' H' e B r q => kn v d u' H' e (B.up (by omega)) r q, fun _ _ _ _ _ _ q => q.elim, fun _ _ _ _ _ _ q => q.elim, fun cls od c fs Γ σ u' H' e B r q => ke cls od c fs u' H' e (B.toWd.up (by omega)) r q⟩
/-- arguments that are left out: the last ones of the defaults at T -/
theorem bindsD_mk {T : Addr} {oc : Value} {od : Option Addr} {its : Array Value} {m : Nat} {sl : Array (Option Value)} {fd : FuncData} {ps : List Str} {ds : List Value} (lT : K.lookup T = some ⟨oc, od, .seq its m, sl⟩)
    (h : ∀ us : List Value, us.length + ds.length = ps.length → ∃ k, bindArgs fd ⟨us, []⟩ = seqItems? (.ref T) >>= k ∧ k (some its) = pure (ps.zip (us ++ ds))) : Binds K fd ps ds := fun s us X hlen => by
  obtain ⟨k, e1, e2⟩ := h us (by simpa using hlen)
  refine BindsTo.of_looks fun M => ?_
  rw [e1]
  exact looks_items (its := its) X lT rfl (.of_pure e2)
/-! ### what the head's facts give -/
theorem kit_self {C : Addr} : PySem.W.kitOne K (.ref C) (.ref C) = some true := by
  unfold PySem.W.kitOne
  rw [if_pos (beq_self_eq_true _)]
theorem kit_sub {t : Value} {C : Addr} {b : Bool} (ne : t ≠ .ref C) (ic : PySem.W.isClsIn K C = true) (ty : PySem.W.typeIn K (.ref C) = some (.type "type")) (sub : PySem.W.subIn K t (.ref C) = some b) : PySem.W.kitOne K t (.ref C) = some b := by
  unfold PySem.W.kitOne
  rw [if_neg (by rw [beq_iff_eq]; exact ne)]
  unfold PySem.W.kitCls
  have hi : (PySem.W.clsIn K C).isSome = true := ic
  show (if ((PySem.W.clsIn K C).isSome && PySem.W.typeIn K (.ref C) == some (.type "type")) = true then PySem.W.subIn K t (.ref C) else none) = some b
  rw [hi, ty, if_pos (by simp), sub]
theorem kit_ty {C : Addr} {T : String} (hm : PySem.W.kitMeta T = true) (sub : PySem.W.subIn K (.ref C) (.type T) = some false) : PySem.W.kitOne K (.ref C) (.type T) = some false := by
  unfold PySem.W.kitOne
  rw [if_neg (by rw [beq_iff_eq]; nofun)]
  unfold PySem.W.kitCls
  dsimp only
  rw [if_pos hm, sub]
theorem tysB_all {p : Bt → Prop} (h1 : p .bool) (h2 : p .int) (h3 : p .str) (h4 : p .tuple) (h5 : p .list) (h6 : p .dict) : ∀ T ∈ tysB, p T := by
  intro T hT
  simp only [tysB, List.mem_cons, List.not_mem_nil, or_false] at hT
  rcases hT with rfl | rfl | rfl | rfl | rfl | rfl <;> assumption
theorem tysA_all {p : Bt → Prop} (h0 : p .none) (h1 : p .bool) (h2 : p .int) (h3 : p .str) (h4 : p .tuple) (h5 : p .list) (h6 : p .dict) : ∀ T ∈ tysA, p T := by
  intro T hT
  simp only [tysA, List.mem_cons, List.not_mem_nil, or_false] at hT
  rcases hT with rfl | rfl | rfl | rfl | rfl | rfl | rfl <;> assumption
theorem all_one {α : Type} {p : α → Prop} {a : α} (h : p a) : ∀ x ∈ [a], p x := fun x hx => by
  rw [List.mem_singleton] at hx; subst hx; exact h
theorem all_nil {α : Type} {p : α → Prop} : ∀ x ∈ ([] : List α), p x := fun x hx => by cases hx
theorem all_cons {α : Type} {p : α → Prop} {a : α} {l : List α} (h : p a) (r : ∀ x ∈ l, p x) : ∀ x ∈ a :: l, p x := fun x hx => by
  rcases List.mem_cons.mp hx with rfl | hx
  · exact h
  · exact r x hx
theorem cls_at {n : Nat} {C C' : Addr} (h : cs.cls[n]? = some (.ref C)) (h' : cs.cls[n]? = some (.ref C')) : C = C' := by
  rw [h] at h'; cases h'; rfl
theorem at_cls {n : Nat} {C : Addr} {p : Addr → Prop} (h : cs.cls[n]? = some (.ref C)) (q : p C) : ∀ C', cs.cls[n]? = some (.ref C') → p C' := fun C' h' => cls_at h h' ▸ q
theorem fld_mk {f : Str} {cl : List Nat} (h : ∀ c ∈ cl, ∀ C, cs.cls[c]? = some (.ref C) → Cls K C ∧ NoAttr K C f) : FldF K cs f cl := ⟨h⟩
def refOrNone : Option Value → Bool | none => true | some (.ref _) => true | _ => false
theorem opF_mk {n : Nat} {C : Addr} {op : Operator} {Ts : List Bt} {s : Str} {o : Option Value} (h : cs.cls[n]? = some (.ref C)) (first : PySem.W.selfFirst K C = true) (e : dunderR op.info.2 = s) (hr : PySem.W.findIn K (.ref C) s = some o) (ho : refOrNone o = true)
    (ht : ∀ T ∈ Ts, (PySem.W.findIn K (.type T.nm) (PySem.dunder op.info.2)).isSome = true ∧ (PySem.W.findIn K (.type T.nm) (dunderR op.info.2)).isSome = true ∧ PySem.W.subIn K (.type T.nm) (.ref C) = some false) : OpF K cs n op Ts :=
  ⟨at_cls h ⟨first, by
    rw [e, hr]
    cases o with
    | none => rfl
    | some v => cases v <;> first | rfl | (exact ho), ht⟩⟩
theorem orF_mk {n : Nat} {C g : Addr} {op : Operator} {s : Str} (h : cs.cls[n]? = some (.ref C)) (first : PySem.W.selfFirst K C = true) (e : PySem.dunder op.info.2 = s) (hr : PySem.W.findIn K (.ref C) s = some (some (.ref g))) (sub : PySem.W.subIn K (.ref C) (.type "int") = some false) : OrF K cs n op :=
  ⟨at_cls h ⟨first, ⟨g, by rw [e, hr]⟩, sub⟩⟩
theorem noni_cons {v : V} {l : List V} {T : List (Addr × Str)} (h : ∀ x, RelV v x → x ≠ .notImplemented) (r : NoNI ⟨l, T⟩) : NoNI ⟨v :: l, T⟩ := fun u hu => by
  rcases List.mem_cons.mp hu with rfl | hu
  · exact h
  · exact r u hu
theorem noni_nil {T : List (Addr × Str)} : NoNI ⟨[], T⟩ := fun u hu => by cases hu
theorem ni_ref {a : Addr} : ∀ x, RelV (.ref a) x → x ≠ .notImplemented := fun x r => by
  have r : x = Value.ref a := r
  rw [r]; nofun
theorem ni_int {i : Int} : ∀ x, RelV (.int i) x → x ≠ .notImplemented := fun x r => by
  obtain ⟨t, r⟩ := r
  rw [r]; nofun
/-- a law without lambdas -/
theorem walkG0 {l : PySem.W.OpenLaw} {k : Nat} {q : Program} {loose : List Str} {XP : (Str → Option Value) → Heap → Prop} {YP : World → Heap → Prop} {d : DefRec} {K : Params → PySem.W.Frag} {x : Str}
    (most : l.most = some 63) (dfl : d.params.defaults = []) (rm : Room k callerA) (hY : ∀ (w : World) (h : Heap), YP w h → (K w.params).In h)
    (F : ∀ (w : World) (mg : Str → Option Value) (fa : Addr) (h : Heap), (K w.params).In h → h.Ns mainGlobals mg → mg d.name = some (.ref fa) →
      ∃ (fd : FuncData), (∀ (s : Shared) (u : Value), BindsTo s fd ⟨[u], []⟩ [(x, u)]) ∧ ∀ base : Heap, (K w.params).In base → base.Ns mainGlobals mg → FnG l.prog w (K w.params) mg base (L2.CX l.prog w) k fa fd [x] (spLaw (K w.params) [])) :
    PySem.W.WalkO q loose XP YP l.row.toRowW d [] (fun f vs => PySem.call f vs) :=
  walkG most dfl rm hY fun w mg fa h kin ns hm _ => by
    obtain ⟨fd, h1, h2⟩ := F w mg fa h kin ns hm
    exact ⟨fd, [], [], nofun, nofun, nofun, h1, fun base kb nb _ => h2 base kb nb⟩
end
end Ev
-- EvAA
namespace PySem.W
open PySem PySem.Spec PySem.Calls PyProof.Rows
section
variable {P0 : Program} {w0 : World} {A0 : Around} {E0 : Value → Shared → Prop} {s0 : Shared} {K0 : Frag} {a0 C0 : Addr} {o0 : Obj} {d0 : Option Obj}
theorem fo_dat {nm : Str} {at0 gt0 : Value} (hc : (clsIn K0 C0).isSome = true) (h1 : findIn K0 (.ref C0) nm = some (some at0)) (h2 : specialIn K0 at0 "__get__" = some (some gt0)) (h3 : takesIn K0 at0 = some true) : findObj K0 C0 d0 nm = some (.bind gt0 at0) := by
  obtain ⟨cd, hc⟩ := Option.isSome_iff_exists.mp hc
  unfold findObj; rw [hc, Option.bind_some, h1, Option.bind_some]; simp [h2, h3]
theorem cls_of_exc {Q0 : Option Value → Shared → Prop} (T : L2.ExcC K0 C0) (X : K0.In s0.heap) (I : InstAt s0.heap a0 o0 C0 d0) (h : Q0 (some (.ref C0)) { s0 with toks := s0.toks + 1 }) : wpAny (model P0 w0) A0 (getAttr? (.ref a0) "__class__") Q0 E0 s0 := by
  have hf : findObj K0 C0 d0 "__class__" = some (.bind (.builtin "getset_descriptor.__get__") (.builtin "object.__class__")) := fo_dat (by obtain ⟨cd, hc, _⟩ := any_some T.hd; rw [hc]; rfl) T.ha T.hn T.ht
  obtain ⟨hp, g, d, t, os⟩ := s0
  have la := I.type (M := model P0 w0); have lb := looks_findIn (M := model P0 w0) X T.hg; have lc := looks_findIn (M := model P0 w0) X T.hk; have ld := looks_find (M := model P0 w0) X I hf
  have sub : Looks (model P0 w0) hp (isInstance (.ref a0) (.type "BaseException")) true := la.andThen (looks_subIn X T.hs)
  have q0 : (false && onTheHeap (Value.builtin "BaseException.__getattribute__")) = false := rfl
  have q1 : (onTheHeap (Value.ref C0) && Value.builtin "BaseException.__getattribute__" == Value.builtin "object.__getattribute__") = false := by rw [show (Value.builtin "BaseException.__getattribute__" == Value.builtin "object.__getattribute__") = false by decide +kernel]; rfl
  unfold getAttr? getAttrBy? getAttrBy; refine wpAny_bind (wpAny_mkText (wpAny_bind (wpAny_attempt (wpAny_holding (wpAny_bind (la.at (wpAny_bind (lb.at ?_))))))))
  show wpAny _ _ (if (onTheHeap (Value.ref C0) && Value.builtin "BaseException.__getattribute__" == Value.builtin "object.__getattribute__") = true then _ else _) _ _ _
  rw [q1, if_neg Bool.false_ne_true]; unfold getAttrByItsOwn hookBefore; refine wpAny_bind ?_; rw [if_pos (show onTheHeap (Value.ref C0) = true from rfl)]; refine lc.at ?_
  refine wpAny_bind (wpAny_attempt (wpAny_holding ?_)); unfold callGetattribute; rw [q0, if_neg Bool.false_ne_true]; unfold boundAndCalled; rw [PySem.F.excAttr_ValueError.ga.bind (.ref a0)]; refine wpAny_bind (wpAny_pure ?_)
  show wpAny _ _ (call (.builtin "BaseException.__getattribute__") [.ref a0, .str "__class__" t]) _ _ _
  refine wpAny_call (codeAny_call_builtin PySem.F.excAttr_ValueError.ga.plain PySem.F.entry_bexc_ga ?_)
  refine @check_slot (model P0 w0) _ _ ⟨hp, g, d, t + 1, os⟩ "BaseException.__getattribute__" "BaseException" "__getattribute__" (.ref a0) [.str "__class__" t] [] _ (by decide +kernel) (by decide +kernel) sub (PySem.F.args_bexc_ga (.ref a0) (.str "__class__" t)) ?_
  unfold Builtin.«object.__getattribute__»; refine wpAny_bind (wpAny_of_eq (a := ((Value.ref a0 : Value), [Value.str "__class__" t])) (by first | rfl | (simp only [slotArgs]; rfl)) ?_)
  refine wpAny_bind (wpAny_pure (wpAny_bind (la.at (wpAny_bind (ld.at ?_)))))
  show wpAny _ _ (holding [Value.builtin "object.__class__"] (call (.builtin "getset_descriptor.__get__") [.builtin "object.__class__", .ref a0, .ref C0]) >>= ret) _ _ _
  refine wpAny_bind (wpAny_holding (wpAny_call (class_get (s := ⟨hp, g, d, t + 1, os⟩) (ox := o0) (od := d0) X I T.hm ?_)))
  refine wpAny_pure ?_; show wpAny _ _ (handedOut (.ref C0)) _ _ _; rw [handedOut_of (v := .ref C0) rfl]
  first | exact wpAny_pure (wpAny_pure h) | exact wpAny_pure h | exact wpAny_pure (wpAny_bind (wpAny_pure (wpAny_pure h)))
theorem kit_of_exc (T : L2.ExcC K0 C0) : KitX K0 (.ref a0) (.ref C0) (fun h => InstAt h a0 o0 C0 d0) :=
  { ty := fun _ _ _ I => I.type
    it := fun _ _ X _ => by
      obtain ⟨cD, hD, _⟩ := any_some T.hd
      unfold clsIn at hD; split at hD
      · rename_i ho; intro A' Q' E' s' k q; unfold isType loadHead; exact wpAny_bind (wpAny_loadPart (k _ _ (X _ _ ho)) (wpAny_pure q))
      · cases hD
    ne := fun h tp dd its n sl X htp => by
      obtain ⟨cD, hD, _⟩ := any_some T.hd
      refine Bool.eq_false_iff.mpr fun q => ?_; have e : C0 = tp := Value.ref.inj (beq_iff_eq.mp q); subst e
      unfold clsIn at hD; split at hD
      · rename_i ho; have z := (X _ _ ho).symm.trans htp; cases z
      · cases hD
    ca := fun X I k => cls_of_exc T X I k }
end
end PySem.W
namespace Ev
open PySem PySem.Spec PyProof.Rows L2 ClX
/-! ### isinstance of a caught error -/
structure IsxK (K : PySem.W.Frag) (cs : CS) (os ks : List Nat) (sub : Nat → Nat → Bool) : Prop where
  at_ : ∀ c ∈ os, ∃ C, cs.cls[c]? = some (.ref C) ∧ L2.ExcC K C ∧ ∀ k ∈ ks, ∃ v cv, cs.cls[k]? = some v ∧ (∀ u, RelV v u → u = cv) ∧ PySem.W.kitOne K (.ref C) cv = some (sub c k)
def tIsx (os ks : List Nat) (sub : Nat → Nat → Bool) : TfC := fun ds M post _ => ∃ a c fs k, ds = [.exc a c fs, .cls k] ∧ c ∈ os ∧ k ∈ ks ∧ post (.bl (sub c k)) M
section
variable {cs : CS} {X : Cx} {W : WX}
theorem po_isx {os ks : List Nat} {sub : Nat → Nat → Bool} (F : IsxK X.K cs os ks sub) : POC cs X W 0 (.builtin "isinstance") (tIsx os ks sub) := ⟨fun u n H σ ds xs post xp Q A hn rx hq kn kx => by
  obtain ⟨a, c, fs, k, ed, h1, h2, q⟩ := hq
  subst ed
  obtain ⟨x, y, e, r1, r2⟩ := rx.two
  subst e
  obtain ⟨C, hC, T, hk⟩ := F.at_ c h1
  obtain ⟨v, cv, hv, huv, kt⟩ := hk k h2
  obtain ⟨C', od, us, ev, fa, hc, g, rf, z⟩ := r1.excE
  rw [A.ks.1, hC] at hc
  cases hc
  subst ev
  have r2 : u.k.cls[k]? = some y ∧ y ≠ .non := r2
  rw [A.ks.1, hv] at r2
  obtain rfl : v = y := by have := r2.1; injection this
  refine ⟨fun pins s us' I r => ?_⟩
  cases r with
  | cons ra rr =>
    cases rr with
    | cons rb rr =>
      cases rr
      cases ra
      have ec := huv _ rb
      rw [ec]
      obtain ⟨⟨oe, vs, cv', rc, ho, hz, hd⟩, _, _⟩ := (show _ ∧ _ ∧ _ from I.hok a _ g)
      obtain rfl : cv' = Value.ref C := rc
      have fin : ∀ od', PySem.W.InstAt s.heap a oe C od' → wpAny (model X.prog X.w) X.A (call (.builtin "isinstance") [.ref a, cv]) (EP X pins σ Q) X.xe s := fun od' J =>
        PySem.W.kia_one (PySem.W.kit_of_exc T) I.kIn J kt (fun z => nomatch z) fun tk => ⟨.bl (sub c k), H, I.kept (t' := tk) fun _ _ z => z, rfl, kn.here (d := .bl (sub c k)) A rfl q⟩
      rcases z with ⟨_, z⟩ | ⟨dd, z1, z2, z3⟩
      · subst z
        exact fin none ⟨ho, hz.1, by unfold PySem.W.notCls; rw [hd] <;> rfl, by rw [hz.2]; trivial⟩
      · subst z1
        have hx : ObjOk X.prog X.w H s.heap dd (.xd us) := I.hok dd _ z3
        obtain ⟨mA, hns, hr⟩ := hx
        obtain ⟨od, ho2, hl⟩ := lookIn_ns hns
        exact fin (some od) ⟨ho, hz.1, by unfold PySem.W.notCls; rw [hd] <;> rfl, by rw [hz.2]; exact ho2⟩⟩
end
theorem r_isx {M : Store} {post : DP} {xp : XP} {os ks : List Nat} {sub : Nat → Nat → Bool} {a : Addr} {c k : Nat} {fs : List (Str × D)} {b : Bool} (h1 : c ∈ os) (h2 : k ∈ ks) (h3 : sub c k = b) (q : post (.bl b) M) : tIsx os ks sub [.exc a c fs, .cls k] M post xp := ⟨a, c, fs, k, rfl, h1, h2, by rw [h3]; exact q⟩
theorem r_fd {Γ : Gm} {d : D} {A : Prop} (h : Γ[0]? = some (some d)) (q : A) : Γ[0]? = some (some d) ∧ A := ⟨h, q⟩
theorem r_hear {S : TfL → TfL} {tb : TfE} {Γ : Gm} {M : Store} {post : DP} {xp : XP} (q : S (tb Γ) M post xp) : tHear S tb Γ M post xp := q
/-- a field of a caught error -/
structure XfK (K : PySem.W.Frag) (cs : CS) (f : Str) (cl : List Nat) : Prop where
  at_ : ∀ c ∈ cl, ∃ C, cs.cls[c]? = some (.ref C) ∧ XfC K C ∧ PySem.W.findIn K (.ref C) f = some none
def tXf (f : Str) (cl : List Nat) : Tf1 := fun d M post _ => ∃ a c fs r, d = .exc a c fs ∧ c ∈ cl ∧ fs.lookup f = some r ∧ post r M
theorem pat_xfk {cs : CS} {X : Cx} {W : WX} {f : Str} {cl : List Nat} (F : XfK X.K cs f cl) : PAt cs X W 0 f (tXf f cl) := ⟨fun u n H σ d x post xp Q A hn rx hq kn kx b pins s v I rv => by
  obtain ⟨a, c, fs, r, ed, h1, h3, q⟩ := hq
  obtain ⟨C, hC, hx⟩ := F.at_ c h1
  have G : XfF X.K cs f cl := ⟨fun c' hc' C' hC' => by
    obtain ⟨C2, h2, h3⟩ := F.at_ c' hc'
    rw [h2] at hC'; cases hC'
    exact h3⟩
  exact (pat_xf (W := W) G).run u n H σ d x post xp Q A hn rx ⟨a, c, fs, r, ed, h1, ⟨C, hC⟩, h3, q⟩ kn kx b pins s v I rv⟩
theorem r_xf {f : Str} {cl : List Nat} {M : Store} {post : DP} {xp : XP} {a : Addr} {c : Nat} {fs : List (Str × D)} {r : D} (h : fs.lookup f = some r) (hc : c ∈ cl) (q : post r M) : tXf f cl (.exc a c fs) M post xp := ⟨a, c, fs, r, rfl, hc, h, q⟩
abbrev lamq (q : Str) : Str := q ++ ".<locals>." ++ "<lambda>"
end Ev
-- EvAB
namespace Ev
open PySem PySem.Spec PyProof.Rows L2 ClX
/-! ### calls by keywords alone -/
/-- the values of the keywords, in the order of the parameters -/
def pick {α : Type} (is : List Nat) (l : List α) : List α := is.filterMap fun i => l[i]?
theorem RepL.pick {u : U} {H : Hp} {ds : List D} {vs : List V} (r : RepL u H ds vs) : ∀ is : List Nat, RepL u H (pick is ds) (pick is vs)
  | [] => RepL.nil
  | i :: is => by
    have ih := r.pick is
    unfold Ev.pick at ih ⊢
    cases hd : ds[i]? with
    | none =>
      have hv : vs[i]? = none := List.getElem?_eq_none_iff.mpr (by rw [r.length]; exact List.getElem?_eq_none_iff.mp hd)
      rw [List.filterMap_cons_none (by simpa using hd), List.filterMap_cons_none (by simpa using hv)]; exact ih
    | some d =>
      obtain ⟨v, hv, rv⟩ := r.get hd
      rw [List.filterMap_cons_some (by simpa using hd), List.filterMap_cons_some (by simpa using hv)]; exact RepL.cons rv ih
theorem vals_pick {vs : List V} {us : List Value} (r : Vals vs us) : ∀ is : List Nat, Vals (pick is vs) (pick is us)
  | [] => .nil
  | i :: is => by
    have ih := vals_pick r is
    unfold Ev.pick at ih ⊢
    cases hd : vs[i]? with
    | none =>
      have hv : us[i]? = none := List.getElem?_eq_none_iff.mpr (by rw [← r.length]; exact List.getElem?_eq_none_iff.mp hd)
      rw [List.filterMap_cons_none (by simpa using hd), List.filterMap_cons_none (by simpa using hv)]; exact ih
    | some d =>
      obtain ⟨u, hu, rv⟩ := r.get hd
      rw [List.filterMap_cons_some (by simpa using hd), List.filterMap_cons_some (by simpa using hu)]; exact .cons rv ih
/-- how a call binds whose last arguments are told by the keywords ks -/
def KwB (K : PySem.W.Frag) (fd : FuncData) (ps : List Str) (n : Nat) (ks : List Str) (is : List Nat) : Prop := ∀ (s : Shared) (us ws : List Value), K.In s.heap → us.length = n → ws.length = ks.length → BindsTo s fd ⟨us, ks.zip ws⟩ (ps.zip (us ++ pick is ws))
theorem kwB_all {K : PySem.W.Frag} {fd : FuncData} {ps ks : List Str} {n : Nat} {is : List Nat} (h : ∀ us ws : List Value, us.length = n → ws.length = ks.length → bindArgs fd ⟨us, ks.zip ws⟩ = pure (ps.zip (us ++ pick is ws))) : KwB K fd ps n ks is := fun s us ws _ h1 h2 => .of_eq (h us ws h1 h2)
structure TWK (X : Cx) (kws : List Keyword) (σ : L2.St) (H : Hp) (Q : List V → Hp → Prop) : Prop where
  run : ∀ (pos : Pos) (pins : List (Addr × Obj)) (s : Shared), Inv X pins σ H s → wpAny (model X.prog X.w) X.A (evalAll ((backToKw pos (keywordEach kws X.env)).map (·.2))) (AP X pins σ Q) X.xe s
theorem twk_pk (X : Cx) (kws : List Keyword) : PK X kws (TWK X kws) := ⟨fun pos pins s σ H Q I h => h.run pos pins s I⟩
structure PXK (cs : CS) (X : Cx) (W : WX) (c : Nat) (kws : List Keyword) (t : TfA) : Prop where
  run : ∀ (u : U) (n : Nat) (H : Hp) (σ : L2.St) (Γ : Gm) (post : List D → Store → Prop) (xp : XP) (Q : List V → Hp → Prop), At cs u n H σ Γ → n + c ≤ lim → t Γ u.M post xp → KL cs u (n + c) H post Q → KX cs u (n + c) H σ xp W → TWK X kws σ H Q
section
variable {cs : CS} {X : Cx} {W : WX} {c c1 c2 c3 k j ar nc : Nat} {pos : Pos} {e : Expr} {kws : List Keyword} {ks : List Str} {is : List Nat}
theorem pxk_nil : PXK cs X W 0 [] tNil := ⟨fun u n H σ Γ post xp Q A hn q kn kx => ⟨fun pos pins s I => pk_nil.run pos pins s σ H Q I (kn [] [] u H Nx.refl A.toWd RepL.nil q)⟩⟩
theorem pxk_cons {nm : Option Str} {kpos : Pos} {ta : TfE} {tr : TfA} (ha : PX cs X W c1 e ta) (hr : PXK cs X W c2 kws tr) : PXK cs X W (c1 + c2) (⟨nm, e, kpos⟩ :: kws) (tCons ta tr) := ⟨fun u n H σ Γ post xp Q A hn q kn kx => ⟨fun pos pins s I => by
  refine (pk_cons (tw_pe X e) (twk_pk X kws)).run pos pins s σ H Q I ?_
  refine ha.run u n H σ Γ _ xp _ A (by omega) q (fun v d u1 H1 e1 B1 r1 q1 => ?_) (kx.le (by omega))
  refine hr.run u1 (n + c1) H1 σ Γ _ xp _ (A.step e1 B1) (by omega) q1 (fun vs ds u2 H2 e2 B2 r2 q2 => ?_) (kx.go A.toWd e1 (by omega))
  exact kn (v :: vs) (d :: ds) u2 H2 (e1.trans A.toWd e2) (B2.up (by omega)) (RepL.cons (r1.go B1 e2) r2) q2⟩⟩
/-- C.m(k = e, ..), a static method -/
structure StK (P : Program) (w : World) (K : PySem.W.Frag) (mg : Str → Option Value) (base : Heap) (cs : CS) (k nc : Nat) (m : Str) (ar c : Nat) (S : SpX) (ks : List Str) (is : List Nat) : Prop where
  ex : ∃ (C p f : Addr) (fd : FuncData) (ps : List Str) (mc : Value) (rest : List Value), cs.cls[nc]? = some (.ref C) ∧ ClX.CRead K C mc ∧ PySem.W.findCls K (.ref C) mc m = some (.get (.builtin "staticmethod.__get__") (.ref p) .none (.ref C)) ∧ PySem.W.recIn K p "staticmethod" = some (.ref f :: rest) ∧
    PySem.W.keepIn K (.ref f) = true ∧ FnG P w K mg base (L2.CX P w) k f fd ps (spN cs ar c S) ∧ KwB K fd ps 0 ks is
def tStatK (nc ar nk : Nat) (is : List Nat) (S : SpX) (to : TfE) (tk : TfA) : TfE := fun Γ M post xp => to Γ M (fun d M1 => d = .cls nc ∧ tk Γ M1 (fun ds M2 => ds.length = nk ∧ (pick is ds).length = ar ∧ S (pick is ds) M2 post xp) xp) xp
theorem px_staticK {m : Str} {o : Expr} {apos : Pos} {S : SpX} {pl : Sem Bool} {to : TfE} {ta : TfA} (F : StK X.prog X.w X.K X.mg X.base cs k nc m ar c3 S ks is) (hr : RoomG j X.A) (tk : Takes X W) (ho : PX cs X W c1 o to) (ha : PXK cs X W c2 kws ta) (hk : k ≤ j := by decide)
    (hall : (backToKw pos (keywordEach kws X.env)).all (·.1.isSome) = true := by rfl) (hks : (backToKw pos (keywordEach kws X.env)).filterMap (·.1) = ks := by rfl) (hpl : ((backTo pos (starEach [] X.env)).any (·.1) || (backToKw pos (keywordEach kws X.env)).any (·.1.isNone)) = false := by rfl)
    (ht : eval (.Call (.Attribute o m apos) [] kws pos) X.env = (do let ov ← eval o X.env; standAt apos.atName; let (f, first) ← holding [ov] (getMethod ov m pl); callWith pos f first (backTo pos (starEach [] X.env)) (backToKw pos (keywordEach kws X.env))) := by rfl) :
    PX cs X W (c1 + c2 + c3) (.Call (.Attribute o m apos) [] kws pos) (tStatK nc ar ks.length is S to ta) := ⟨fun u n H σ Γ post xp Q A hn q kn kx => by
  obtain ⟨C, p, f, fd, ps, mc, rest, hC, hrd, hfc, hrc, hkp, F, hb⟩ := F.ex
  refine TW.mk fun pins s I => ?_
  refine PySem.W.methodCall_KW (pl := pl) (thn (ho.run u n H σ Γ _ xp (fun x H1 => x = .ref C ∧ ∀ s1, Inv X pins σ H1 s1 → wpAny (model X.prog X.w) X.A (getMethod (.ref C) m pl) (fun fx s₂ => wpAny (model X.prog X.w) X.A (callWith pos fx.1 fx.2 (backTo pos (starEach [] X.env)) (backToKw pos (keywordEach kws X.env))) (EP X pins σ Q) X.xe s₂) X.xe s1) A (by omega) q (fun v d u1 H1 e1 B1 r1 ⟨ed, h1⟩ => ?_) (kx.le (by omega)) pins s I) fun v s1 ⟨x, H1, I1, rx, ex, q⟩ => ?_) ht
  · subst ed
    have r1 : u1.k.cls[nc]? = some v ∧ v ≠ .non := r1
    rw [B1.ks.1, hC] at r1
    cases r1.1
    refine ⟨rfl, fun s1 I1 => ?_⟩
    refine PySem.W.method_cls I1.kIn hrd.ga (PySem.W.cls_bind I1.kIn hrd.rd hfc (wpAny_call (PySem.W.sm_get (s := { s1 with toks := s1.toks + 1 }) I1.kIn hrc (PySem.W.handed_on rfl ?_))))
    have I2 : Inv X pins σ H1 { s1 with toks := s1.toks + 1 } := I1.tok _
    refine PySem.W.callWith_KW0 (first := []) (h₀ := X.base) I.ok.mod.kin hkp hall (thn ((ha.run u1 (n + c1) H1 σ Γ _ xp (fun vs H2 => vs.length = ks.length ∧ spN cs ar c3 S (pick is vs) H2 Q (fun cls d H' => W cls d σ H')) (A.step e1 B1) (by omega) h1 (fun vs ds u2 H2 e2 B2 r2 ⟨hl1, hl2, hS⟩ => ?_) (kx.go A.toWd e1 (by omega))).run pos pins _ I2) fun us s2 ⟨vs, H2, I2, r, hl, q⟩ => ⟨I2.kIn, ?_⟩) hpl
    · have e12 := e1.trans A.toWd e2
      exact ⟨by rw [r2.length, hl1], u2, n + c1 + c2, _, post, xp, B2, by omega, r2.pick is, hl2, hS, kn.go A.toWd e12 (by omega), fun cls od c fs u' H' e3 B3 r q => kx cls od c fs u' H' (e12.trans A.toWd e3) (B3.up (by omega)) r q⟩
    · rw [hks]
      exact run_g F (hr.mono hk) (fun e s' z => takes_call tk I2 z) I2 (vals_pick r is) (hb s2 [] us I2.kIn rfl (by rw [← r.length, hl])) q
  · subst ex
    obtain rfl : v = Value.ref C := rx
    exact q s1 I1⟩
/-- o.m(k = e, ..) -/
structure MtK (P : Program) (w : World) (K : PySem.W.Frag) (mg : Str → Option Value) (base : Heap) (cs : CS) (k : Nat) (n : Nat) (m : Str) (ar c : Nat) (S : SpX) (ks : List Str) (is : List Nat) : Prop where
  ex : ∃ (C f : Addr) (fd : FuncData) (ps : List Str), cs.cls[n]? = some (.ref C) ∧ Cls K C ∧ Meth K C m f ∧ FnG P w K mg base (L2.CX P w) k f fd ps (spN cs ar c S) ∧ KwB K fd ps 1 ks is
def tMethK (nc : Nat) (m : Str) (ar nk : Nat) (is : List Nat) (S : SpX) (to : TfE) (ta : TfA) : TfE := fun Γ M post xp => to Γ M (fun d M1 => (∃ fs, insOf M1 d = some (nc, fs) ∧ fs.lookup m = none) ∧ ta Γ M1 (fun ds M2 => ds.length = nk ∧ (pick is ds).length + 1 = ar ∧ S (d :: pick is ds) M2 post xp) xp) xp
theorem px_methK {m : Str} {o : Expr} {apos : Pos} {S : SpX} {pl : Sem Bool} {to : TfE} {ta : TfA} (F : MtK X.prog X.w X.K X.mg X.base cs k nc m ar c3 S ks is) (hr : RoomG j X.A) (tk : Takes X W) (ho : PX cs X W c1 o to) (ha : PXK cs X W c2 kws ta) (hk : k ≤ j := by decide)
    (hall : (backToKw pos (keywordEach kws X.env)).all (·.1.isSome) = true := by rfl) (hks : (backToKw pos (keywordEach kws X.env)).filterMap (·.1) = ks := by rfl) (hpl : ((backTo pos (starEach [] X.env)).any (·.1) || (backToKw pos (keywordEach kws X.env)).any (·.1.isNone)) = false := by rfl)
    (ht : eval (.Call (.Attribute o m apos) [] kws pos) X.env = (do let ov ← eval o X.env; standAt apos.atName; let (f, first) ← holding [ov] (getMethod ov m pl); callWith pos f first (backTo pos (starEach [] X.env)) (backToKw pos (keywordEach kws X.env))) := by rfl) :
    PX cs X W (c1 + c2 + c3) (.Call (.Attribute o m apos) [] kws pos) (tMethK nc m ar ks.length is S to ta) := ⟨fun u n H σ Γ post xp Q A hn q kn kx => by
  obtain ⟨C, f, fd, ps, hC, cl, hm, F, hb⟩ := F.ex
  refine TW.mk fun pins s I => ?_
  refine PySem.W.methodCall_KW (pl := pl) (thn (ho.run u n H σ Γ _ xp (fun x H1 => ∀ s1 v, Inv X pins σ H1 s1 → RelV x v → wpAny (model X.prog X.w) X.A (getMethod v m pl) (fun fx s₂ => wpAny (model X.prog X.w) X.A (callWith pos fx.1 fx.2 (backTo pos (starEach [] X.env)) (backToKw pos (keywordEach kws X.env))) (EP X pins σ Q) X.xe s₂) X.xe s1) A (by omega) q (fun v d u1 H1 e1 B1 r1 ⟨⟨fs, hi, hl⟩, h1⟩ s1 v' I1 rv => ?_) (kx.le (by omega)) pins s I) fun v s1 ⟨x, H1, I1, rx, q⟩ => q s1 v I1 rx) ht
  obtain ⟨a', C', dx, us0, ev, hC', g, rf⟩ := ins_rep B1 hi r1
  rw [hC] at hC'; cases hC'
  subst ev
  obtain rfl : v' = Value.ref a' := rv
  refine getmeth_ok I1 g cl hm (rf.lookup.2 hl) (PySem.W.callWith_KW0 (first := [.ref a']) (h₀ := X.base) I1.ok.mod.kin hm.kp hall (thn ((ha.run u1 (n + c1) H1 σ Γ _ xp (fun vs H2 => vs.length = ks.length ∧ spN cs ar c3 S (.ref a' :: pick is vs) H2 Q (fun cls d H' => W cls d σ H')) (A.step e1 B1) (by omega) h1 (fun vs ds u2 H2 e2 B2 r2 ⟨hl1, hl2, hS⟩ => ?_) (kx.go A.toWd e1 (by omega))).run pos pins s1 I1) fun us s2 ⟨vs, H2, I2, r, hl, q⟩ => ⟨I2.kIn, ?_⟩) hpl)
  · have e12 := e1.trans A.toWd e2
    exact ⟨by rw [r2.length, hl1], u2, n + c1 + c2, d :: pick is ds, post, xp, B2, by omega, RepL.cons (r1.go B1 e2) (r2.pick is), by simpa using hl2, hS, kn.go A.toWd e12 (by omega), fun cls od c fs u' H' e3 B3 r q => kx cls od c fs u' H' (e12.trans A.toWd e3) (B3.up (by omega)) r q⟩
  · rw [hks]
    exact run_g (us := [.ref a']) F (hr.mono hk) (fun e s' z => takes_call tk I2 z) I2 (show Vals (.ref a' :: pick is vs) (.ref a' :: pick is us) from .cons rfl (vals_pick r is)) (by simpa using hb s2 [.ref a'] us I2.kIn rfl (by rw [← r.length, hl])) q⟩
/-- C(k = e, ..), the instance never changes -/
structure MkKw (P : Program) (w : World) (K : PySem.W.Frag) (mg : Str → Option Value) (base : Heap) (cs : CS) (k : Nat) (x : Str) (n : Nat) (ar c : Nat) (S : SpX) (ks : List Str) (is : List Nat) : Prop where
  ex : ∃ (C f : Addr) (fd : FuncData) (ps : List Str), cs.cls[n]? = some (.ref C) ∧ Mk K C f ∧ FnG P w K mg base (L2.CX P w) k f fd ps (spN cs ar c S) ∧ mg x = some (.ref C) ∧ KwB K fd ps 1 ks is
def tMkK (nc ar nk : Nat) (is : List Nat) (S : SpX) (tk : TfA) : TfE := fun Γ M post xp => tk Γ M (fun ds M1 => ds.length = nk ∧ mkK nc ar S post xp (pick is ds) M1) xp
theorem px_mkKw {x : Str} {p : Pos} {S : SpX} {ta : TfA} (F : MkKw X.prog X.w X.K X.mg X.base cs k x nc ar c2 S ks is) (hr : RoomG j X.A) (tk : Takes X W) (ha : PXK cs X W c1 kws ta) (hk : k + 1 ≤ j := by decide) (hg : Gl X x := by rfl) (hdb : (x == ("__debug__" : Str)) = false := by decide)
    (hall : (backToKw pos (keywordEach kws X.env)).all (·.1.isSome) = true := by rfl) (hks : (backToKw pos (keywordEach kws X.env)).filterMap (·.1) = ks := by rfl) (hpl : ((backTo pos (starEach [] X.env)).any (·.1) || (backToKw pos (keywordEach kws X.env)).any (·.1.isNone)) = false := by rfl) : PX cs X W (c1 + c2) (.Call (.Name x p) [] kws pos) (tMkK nc ar ks.length is S ta) := ⟨fun u n H σ Γ post xp Q A hn q kn kx => by
  obtain ⟨C, f, fd, ps, hC, M, F, hm, hb⟩ := F.ex
  refine TW.mk fun pins s I => ?_
  refine wpAny_Call_Name_kw (ld_glob I hg hm (PySem.W.callWith_KW0 (first := []) (h₀ := X.base) I.ok.mod.kin M.kp hall (thn ((ha.run u n H σ Γ _ xp (fun vs H1 => vs.length = ks.length ∧ ∀ x' dx, H1 x' = none → H1 dx = none → dx ≠ x' → spN cs ar c2 S (.ref x' :: pick is vs) (upd (upd H1 dx (.own x')) x' (.ins C dx [])) (fun v H2 => v = .non ∧ Q (.ref x') H2) (fun cls d H' => W cls d σ H')) A (by omega) q (fun vs ds u1 H1 e1 B1 r1 ⟨hl1, hl, hS⟩ => ⟨by rw [r1.length, hl1], fun x' dx hx hdx hne => mk_sp B1 (by omega) (r1.pick is) hC hl hS (kn.go A.toWd e1 (by omega)) (kx.go A.toWd e1 (by omega)) hx hdx hne⟩) (kx.le (by omega))).run pos pins s I) fun us s1 ⟨vs, H1, I1, r, hl, q⟩ => ⟨I1.kIn, ?_⟩) hpl) hdb)
  rw [hks]
  refine make_g (us := []) (us' := pick is us) M F (hr.mono hk) I1 (fun s2 H2 e s' I2 z => takes_call tk I2 z) (fun x => .cons rfl (vals_pick r is)) (fun s2 x hk => ?_) q
  exact hb s2 [.ref x] us hk rfl (by rw [← r.length, hl])⟩
/-- C.m(k = e, ..), a classmethod -/
structure CmK (P : Program) (w : World) (K : PySem.W.Frag) (mg : Str → Option Value) (base : Heap) (cs : CS) (k nc : Nat) (m : Str) (ar c : Nat) (S : SpX) (ks : List Str) (is : List Nat) : Prop where
  ex : ∃ (C p g : Addr) (fd : FuncData) (ps : List Str) (mc : Value), cs.cls[nc]? = some (.ref C) ∧ ClX.CRead K C mc ∧ ClX.CMet K C mc m p g ∧ FnG P w K mg base (L2.CX P w) k g fd ps (spN cs ar c S) ∧ KwB K fd ps 1 ks is
def tCmK (nc ar nk : Nat) (is : List Nat) (S : SpX) (to : TfE) (tk : TfA) : TfE := fun Γ M post xp => to Γ M (fun d M1 => d = .cls nc ∧ tk Γ M1 (fun ds M2 => ds.length = nk ∧ (pick is ds).length + 1 = ar ∧ S (.cls nc :: pick is ds) M2 post xp) xp) xp
theorem px_cmethK {m : Str} {o : Expr} {apos : Pos} {S : SpX} {pl : Sem Bool} {to : TfE} {ta : TfA} (F : CmK X.prog X.w X.K X.mg X.base cs k nc m ar c3 S ks is) (hr : RoomG j X.A) (tk : Takes X W) (ho : PX cs X W c1 o to) (ha : PXK cs X W c2 kws ta) (hk : k ≤ j := by decide)
    (hall : (backToKw pos (keywordEach kws X.env)).all (·.1.isSome) = true := by rfl) (hks : (backToKw pos (keywordEach kws X.env)).filterMap (·.1) = ks := by rfl) (hpl : ((backTo pos (starEach [] X.env)).any (·.1) || (backToKw pos (keywordEach kws X.env)).any (·.1.isNone)) = false := by rfl)
    (ht : eval (.Call (.Attribute o m apos) [] kws pos) X.env = (do let ov ← eval o X.env; standAt apos.atName; let (f, first) ← holding [ov] (getMethod ov m pl); callWith pos f first (backTo pos (starEach [] X.env)) (backToKw pos (keywordEach kws X.env))) := by rfl) :
    PX cs X W (c1 + c2 + c3) (.Call (.Attribute o m apos) [] kws pos) (tCmK nc ar ks.length is S to ta) := ⟨fun u n H σ Γ post xp Q A hn q kn kx => by
  obtain ⟨C, p, g, fd, ps, mc, hC, hrd, cm, F, hb⟩ := F.ex
  refine TW.mk fun pins s I => ?_
  refine PySem.W.methodCall_KW (pl := pl) (thn (ho.run u n H σ Γ _ xp (fun x H1 => x = .ref C ∧ ∀ s1, Inv X pins σ H1 s1 → wpAny (model X.prog X.w) X.A (getMethod (.ref C) m pl) (fun fx s₂ => wpAny (model X.prog X.w) X.A (callWith pos fx.1 fx.2 (backTo pos (starEach [] X.env)) (backToKw pos (keywordEach kws X.env))) (EP X pins σ Q) X.xe s₂) X.xe s1) A (by omega) q (fun v d u1 H1 e1 B1 r1 ⟨ed, h1⟩ => ?_) (kx.le (by omega)) pins s I) fun v s1 ⟨x, H1, I1, rx, ex, q⟩ => ?_) ht
  · subst ed
    have r1 : u1.k.cls[nc]? = some v ∧ v ≠ .non := r1
    rw [B1.ks.1, hC] at r1
    cases r1.1
    refine ⟨rfl, fun s1 I1 => ?_⟩
    refine getmethcm_ok I1 hrd cm fun s2 I2 => ?_
    refine PySem.W.callWith_of hpl (PySem.W.keeps_M cm.fi) (evalArgs_kw2_nil hall (thn ((ha.run u1 (n + c1) H1 σ Γ _ xp (fun vs H2 => vs.length = ks.length ∧ spN cs ar c3 S (.ref C :: pick is vs) H2 Q (fun cls d H' => W cls d σ H')) (A.step e1 B1) (by omega) h1 (fun vs ds u2 H2 e2 B2 r2 ⟨hl1, hl2, hS⟩ => ?_) (kx.go A.toWd e1 (by omega))).run pos _ _ I2) fun us s3 ⟨vs, H2, I3, rv, hl, q2⟩ => ⟨⟨pin_at I3, I3.kIn⟩, ?_⟩))
    · have e12 := e1.trans A.toWd e2
      exact ⟨by rw [r2.length, hl1], u2, n + c1 + c2, .cls nc :: pick is ds, post, xp, B2, by omega, RepL.cons ⟨by rw [B2.ks.1]; exact hC, nofun⟩ (r2.pick is), by simpa using hl2, hS, kn.go A.toWd e12 (by omega), fun cls od c fs u' H' e3 B3 r q => kx cls od c fs u' H' (e12.trans A.toWd e3) (B3.up (by omega)) r q⟩
    · have r3 : Vals (.ref C :: pick is vs) (.ref C :: pick is us) := .cons rfl (vals_pick rv is)
      rw [hks]
      have z : wpAny (model X.prog X.w) X.A (call (.ref s1.heap.objs.size) [] (ks.zip us)) (EP X ((s1.heap.objs.size, PySem.W.methodObj (.ref g) (.ref C)) :: pins) σ Q) X.xe s3 := by
        refine wpAny_call (PySem.W.method_call (pin_at I3) (codeAny_mono (F.go X.A X.stack s3 H2 ⟨[.ref C], ks.zip us⟩ (.ref C :: pick is us) (.ref C :: pick is vs) Q _ (hr.mono hk) I3.env0 (by simpa using hb s3 [.ref C] us I3.kIn rfl (by rw [← rv.length, hl])) r3 q2) fun r' s' hq => ?_))
        cases r' with
        | error er => exact takes_call tk I3 hq
        | ok fl =>
          cases fl with
          | ret u => exact I3.after hq
          | next => exact False.elim hq
          | brk => exact False.elim hq
          | cont => exact False.elim hq
      exact thn z fun _ _ y => unpinE y
  · subst ex
    obtain rfl : v = Value.ref C := rx
    exact q s1 I1⟩
end
section
variable {cs : CS} {X : Cx} {W : WX} {c cH cL : Nat} {pos p lpos : Pos} {k j kL : Nat}
theorem px_hearQ {x ql : Str} {params : Arguments} {body : Expr} {scope : Scope} {S : TfL → TfL} {tb : TfE} {cc P : Addr} (D : HrD X.prog X.w X.K X.mg X.base cs k x cH cL S) (hr : RoomG j X.A) (tk : Takes X W) (TB : LamX.TabB X.base X.mg cc P) (hmT : (P, ql ++ "<lambda>") ∈ cs.T) (hu : ∀ p ∈ cs.T, p.1 = P → p.2 = ql ++ "<lambda>")
    (hbody : ∀ (A : Around) (outer : List Env) (s : Shared) (H : Hp) (E : XK) (f c' : Addr), RoomG kL (A.deeper (LamX.lamEnv X scope s.heap.objs.size f c')) → PX cs (LamX.lamCx X A outer s H E scope f c') (WE E) cL body tb)
    (hq : X.env.qual = ql := by rfl)
    (hk : k + 1 ≤ j := by decide) (hkL : kL + 2 ≤ j := by decide) (hcode : X.env.code = .ref cc := by rfl) (hg : Gl X x := by rfl)
    (L : LamX.LamS X.env.scope scope := by exact LamX.lamS_by (by rfl)) (hdef : defaultsOf params X.env = ([], []) := by rfl)
    (hbind : ∀ (q : Str) (cl : List (Str × Addr)) (pm cv ctv : Value), bindArgs (PySem.W.kla_fn "<lambda>" q params body scope cl pm cv ctv) ⟨[], []⟩ = pure [] := by intros; rfl)
    (hdb : (x == ("__debug__" : Str)) = false := by decide) : PX cs X W cH (.Call (.Name x p) [.Lambda params body scope lpos] [] pos) (tHear S tb) := by
  subst hq
  exact px_hear D hr tk TB hmT hu hbody hk hkL hcode hg L hdef hbind hdb
end
theorem r_cmK {nc ar nk : Nat} {is : List Nat} {S : SpX} {te : TfE} {tr : TfA} {Γ : Gm} {M : Store} {post : DP} {xp : XP} (q : te Γ M (fun d M1 => d = .cls nc ∧ tr Γ M1 (fun ds M2 => ds.length = nk ∧ (pick is ds).length + 1 = ar ∧ S (.cls nc :: pick is ds) M2 post xp) xp) xp) : tCmK nc ar nk is S te tr Γ M post xp := q
theorem r_statK {nc ar nk : Nat} {is : List Nat} {S : SpX} {te : TfE} {tr : TfA} {Γ : Gm} {M : Store} {post : DP} {xp : XP} (q : te Γ M (fun d M1 => d = .cls nc ∧ tr Γ M1 (fun ds M2 => ds.length = nk ∧ (pick is ds).length = ar ∧ S (pick is ds) M2 post xp) xp) xp) : tStatK nc ar nk is S te tr Γ M post xp := q
theorem r_methK {nc ar nk : Nat} {m : Str} {is : List Nat} {S : SpX} {te : TfE} {tr : TfA} {Γ : Gm} {M : Store} {post : DP} {xp : XP} (q : te Γ M (fun d M1 => (∃ fs, insOf M1 d = some (nc, fs) ∧ fs.lookup m = none) ∧ tr Γ M1 (fun ds M2 => ds.length = nk ∧ (pick is ds).length + 1 = ar ∧ S (d :: pick is ds) M2 post xp) xp) xp) : tMethK nc m ar nk is S te tr Γ M post xp := q
theorem r_mkKw {nc ar nk : Nat} {is : List Nat} {S : SpX} {tr : TfA} {Γ : Gm} {M : Store} {post : DP} {xp : XP} (q : tr Γ M (fun ds M1 => ds.length = nk ∧ mkK nc ar S post xp (pick is ds) M1) xp) : tMkK nc ar nk is S tr Γ M post xp := q
theorem r_partE {z x a b c : Str} {M : Store} {post : DP} (e : Txt.partition z x = (a, b, c)) (h : (x.length == 0) = false) (hz : z.length ≤ sizeLine) (q : post (.tup [.str a, .str b, .str c]) M) : tPart (.str z) [.str x] M post := ⟨z, x, rfl, rfl, h, hz, by rw [e]; exact q⟩
theorem r_pk {S : SpX} {is : List Nat} {ds es : List D} {M : Store} {post : DP} {xp : XP} (h : pick is ds = es) (q : S es M post xp) : S (pick is ds) M post xp := by rw [h]; exact q
/-! ### the law's def, where it makes lambdas -/
section
variable {P : Program} {w : World} {K : PySem.W.Frag} {mg : Str → Option Value} {base : Heap}
theorem law_ofL {cs : CS} {cc : Addr} {x y pn z qual : Str} {st : Stmt} {f g : Addr} {fd gd : FuncData} {p1 p2 p3 p4 p5 : Pos} {N : List Str} {rest : List Stmt} {j k c : Nat} {t : TfS} (F : FunL K x qual st f fd cc) (sc : FnScope N [y] (defScope st))
    (hb : defBody st = .Assign [.Name z p1] (.Call (.Name pn p2) [.Name y p3] [] p4) p5 :: rest) (hN : ∃ Nr, N = y :: z :: Nr)
    (G : FnG P w K mg base (L2.CX P w) j g gd [y] (spPen K)) (hm : mg pn = some (.ref g)) (hk' : PySem.W.keepIn K (.ref g) = true) (hbi : Binds K gd [y] [])
    (hj : j ≤ k) (hc : c ≤ lim)
    (hrest : ∀ (A : Around) (outer : List Env) (s : Shared) (H : Hp) (E : XK), RoomG k (A.deeper (envOfC qual (defScope st) s.heap.objs.size f (.ref cc))) → PSU cs (CxB P w K mg base N qual st f (.ref cc) A outer s H E) W0 c rest t)
    (ht : t (GL N) [] OL)
    (hd : (y == ("__debug__" : Str)) = false := by decide) (hcd : (y == ("__classdict__" : Str)) = false := by decide) (hdp : (pn == ("__debug__" : Str)) = false := by decide)
    (hg : ∀ (cdv : Value) (A : Around) (outer : List Env) (s : Shared) (H : Hp) (E : XK), Gl (CxB P w K mg base N qual st f cdv A outer s H E) pn := by exact fun _ _ _ _ _ _ => rfl)
    (hv : ∀ (cdv : Value) (A : Around) (outer : List Env) (s : Shared) (H : Hp) (E : XK), Vis (CxB P w K mg base N qual st f cdv A outer s H E).env.scope y := by exact fun _ _ _ _ _ _ => Or.inl rfl)
    (hl : ∀ (cdv : Value) (A : Around) (outer : List Env) (s : Shared) (H : Hp) (E : XK), (CxB P w K mg base N qual st f cdv A outer s H E).env.scope.names.lookup z = some .local ∨ (CxB P w K mg base N qual st f cdv A outer s H E).env.scope.names.lookup z = some .cell := by first | exact fun _ _ _ _ _ _ => Or.inl rfl | exact fun _ _ _ _ _ _ => Or.inr rfl)
    (hst : ∀ (cdv : Value) (A : Around) (outer : List Env) (s : Shared) (H : Hp) (E : XK), starEach [.Name y p3] (CxB P w K mg base N qual st f cdv A outer s H E).env = (false, eval (.Name y p3) (CxB P w K mg base N qual st f cdv A outer s H E).env) :: starEach [] (CxB P w K mg base N qual st f cdv A outer s H E).env := by exact fun _ _ _ _ _ _ => rfl)
    (hsw : ∀ (cdv : Value) (A : Around) (outer : List Env) (s : Shared) (H : Hp) (E : XK), swapsWith (.Call (.Name pn p2) [.Name y p3] [] p4) (some (.Name z p1)) p5.line (CxB P w K mg base N qual st f cdv A outer s H E).env = pure false := by exact fun _ _ _ _ _ _ => rfl) :
    FnG P w K mg base (L2.CX P w) (k + 1) f fd [y] (spLaw K cs.T) := by
  obtain ⟨oc, od, kV, doc, pm, an, ct, osl, rfl, lk, hcd0⟩ := F.ex
  refine ⟨fun vs H Q E ⟨a, ns, e, _⟩ => by rw [e]; rfl, fun A outer s H args us0 vs Q E hr0 e0 hb0 r0 hsp => LamX.run_ofS lk hcd0 sc hr0.room e0 hb0 r0 (by obtain ⟨a, ns, e, _⟩ := hsp; rw [e]; rfl) fun hr' => ?_⟩
  obtain ⟨a, ns, e, hT, hS, hl1, hbits, q⟩ := hsp
  have hr : RoomG k (A.deeper (envOfC qual (defScope st) s.heap.objs.size f (.ref cc))) := ⟨hr', hr0.gd⟩
  rw [hb]
  obtain ⟨Nr, hN'⟩ := hN
  have nd : (CxB P w K mg base N qual st f (.ref cc) A outer s H E).N.Nodup := sc.nd
  have i0 : (CxB P w K mg base N qual st f (.ref cc) A outer s H E).N[0]? = some y := by show N[0]? = _; rw [hN']; rfl
  have i1 : (CxB P w K mg base N qual st f (.ref cc) A outer s H E).N[1]? = some z := by show N[1]? = _; rw [hN']; rfl
  have pcall : PE (CxB P w K mg base N qual st f (.ref cc) A outer s H E) (.Call (.Name pn p2) [.Name y p3] [] p4) (fun σ H1 Q1 => ∃ v, σ[0]? = some (some v) ∧ spPen K [v] H1 Q1 E0) := ⟨fun pins s1 σ H1 Q1 I ⟨v, hv0, h⟩ => by
    refine wpAny_Call_Name_kw (ld_glob I (hg (.ref cc) A outer s H E) hm (PySem.W.callWith_K (h₀ := base) I.ok.mod.kin hk' (thn ((L2.pa_cons (pe_var i0 (hv (.ref cc) A outer s H E) hd hcd) L2.pa_nil (hst (.ref cc) A outer s H E)).run p4 pins s1 σ H1 (fun vs H2 => spPen K vs H2 Q1 E0) I ⟨v, hv0, h⟩) fun us s2 ⟨vs, H2, I2, r, q2⟩ => ⟨I2.kIn, ?_⟩) (hst (.ref cc) A outer s H E) (by rfl)) hdp)
    have hlen : us.length = 1 := by rw [← r.length]; exact G.len _ _ _ _ q2
    refine run_g G (hr.mono hj) (fun e s' z => takes_call (W := WN) LamX.takes0 I2 z) I2 r ?_ q2
    have := hbi s2 us I2.kIn (by simpa using hlen)
    simpa using this⟩
  refine ⟨_, pss_cons (ps_set nd i1 (hl (.ref cc) A outer s H E) pcall (hsw (.ref cc) A outer s H E) (.inl rfl)) (twss_pss _ rest), ?_⟩
  subst e
  have est : L2.start N [V.ref a] = some (.ref a) :: none :: List.replicate Nr.length none := by
    rw [hN']; unfold L2.start; simp [List.replicate_succ]
  rw [est]
  refine ⟨.ref a, rfl, a, ns, rfl, hS, fun p cl H' hne hkp hp hcl => ?_⟩
  have fe : ∀ b, (⟨p, ⟨cl, cs.T, cs.cls⟩, [], [], []⟩ : U).F b → b = p := fun b f => by
    rcases f with (f | ⟨i, c, h1, _⟩) | f
    · exact f
    · simp at h1
    · cases f
  have A0 : Wd cs ⟨p, ⟨cl, cs.T, cs.cls⟩, [], [], []⟩ 0 H' := by
    refine ⟨⟨rfl, rfl⟩, ⟨ns.take 63, 0, 0, hp, hcl, ?_, by decide, by decide, by decide, Nat.pow_pos (by decide), fun i hi => bits_lt (hbits i (List.mem_of_mem_take hi)), hT.ext hkp⟩, fun z => hne (fe _ z).symm, rfl, fun i j b h => by simp at h, fun i h => by simp at h, fun b h => by (have h : b ∈ ([] : List Addr) := h; cases h), fun b h => by (have h : b ∈ ([] : List Addr) := h; cases h), fun i b c h => by simp at h⟩
    rw [List.length_take]; omega
  have At0 : At cs ⟨p, ⟨cl, cs.T, cs.cls⟩, [], [], []⟩ 0 H' (some (.ref a) :: some (.ref p) :: List.replicate Nr.length none) (GL N) := by
    refine ⟨A0, by unfold GL; simp [hN'], fun i d g => ?_⟩
    unfold GL at g
    match i, g with
    | 0, g => simp at g
    | 1, g => have g : D.pen = d := by simpa using g
              subst g; exact ⟨.ref p, rfl, rfl⟩
    | i + 2, g =>
      have g : (List.replicate (N.length - 2) (none : Option D))[i]? = some (some d) := by simpa using g
      have := List.eq_of_mem_replicate (List.mem_of_getElem? g)
      cases this
  refine (hrest A outer s H E hr).run _ 0 H' _ _ OL _ At0 (by omega) ht ⟨fun _ _ _ _ _ _ z => z.elim, fun v d u2 H2 _ _ r ed => ?_, fun _ _ _ _ _ _ z => z.elim, fun _ _ _ _ _ _ z => z.elim, fun _ _ _ _ _ _ _ _ _ _ _ z => z.elim⟩
  have ed : d = .bl true := ed
  subst ed
  rw [show v = .bl true from r]
  exact q H2
end
end Ev
-- EvAC
namespace Ev
open PySem PySem.Spec PyProof.Rows L2
section
variable {P : Program} {w : World} {K : PySem.W.Frag} {mg : Str → Option Value} {base : Heap} {cs : CS}
theorem funL_mk {x qual : Str} {st : Stmt} {f cc : Addr} {oc : Value} {od an : Option Addr} {osl : Array (Option Value)} {kV doc pm ct : Value} (l : K.lookup f = some ⟨oc, od, .func (PySem.W.fnOf x qual (defArgs st) (defBody st) (defScope st) .none kV doc pm an (.ref cc) ct), osl⟩)
    (c : PySem.W.codeIn K (.ref cc) qual = true) (k : PySem.W.keepIn K (.ref f) = true) : FunL K x qual st f (PySem.W.fnOf x qual (defArgs st) (defBody st) (defScope st) .none kV doc pm an (.ref cc) ct) cc := ⟨⟨oc, od, kV, doc, pm, an, ct, osl, rfl, l, c⟩, k⟩
theorem exm_at {n : Nat} {C : Addr} {c : Value} {b : Bool} (h : cs.cls[n]? = some (.ref C)) (e : PySem.W.exmOne K (.ref C) c = some b) : ∀ C' cls, cs.cls[n]? = some C' → RelV C' cls → PySem.W.exmOne K cls c = some b := by
  intro C' cls h' r
  rw [h] at h'; cases h'
  have r : cls = Value.ref C := r
  rw [r]; exact e
theorem tab_mk {x : Str} {f c P : Addr} {oc o2 : Value} {od d2 : Option Addr} {fd : FuncData} {sl s2 : Array (Option Value)} {vs : Array Value} (a : PySem.W.nsIn K mainGlobals x = some (some (.ref f))) (l : K.lookup f = some ⟨oc, od, .func fd, sl⟩) (hc : fd.code = .ref c)
    (lc : K.lookup c = some ⟨o2, d2, .fields vs, s2⟩) (h : vs[11]? = some (Value.ref P)) : PySem.W.tabIn K x = some (c, P) := by
  unfold PySem.W.tabIn
  rw [a]; dsimp only
  rw [l]; dsimp only
  rw [hc]; dsimp only
  rw [lc]; dsimp only
  rw [h]
/-- keywords of a def with defaults -/
theorem kwBD_mk {T : Addr} {oc : Value} {od : Option Addr} {its : Array Value} {m : Nat} {sl : Array (Option Value)} {fd : FuncData} {ps ks : List Str} {n : Nat} {is : List Nat} (lT : K.lookup T = some ⟨oc, od, .seq its m, sl⟩)
    (h : ∀ us ws : List Value, us.length = n → ws.length = ks.length → ∃ k, bindArgs fd ⟨us, ks.zip ws⟩ = seqItems? (.ref T) >>= k ∧ k (some its) = pure (ps.zip (us ++ pick is ws))) : KwB K fd ps n ks is := fun s us ws X h1 h2 => by
  obtain ⟨k, e1, e2⟩ := h us ws h1 h2
  refine BindsTo.of_looks fun M => ?_
  rw [e1]
  exact looks_items (its := its) X lT rfl (.of_pure e2)
theorem tabs_one {α : Type} {p : α → Prop} {a : α} (h : p a) : ∀ x ∈ [a], p x := fun x hx => by
  rw [List.mem_singleton] at hx; subst hx; exact h
theorem hu_one {a : Addr} {s : Str} : ∀ p ∈ [((a, s) : Addr × Str)], p.1 = a → p.2 = s := fun p hp _ => by
  rw [List.mem_singleton] at hp; subst hp; rfl
/-- a law with lambdas in the defs of names -/
theorem walkGT {l : PySem.W.OpenLaw} {k : Nat} {q : Program} {loose : List Str} {XP : (Str → Option Value) → Heap → Prop} {YP : World → Heap → Prop} {d : DefRec} {K : Params → PySem.W.Frag} {x : Str} (names : List Str)
    (hn : names.all (fun y => ((recsOf q).find? (fun e => e.name == y)).isSome) = true)
    (most : l.most = some 63) (dfl : d.params.defaults = []) (rm : Room k callerA) (hY : ∀ (w : World) (h : Heap), YP w h → (K w.params).In h)
    (F : ∀ (w : World) (mg : Str → Option Value) (fa : Addr) (h : Heap), (K w.params).In h → h.Ns mainGlobals mg → mg d.name = some (.ref fa) →
      ∃ (fd : FuncData) (cs : List (Addr × Addr)) (T : List (Addr × Str)), (∀ p ∈ cs, ∃ y ∈ names, PySem.W.tabIn (K w.params) y = some p) ∧ (∀ p ∈ cs, (K w.params).lookup p.2 = none) ∧ (∀ t ∈ T, ∃ p ∈ cs, p.2 = t.1) ∧ (∀ (s : Shared) (u : Value), BindsTo s fd ⟨[u], []⟩ [(x, u)]) ∧
        ∀ base : Heap, (K w.params).In base → base.Ns mainGlobals mg → (∀ p ∈ cs, LamX.TabB base mg p.1 p.2) → FnG l.prog w (K w.params) mg base (L2.CX l.prog w) k fa fd [x] (spLaw (K w.params) T)) :
    PySem.W.WalkO q loose XP YP l.row.toRowW d [] (fun f vs => PySem.call f vs) :=
  walkG most dfl rm hY fun w mg fa h kin ns hm ht => by
    obtain ⟨fd, cs, T, h1, h2, h3, h4, h5⟩ := F w mg fa h kin ns hm
    refine ⟨fd, cs, T, fun p hp => ?_, h2, h3, h4, h5⟩
    obtain ⟨y, hy, e⟩ := h1 p hp
    obtain ⟨d', hd⟩ := Option.isSome_iff_exists.mp (List.all_eq_true.mp hn y hy)
    exact ht d' y p.1 p.2 hd e
end
end Ev
-- EvAD
namespace Ev
open PySem PySem.Spec PyProof.Rows L2
section
variable {cs : CS} {X : Cx} {W : WX} {c : Nat} {pos : Pos}
/-! ### lists that change: made as a cell, frozen once they stay -/
theorem KN.lstM {u : U} {n : Nat} {H : Hp} {post : DP} {Q : VK} (k : KN cs u n H post Q) (A : Wd cs u n H) {ds : List D} {vs : List V} (r : RepL u H ds vs) (q : post (.loc u.M.length) (u.M ++ [.li ds])) {p : Addr} (hp : H p = none) : Q (.ref p) (upd H p (.lst vs)) := by
  have K : Keep H (upd H p (.lst vs)) := Keep.new hp
  have x : Nx u H (u.add p (.li ds)) (upd H p (.lst vs)) := add_nx A K hp
  exact k (.ref p) (.loc u.M.length) (u.add p (.li ds)) _ x (add_wd A K hp ⟨vs, upd_same, RepL.mono (x.cy A) _ _ r⟩) ⟨p, rfl, add_mu A⟩ q
def tLstM (tr : TfA) : TfE := fun Γ M post xp => tr Γ M (fun ds M1 => ds.length ≤ sizeLine ∧ post (.loc M1.length) (M1 ++ [.li ds])) xp
theorem px_lstM {es : List Expr} {tr : TfA} (h : PXA cs X W c es tr) : PX cs X W c (.List es pos) (tLstM tr) := ⟨fun u n H σ Γ post xp Q A hn q kn kx => by
  refine tw_of (pe_lst (twa_pa X es)) ?_
  refine h.run u n H σ Γ _ xp _ A hn q (fun vs ds u1 H1 e1 B1 r1 ⟨hz, q1⟩ => ⟨by rw [r1.length]; exact hz, fun p hp => ?_⟩) kx
  exact (kn.go A.toWd e1 (Nat.le_refl _)).lstM B1 r1 q1 hp⟩
def tFrzS (i : Nat) (t : TfS) : TfS := fun Γ M O => ∃ j ds, Γ[i]? = some (some (.loc j)) ∧ M[j]? = some (.li ds) ∧ t (Γ.set i (some (.lst ds))) (M.set j .dead) O
theorem set_same {α : Type} {l : List α} {i : Nat} {a : α} (h : l[i]? = some a) : l.set i a = l := by
  apply List.ext_getElem?
  intro j
  by_cases e : j = i
  · subst e
    rw [List.getElem?_set_self (List.getElem?_eq_some_iff.mp h).1, h]
  · rw [List.getElem?_set_ne (Ne.symm e)]
theorem su_frz {st : List Stmt} {t : TfS} (i : Nat) (h : PSU cs X W c st t) : PSU cs X W c st (tFrzS i t) := ⟨fun u n H σ Γ O E A hn ⟨j, ds, g, hc, q⟩ ko => by
  obtain ⟨v, hv, r⟩ := A.sl i _ g
  obtain ⟨a, e, hm⟩ := r.locE
  obtain ⟨vs, ga, rl⟩ := A.cell j a _ hm hc
  have x := dead_nx A.toWd hm hc
  have B := dead_wd A.toWd hm hc
  have A2 := (A.step x B).set (j := i) (d := .lst ds) (v := v) ⟨a, vs, e, dead_notF A.toWd hm, ga, RepL.mono (x.cy A.toWd) _ _ rl⟩
  rw [set_same hv] at A2
  exact h.run _ n H σ _ O E A2 hn q (ko.go A.toWd x (Nat.le_refl _))⟩
theorem r_lstM {Γ : Gm} {M : Store} {post : DP} {xp : XP} {tr : TfA} (h : tr Γ M (fun ds M1 => ds.length ≤ sizeLine ∧ post (.loc M1.length) (M1 ++ [.li ds])) xp) : tLstM tr Γ M post xp := h
theorem r_frz {Γ : Gm} {M : Store} {O : Out} {i j : Nat} {ds : List D} {t : TfS} (g : Γ[i]? = some (some (.loc j))) (hc : M[j]? = some (.li ds)) (q : t (Γ.set i (some (.lst ds))) (M.set j .dead) O) : tFrzS i t Γ M O := ⟨j, ds, g, hc, q⟩
/-! ### repr of data -/
def tRepr : TfC := TfC.one fun d M post => match d with
  | .int i => i.natAbs.log2 < 1920 ∧ post (.str (toString i)) M
  | d => ((∃ ds, d = .lst ds) ∨ ∃ ds, d = .tup ds) ∧ ∃ y, pyD d = some y ∧ y.showable = true ∧ y.hasDict = false ∧ y.depth ≤ 64 ∧ y.shown.length ≤ sizeLine ∧ post (.str y.shown) M
theorem po_repr {k : Nat} (hr : RoomG k X.A) : POC cs X W 0 (.builtin "repr") tRepr := ⟨fun u n H σ ds xs post xp Q A hn rx hq kn kx => by
  obtain ⟨d, ed, q⟩ := hq
  subst ed
  obtain ⟨x, e, r⟩ := rx.one
  subst e
  have gen : (((∃ ds, d = .lst ds) ∨ ∃ ds, d = .tup ds) ∧ ∃ y, pyD d = some y ∧ y.showable = true ∧ y.hasDict = false ∧ y.depth ≤ 64 ∧ y.shown.length ≤ sizeLine ∧ post (.str y.shown) u.M) → TC X σ (.builtin "repr") [x] H Q := fun ⟨hd, y, h1, hs, hnd, hdep, hz, q⟩ => TC.mk fun pins s us I ru => by
    obtain ⟨v, ev, rv⟩ := Vals.one ru
    subst ev
    have hv : ∃ a, v = .ref a := by
      rcases hd with ⟨ds, rfl⟩ | ⟨ds, rfl⟩
      · obtain ⟨a, vs, e, _⟩ := r.lstE; subst e; exact ⟨a, rv⟩
      · obtain ⟨a, vs, e, _⟩ := r.tupE; subst e; exact ⟨a, rv⟩
    obtain ⟨a, ev⟩ := hv
    subst ev
    obtain ⟨as, rd⟩ := Dp.reads I y x (.ref a) (dp_rep d x y r h1) rv
    refine repr_of_reads' (h₀ := s.heap) rd hs (fun z => by rw [hnd] at z; cases z) hr.gd (by have := hr.room.un; omega) (fun _ _ z => z) (fun h' w tk hk => ?_) hz
    exact ⟨.str y.shown, H, I.kept hk, ⟨w, rfl⟩, kn.here (d := .str y.shown) A rfl q⟩
  cases d <;> (try exact gen q)
  case int i => exact tc_of SkE.call_repr_int ⟨i, by rw [show x = .int i from r], q.1, kn.here (d := .str (toString i)) A rfl q.2⟩⟩
end
end Ev
-- EvAE
/-! != of an instance with an own __eq__ and the default __ne__ -/
namespace Ev
open PySem PySem.Spec PyProof.Rows L2
section
variable {prog : Program} {w : World} {A : Around} {E : Value → Shared → Prop} {s : Shared} {K : PySem.W.Frag} {x C L f : Addr} {h₀ : Heap} {m : Str → Option Value} {ox : Obj} {od : Option Obj} {b tb : Value}
theorem ifBound_objNe {M : Model} {args : List Value} {Q : Option Value → Shared → Prop} (X : K.In s.heap) (I : PySem.W.InstAt s.heap x ox C od) (hs : PySem.W.findIn K (.ref C) "__ne__" = some (some (.builtin "object.__ne__")))
    (h : wpAny M A (call (.builtin "object.__ne__") (.ref x :: args)) (fun v => Q (some v)) E s) : wpAny M A (callSpecialIfBound? (.ref x) "__ne__" args) Q E s := by
  simp only [callSpecialIfBound?, bindSpecialIfBound?]
  refine wpAny_holding (wpAny_bind (wpAny_bind (wpAny_bind (I.type.here ((PySem.W.looks_findIn X hs).here ?_)))))
  refine wpAny_bind (wpAny_askSetting (wpAny_ite ?_))
  have fin : wpAny M A (call (.builtin "object.__ne__") ([.ref x] ++ args) >>= fun v => pure (some v)) Q E s := wpAny_bind (wpAny_mono h (fun v s' h' => wpAny_pure h') fun _ _ h' => h')
  split
  · exact wpAny_bind (wpAny_of_eq (F.cmp_object.ne.bind _) (wpAny_pure (by exact fin)))
  · exact wpAny_tryCatch (wpAny_bind (wpAny_of_eq (F.cmp_object.ne.bind _) (wpAny_pure (by exact fin))))
def NeBack (Q : Value → Shared → Prop) (v : Value) (s' : Shared) : Prop := ∃ k, v = .bool k ∧ Q (.bool (!k)) s'
theorem NeBack.go {Q : Value → Shared → Prop} {v : Value} {s' : Shared} {R : Prop} (h : NeBack Q v s') (k : ∀ k : Bool, v = .bool k → Q (.bool (!k)) s' → R) : R := by
  obtain ⟨b, e, q⟩ := h; exact k b e q
theorem entry_ne {Q : Fin → Shared → Prop} (hu : A.units < cLine) (X : K.In s.heap) (I : PySem.W.InstAt s.heap x ox C od) (hs : PySem.W.findIn K (.ref C) "__eq__" = some (some (.ref f))) (hf : PySem.W.isFn K (.ref f) = true)
    (h : wpAny (model prog w) A (call (.ref f) [.ref x, b]) (NeBack fun v s' => Q (.done (.ret v)) s') E s) : wpAny (model prog w) A (Builtin.«object.__ne__» ⟨[.ref x, b], []⟩) Q E s := by
  unfold Builtin.«object.__ne__»
  repeat (first | with_reducible refine wpAny_cRoomFor hu ?_ | with_reducible refine PySem.W.ifBound_K X I hs hf (wpAny_mono h (fun v s' z => z.go ?_) fun _ _ e => e) | wp_step)
  intro k e q
  subst e
  repeat wp_step
  exact q
theorem call_objNe {Q : Value → Shared → Prop} (hu : A.units + 1 < cLine) (X : K.In s.heap) (I : PySem.W.InstAt s.heap x ox C od) (hm : PySem.W.mroIn K C (.type "object") = some true) (hs : PySem.W.findIn K (.ref C) "__eq__" = some (some (.ref f))) (hf : PySem.W.isFn K (.ref f) = true)
    (h : wpAny (model prog w) A.in1 (call (.ref f) [.ref x, b]) (NeBack Q) E s) : wpAny (model prog w) A (call (.builtin "object.__ne__") [.ref x, b]) Q E s :=
  wpAny_call (codeAny_call_builtin F.cmp_object.ne.plain F.cmpEntry_ne (PySem.W.check_slot F.cmpKind_ne F.cmpSplit_ne (I.type.andThen (PySem.W.looks_mroIn X hm)) (F.cmpArgs_ne _ _) (entry_ne (A := A.in1) (by show A.units + 1 < cLine; exact hu) X I hs hf (wpAny_mono h (fun v s' z => z) fun _ _ e => e))))
theorem cmpNe_K {Q : Value → Shared → Prop} (hu : A.units + 1 < cLine) (X : K.In s.heap) (I : PySem.W.InstAt s.heap x ox C od) (hb : PySem.W.Looks (model prog w) s.heap (typeOf b) tb) (hn : PySem.W.notFirst K C tb = true)
    (hm : PySem.W.mroIn K C (.type "object") = some true) (hne : PySem.W.findIn K (.ref C) "__ne__" = some (some (.builtin "object.__ne__"))) (hs : PySem.W.findIn K (.ref C) "__eq__" = some (some (.ref f))) (hf : PySem.W.isFn K (.ref f) = true)
    (h : wpAny (model prog w) A.in1 (call (.ref f) [.ref x, b]) (NeBack Q) E s) : wpAny (model prog w) A (richCompare .NotEq (.ref x) b) Q E s := by
  have one : wpAny (model prog w) A (tryCompare (.ref x) "__ne__" b) (fun r s' => ∃ v, r = some v ∧ Q v s') E s := by
    unfold tryCompare
    refine wpAny_bind (ifBound_objNe X I hne (call_objNe hu X I hm hs hf (wpAny_mono h (fun v s' z => ?_) fun _ _ e => e)))
    obtain ⟨k, e, q⟩ := z
    exact ⟨k, e, wpAny_pure ⟨_, rfl, q⟩⟩
  have hu0 : A.units < cLine := by omega
  unfold richCompare
  simp only [oneThing_ref, cmpInfo_NotEq]
  refine wpAny_holding (wpAny_bind (wpAny_cRoomFor hu0 ?_))
  refine wpAny_bind (I.type.here (wpAny_bind (hb.here ?_)))
  split
  · rename_i q
    have e : PySem.W.subIn K tb (.ref C) = some false := by
      rcases Bool.or_eq_true_iff.mp hn with e | e
      · rw [beq_iff_eq.mp e] at q; simp at q
      · exact beq_iff_eq.mp e
    refine wpAny_bind ((PySem.W.looks_subIn X e).here ?_)
    simp only [Bool.false_eq_true, if_false]
    refine wpAny_bind (wpAny_mono one (fun r s' z => ?_) fun _ _ e => e)
    obtain ⟨v, rfl, hq⟩ := z
    exact wpAny_pure hq
  · refine wpAny_bind (wpAny_pure ?_)
    simp only [Bool.false_eq_true, if_false]
    refine wpAny_bind (wpAny_mono one (fun r s' z => ?_) fun _ _ e => e)
    obtain ⟨v, rfl, hq⟩ := z
    exact wpAny_pure hq
end
section
variable {cs : CS} {X : Cx} {W : WX} {c k j nc : Nat}
/-- != by the default __ne__ and an own __eq__ that tells a truth value -/
structure NeF (K : PySem.W.Frag) (cs : CS) (nc : Nat) : Prop where
  ob : ∀ C, cs.cls[nc]? = some (.ref C) → PySem.W.mroIn K C (.type "object") = some true
  ne : ∀ C, cs.cls[nc]? = some (.ref C) → PySem.W.findIn K (.ref C) "__ne__" = some (some (.builtin "object.__ne__"))
def tOwnNe (nc : Nat) (Ts : List Bt) (os : List Nat) (S : SpX) : Tf2 := fun d1 d2 M post xp => ∃ fs kd, insOf M d1 = some (nc, fs) ∧ kdOf M d2 = some kd ∧ (match kd with | .ty T => T ∈ Ts ∧ T ≠ .dict | .ob c => c ∈ os) ∧ S [d1, d2] M (fun r M' => ∃ b : Bool, r = .bl b ∧ post (.bl (!b)) M') xp
theorem po_ownNe {Ts : List Bt} {os : List Nat} {S : SpX} (O : CpF X.K cs nc Ts os) (N : NeF X.K cs nc) (F : MtD X.prog X.w X.K X.mg X.base cs k nc "__eq__" 2 c S) (hr : RoomG j X.A) (tk : Takes X W) (hk : k + 1 ≤ j := by decide) : PO2 cs X W c (compareOp .NotEq) (tOwnNe nc Ts os S) := ⟨fun u n H σ d1 d2 x y post xp Q A hn rx ry ⟨fs, kd, hi, hkd, hm, hS⟩ kn kx => TO.mk fun pins s v w I rv rw' => by
  obtain ⟨C, f, fd, ps, hC, cl, hme, F, hb⟩ := F.ex
  obtain ⟨t, L, ht⟩ := looks_ty A I hkd ry rw' (fun z => by subst z; exact hm.2 rfl)
  have hnf : PySem.W.notFirst X.K C t = true := by
    rcases ht with ⟨T, e1, e2⟩ | ⟨c', C', e1, e2, e3⟩
    · subst e1; subst e2; exact O.ty C hC T hm.1
    · subst e1; subst e3; exact O.ob C hC c' hm C' e2
  obtain ⟨a', C', ox, od, m, ex, ev, hC', J, hF⟩ := ins_st A I hi rx rv
  rw [hC] at hC'; cases hC'
  show wpAny _ _ (richCompare .NotEq v w) _ _ _
  rw [ev]
  rw [ev] at rv
  refine cmpNe_K (by have := hr.room.un; omega) I.kIn J L hnf (N.ob C hC) (N.ne C hC) hme.at_ hme.fn (thn (run_in (Q := fun v H' => ∃ b : Bool, v = .bl b ∧ Q (.bl (!b)) H') F hb (hr.mono hk).in1 I.env0.in1 tk A hn I (RepL.cons rx (RepL.cons ry RepL.nil)) (.cons rv (.cons rw' .nil)) rfl hS (fun v d u' H' e B r ⟨b, ed, hq⟩ => by subst ed; exact ⟨b, r, kn (.bl (!b)) (.bl (!b)) u' H' e B rfl hq⟩) kx) fun v s' h => ?_)
  obtain ⟨v', H', I', rv', b, eb, q⟩ := h
  subst eb
  obtain rfl : v = .bool b := rv'
  exact ⟨b, rfl, .bl (!b), H', I', rfl, q⟩⟩
end
end Ev
-- EvAF
namespace Ev
open PySem PySem.Spec PyProof.Rows L2
section
variable {cs : CS} {X : Cx} {W : WX} {c k j nc : Nat} {pos : Pos}
/-- a built-in exception's class by its name, as a class of the list -/
theorem px_gex {x : Str} {T : String} (nc : Nat) (hm : X.mg x = none) (hC : cs.cls[nc]? = some (.ty T)) (hv : bootBuiltins x = some (.type T) := by decide +kernel) (hg : Gl X x := by rfl) (hn' : x ≠ "__name__" := by decide) (hd : (x == ("__debug__" : Str)) = false := by decide) : PX cs X W 0 (.Name x pos) (tCon (.cls nc)) := ⟨fun u n H σ Γ post xp Q A hn q kn kx =>
  tw_of (pe_bltn hg hm hv (v := .ty T) rfl hn' hd) (kn.here (d := .cls nc) A.toWd ⟨by rw [A.ks.1]; exact hC, nofun⟩ q)⟩
theorem kit_exty {K : PySem.W.Frag} {C : Addr} {T : String} {b : Bool} (hm : PySem.W.kitMeta T = true) (sub : PySem.W.subIn K (.ref C) (.type T) = some b) : PySem.W.kitOne K (.ref C) (.type T) = some b := by
  unfold PySem.W.kitOne
  rw [if_neg (by rw [beq_iff_eq]; nofun)]
  unfold PySem.W.kitCls
  dsimp only
  rw [if_pos hm, sub]
end
/-! ### bool of an instance with an own __bool__ -/
theorem bool_newO {prog : Program} {w : World} (x : Addr) : MeetsIn prog w (Builtin.«bool.__new__» ⟨[.type "bool", .ref x], []⟩) (fun A R s => wpAny (model prog w) A.in1 (truthy (.ref x)) (fun b s' => R (.ok (.ret (.bool b))) s') (fun e s' => R (.error e) s') s) :=
  .of_wp fun A R s h => by
    obtain ⟨hp, g, d, tk, os⟩ := s
    have f1 := F.conv_sub_bool
    repeat (any_goals (first | assumption | (with_reducible refine wpAny_mono h (fun b s' z => ?_) fun _ _ e => e) | wp_step))
    exact ⟨_, rfl, ‹_›⟩
theorem call_boolO {prog : Program} {w : World} {A : Around} {E : Value → Shared → Prop} {s : Shared} {x : Addr} {Q : Value → Shared → Prop} (h : wpAny (model prog w) A.in1.in1 (truthy (.ref x)) (fun b s' => Q (.bool b) s') E s) : wpAny (model prog w) A (call (.type "bool") [.ref x]) Q E s :=
  callType_newIn F.called_bool F.newNe_bool (F.typeCall_bool_1 _) (F.newCall_bool_1 _) (fun obj => F.args_object_init_2 obj _) F.entry_bool_new (bool_newO x) (wpAny_mono h (fun b s' z => ⟨rfl, z⟩) fun _ _ e => e)
section
variable {cs : CS} {X : Cx} {W : WX} {c k j nc : Nat}
def tBoolO (nc : Nat) (S : SpX) : TfC := fun ds M post xp => ∃ d fs, ds = [d] ∧ insOf M d = some (nc, fs) ∧ S [d] M (fun r M' => ∃ b, r = .bl b ∧ post (.bl b) M') xp
theorem poc_boolO {S : SpX} (F : MtD X.prog X.w X.K X.mg X.base cs k nc "__bool__" 1 c S) (hr : RoomG j X.A) (tk : Takes X W) (hk : k + 2 ≤ j := by decide) : POC cs X W c (.type "bool") (tBoolO nc S) := ⟨fun u n H σ ds xs post xp Q A hn rx ⟨d, fs, ed, hi, hS⟩ kn kx => TC.mk fun pins s us I ru => by
  subst ed
  obtain ⟨x, e, r⟩ := rx.one
  subst e
  obtain ⟨v, ev, rv⟩ := Vals.one ru
  subst ev
  obtain ⟨C, f, fd, ps, hC, cl, hme, F, hb⟩ := F.ex
  obtain ⟨a', C', ox, od, m, ex, ev, hC', J, hF⟩ := ins_st A I hi r rv
  rw [hC] at hC'; cases hC'
  subst ev
  refine call_boolO ?_
  unfold truthy
  refine wpAny_bind (PySem.W.special_fn I.kIn J hme.at_ (beq_iff_eq.mp hme.fn) (thn (run_in (Q := fun v H' => ∃ b, v = .bl b ∧ Q (.bl b) H') F hb (RoomG.in1 (RoomG.in1 (hr.mono hk))) I.env0.in1.in1 tk A hn I (RepL.cons r RepL.nil) (.cons rv .nil) rfl hS (fun v d u' H' e B r ⟨b, ed, hb⟩ => by subst ed; exact ⟨b, r, kn (.bl b) (.bl b) u' H' e B rfl hb⟩) kx) fun v s' h => ?_))
  obtain ⟨v', H', I', rv', b, eb, q⟩ := h
  subst eb
  obtain rfl : v = .bool b := rv'
  exact wpAny_pure ⟨.bl b, H', I', rfl, q⟩⟩
end
theorem ni_ty {T : String} : ∀ x, RelV (.ty T) x → x ≠ .notImplemented := fun x r => by
  have r : x = Value.type T := r
  rw [r]; nofun
end Ev
-- EvAG
/-! repr of data, dicts too; the values of a class -/
namespace Ev
open PySem PySem.Spec PyProof.Rows L2
def keyR : Key → PyData
  | .inl i => .int i
  | .inr x => .str x
mutual
def pyR : D → Option PyData
  | .non => some .none
  | .bl b => some (.bool b)
  | .int i => some (.int i)
  | .str x => some (.str x)
  | .tup ds => (pyRL ds).map .tuple
  | .lst ds => (pyRL ds).map .list
  | .dic kvs => (pyRK kvs).map .dict
  | _ => none
def pyRL : List D → Option (List PyData)
  | [] => some []
  | d :: ds => match pyR d, pyRL ds with
    | some y, some ys => some (y :: ys)
    | _, _ => none
def pyRK : List (Key × D) → Option (List (PyData × PyData))
  | [] => some []
  | (k, d) :: ds => match pyR d, pyRK ds with
    | some y, some ys => some ((keyR k, y) :: ys)
    | _, _ => none
end
theorem pyRL_cons {d : D} {ds : List D} {ys : List PyData} (h : pyRL (d :: ds) = some ys) : ∃ y r, pyR d = some y ∧ pyRL ds = some r ∧ ys = y :: r := by
  unfold pyRL at h
  cases e1 : pyR d with
  | none => rw [e1] at h; cases h
  | some y =>
    cases e2 : pyRL ds with
    | none => rw [e1, e2] at h; cases h
    | some r => rw [e1, e2] at h; cases h; exact ⟨y, r, rfl, rfl, rfl⟩
theorem pyRK_cons {k : Key} {d : D} {ds : List (Key × D)} {ys : List (PyData × PyData)} (h : pyRK ((k, d) :: ds) = some ys) : ∃ y r, pyR d = some y ∧ pyRK ds = some r ∧ ys = (keyR k, y) :: r := by
  unfold pyRK at h
  cases e1 : pyR d with
  | none => rw [e1] at h; cases h
  | some y =>
    cases e2 : pyRK ds with
    | none => rw [e1, e2] at h; cases h
    | some r => rw [e1, e2] at h; cases h; exact ⟨y, r, rfl, rfl, rfl⟩
section
variable {P : Program} {w : World} {h : Heap}
def Shw (P : Program) (w : World) (h : Heap) (v : Value) (y : PyData) : Prop := ∃ as bs, Reads h v y as ∧ ReadAtMost h y.depth bs ∧ ReprK P w bs h y.depth v y.shown
def ShwL (P : Program) (w : World) (h : Heap) (vs : List Value) (ys : List PyData) : Prop := ∃ as bs, ReadsAll h vs ys as ∧ ReadAtMost h (PyData.depthAll ys) bs ∧ ReprAllK P w bs h (PyData.depthAll ys) vs (PyData.shownAll ys)
def ShwT (P : Program) (w : World) (h : Heap) (v : Value) (y : PyData) : Prop := ∀ a, v = .ref a → ∃ T idr, ShowsBy P w h a y T idr
theorem ShwL.nil : ShwL P w h [] [] := ⟨[], [], .nil, fun _ z => (List.not_mem_nil z).elim, by simp only [PyData.shownAll]; exact .nil⟩
theorem ShwL.cons {v : Value} {vs : List Value} {y : PyData} {ys : List PyData} (p : Shw P w h v y) (q : ShwL P w h vs ys) : ShwL P w h (v :: vs) (y :: ys) := by
  obtain ⟨as, bs, r1, m1, k1⟩ := p
  obtain ⟨cs, ds, r2, m2, k2⟩ := q
  refine ⟨as ++ cs, bs ++ ds, .cons r1 r2, ?_, ?_⟩
  · rw [show PyData.depthAll (y :: ys) = max y.depth (PyData.depthAll ys) by simp only [PyData.depthAll]]
    exact (m1.mono (Nat.le_max_left _ _)).append (m2.mono (Nat.le_max_right _ _))
  · simp only [PyData.depthAll, PyData.shownAll]
    exact .cons ((k1.more fun b hb => List.mem_append_left _ hb).level_le (Nat.le_max_left _ _)) (k2.more_le (fun b hb => List.mem_append_right _ hb) (Nat.le_max_right _ _))
theorem Shw.lst {a : Addr} {o : Obj} {vs : Array Value} {n : Nat} {ys : List PyData} (e : h.get? a = some o) (ec : o.cls = .type "list") (ed : o.data = .seq vs n) (L : ShwL P w h vs.toList ys) (hz : (PyData.shown (.list ys)).length ≤ sizeLine) : Shw P w h (.ref a) (.list ys) ∧ ShwT P w h (.ref a) (.list ys) := by
  obtain ⟨as, bs, rd, m, k⟩ := L
  have R : Reads h (.ref a) (.list ys) (a :: as) := .list e ec ed rd
  have gap : a ∉ bs := not_mem_of_deeper R (by rw [PyData.depth]; omega) m
  have hz2 : (listText (PyData.shownAll ys)).length ≤ sizeLine := by rw [PyData.shown] at hz; exact hz
  obtain ⟨l⟩ := vs
  refine ⟨⟨_, a :: bs, R, ReadAtMost.cons R (by rw [PyData.depth]; omega) m, ?_⟩, fun b eb => ?_⟩
  · rw [PyData.depth, PyData.shown]
    cases l with
    | nil =>
      cases (show ReadsAll h [] ys _ from rd)
      rw [PyData.shownAll, listText_nil]
      exact ReprK.listEmpty e ec ed
    | cons x l => exact ReprK.list e ec ed gap (by simpa using k.length_eq) fun i y z => k.item i y (by simpa using z)
  · cases eb
    refine ⟨"list", "list.__repr__", F.slot_list_repr.toG, F.slot_list_str, F.slot_list_format, fun s hk => ⟨o, hk _ _ e, ec⟩, fun A E s Q hg hu hk hQ => ?_⟩
    rw [PyData.depth] at hu
    rw [PyData.shown] at hQ
    cases l with
    | nil =>
      cases (show ReadsAll h [] ys _ from rd)
      rw [PyData.shownAll, listText_nil] at hQ
      exact call_list_repr_empty ⟨o, hk _ _ e, ec⟩ (hk _ _ e) ed (hQ s.heap _ _ fun _ _ z => z)
    | cons x l => exact call_list_reprK e ec ed gap (by simpa using k.length_eq) (fun i y z => k.item i y (by simpa using z)) hg (fun b _ => Clear.nil b) hu hk hQ hz2
theorem Shw.tup {a : Addr} {o : Obj} {vs : Array Value} {n : Nat} {ys : List PyData} (e : h.get? a = some o) (ec : o.cls = .type "tuple") (ed : o.data = .seq vs n) (L : ShwL P w h vs.toList ys) (hz : (PyData.shown (.tuple ys)).length ≤ sizeLine) : Shw P w h (.ref a) (.tuple ys) ∧ ShwT P w h (.ref a) (.tuple ys) := by
  obtain ⟨as, bs, rd, m, k⟩ := L
  have R : Reads h (.ref a) (.tuple ys) as := .tuple e ec ed rd
  have gap : a ∉ bs := not_mem_of_deeper R (by rw [PyData.depth]; omega) m
  have hz2 : (tupleText (PyData.shownAll ys)).length ≤ sizeLine := by rw [PyData.shown] at hz; exact hz
  refine ⟨⟨_, a :: bs, R, ReadAtMost.cons R (by rw [PyData.depth]; omega) m, ?_⟩, fun b eb => ?_⟩
  · rw [PyData.depth, PyData.shown]
    exact ReprK.tuple e ec ed gap k
  · cases eb
    refine ⟨"tuple", "tuple.__repr__", F.slot_tuple_repr, F.slot_tuple_str, F.slot_tuple_format, fun s hk => ⟨o, hk _ _ e, ec⟩, fun A E s Q hg hu hk hQ => ?_⟩
    rw [PyData.depth] at hu
    rw [PyData.shown] at hQ
    exact call_tuple_reprK e ec ed gap k hg (fun b _ => Clear.nil b) hu hk hQ hz2
theorem Shw.dic {a : Addr} {o : Obj} {es : Array DictEntry} {n : Nat} {ys : List (PyData × PyData)} (e : h.get? a = some o) (ec : o.cls = .type "dict") (ed : o.data = .dict es n) (hsm : (a == sysModules) = false) (L1 : ShwL P w h (es.toList.map (·.key)) (ys.map (·.1))) (L2 : ShwL P w h (es.toList.map (·.val)) (ys.map (·.2))) (hz : (PyData.shown (.dict ys)).length ≤ sizeLine) : Shw P w h (.ref a) (.dict ys) ∧ ShwT P w h (.ref a) (.dict ys) := by
  obtain ⟨as1, b1, rd1, m1, k1⟩ := L1
  obtain ⟨as2, b2, rd2, m2, k2⟩ := L2
  have R : Reads h (.ref a) (.dict ys) (a :: as1 ++ as2) := .dict e ec ed rd1 rd2
  have m := (m1.mono (PyData.depthAll_keys_le ys)).append (m2.mono (PyData.depthAll_vals_le ys))
  have gap : a ∉ b1 ++ b2 := not_mem_of_deeper R (by rw [PyData.depth]; omega) m
  have hz2 : (dictText (PyData.shownKv ys)).length ≤ sizeLine := by rw [PyData.shown] at hz; exact hz
  have EN := ReprEntriesK.of_two (d := PyData.depthKv ys) (as := b1 ++ b2) es.toList _ _ (k1.more_le (fun b hb => List.mem_append_left _ hb) (PyData.depthAll_keys_le ys)) (k2.more_le (fun b hb => List.mem_append_right _ hb) (PyData.depthAll_vals_le ys))
  rw [← PyData.shownKv_eq] at EN
  refine ⟨⟨_, a :: (b1 ++ b2), R, ReadAtMost.cons R (by rw [PyData.depth]; omega) m, ?_⟩, fun b eb => ?_⟩
  · rw [PyData.depth, PyData.shown]
    exact ReprK.dict e ec ed hsm gap EN
  · cases eb
    refine ⟨"dict", "dict.__repr__", F.slot_dict_repr, F.slot_dict_str, F.slot_dict_format, fun s hk => ⟨o, hk _ _ e, ec⟩, fun A E s Q hg hu hk hQ => ?_⟩
    rw [PyData.depth] at hu
    rw [PyData.shown] at hQ
    exact call_dict_reprK e ec ed hsm gap EN hg (fun b _ => Clear.nil b) hu hk hQ hz2
end
section
variable {X : Cx} {pins : List (Addr × Obj)} {σ : L2.St} {H : Hp} {s : Shared} {u : U}
theorem shwKeys {P : Program} {w : World} {h : Heap} {Q : Program} {w' : World} : ∀ {us : List (Key × V)} {vs : List (Key × Value)} {es : List DictEntry} {kvs : List (Key × D)} {ys : List (PyData × PyData)}, RepK u H kvs us → L2.KV us vs → Pairs (mixKind Q w') es vs → pyRK kvs = some ys → PyData.showableAll (ys.map (·.1)) = true → (∀ t ∈ PyData.shownAll (ys.map (·.1)), t.length ≤ sizeLine) → ShwL P w h (es.map (·.key)) (ys.map (·.1))
  | us, vs, es, [], ys, r, kv, p, hy, hs, hz => by
    rw [show us = [] from r] at kv
    cases kv
    cases p
    cases hy
    exact ShwL.nil
  | us, vs, es, (k, d) :: kvs, ys, r, kv, p, hy, hs, hz => by
    obtain ⟨v, r', e, a, b⟩ := (show ∃ v r', us = (k, v) :: r' ∧ Rep u H d v ∧ RepK u H kvs r' from r)
    subst e
    obtain ⟨y, ys', e1, e2, e3⟩ := pyRK_cons hy
    subst e3
    cases kv with
    | cons rq kv' =>
      cases p with
      | cons p1 p2 p3 =>
        have hs' : (keyR k).showable = true ∧ PyData.showableAll (ys'.map (·.1)) = true := by simpa [PyData.showableAll] using hs
        refine ShwL.cons (show Shw P w h _ (keyR k) from ?_) (shwKeys b kv' p3 e2 hs'.2 fun t ht => hz t (by simp only [List.map_cons, PyData.shownAll]; exact List.mem_cons_of_mem _ ht))
        have hz1 := hz _ (by simp only [List.map_cons, PyData.shownAll]; exact List.mem_cons_self ..)
        rw [← rq.1] at p1
        have p1 : keyIs k _ = true := p1
        cases k with
        | inl i =>
          rcases keyIs_shape p1 with ⟨i', t, q1, q2⟩ | ⟨x', t, q1, q2⟩
          · cases q1
            dsimp only
            rw [q2]
            exact ⟨[], [], .int _ t, fun _ z => (List.not_mem_nil z).elim, by rw [keyR, PyData.shown]; exact .of_is (ReprIs.int t (by simpa [keyR, PyData.showable] using hs'.1)) _ _ _⟩
          · cases q1
        | inr x =>
          rcases keyIs_shape p1 with ⟨i', t, q1, q2⟩ | ⟨x', t, q1, q2⟩
          · cases q1
          · cases q1
            dsimp only
            rw [q2]
            exact ⟨[], [], .str _ t, fun _ z => (List.not_mem_nil z).elim, by rw [keyR, PyData.shown]; exact .of_is (ReprIs.str _ t (by simpa [keyR, PyData.shown] using hz1)) _ _ _⟩
mutual
theorem shw_of (I : Inv X pins σ H s) : ∀ (d : D) (v : V) (z : Value) (y : PyData), Rep u H d v → RelV v z → pyR d = some y → y.showable = true → y.shown.length ≤ sizeLine → Shw X.prog X.w s.heap z y ∧ ShwT X.prog X.w s.heap z y
  | .non, v, z, y, r, rv, hy, hs, hz => by
    rw [show v = .non from r] at rv
    cases hy; cases rv
    exact ⟨⟨[], [], .none, fun _ z => (List.not_mem_nil z).elim, by rw [PyData.shown]; exact .of_is ReprIs.none _ _ _⟩, nofun⟩
  | .bl b, v, z, y, r, rv, hy, hs, hz => by
    rw [show v = .bl b from r] at rv
    cases hy; cases rv
    exact ⟨⟨[], [], .bool b, fun _ z => (List.not_mem_nil z).elim, by rw [PyData.shown]; exact .of_is (ReprIs.bool b) _ _ _⟩, nofun⟩
  | .int i, v, z, y, r, rv, hy, hs, hz => by
    rw [show v = .int i from r] at rv
    obtain ⟨t, rfl⟩ := rv
    cases hy
    exact ⟨⟨[], [], .int i t, fun _ z => (List.not_mem_nil z).elim, by rw [PyData.shown]; exact .of_is (ReprIs.int t (by simpa [PyData.showable] using hs)) _ _ _⟩, nofun⟩
  | .str x, v, z, y, r, rv, hy, hs, hz => by
    rw [show v = .str x from r] at rv
    obtain ⟨t, rfl⟩ := rv
    cases hy
    exact ⟨⟨[], [], .str x t, fun _ z => (List.not_mem_nil z).elim, by rw [PyData.shown]; exact .of_is (ReprIs.str x t (by simpa [PyData.shown] using hz)) _ _ _⟩, nofun⟩
  | .pen, v, z, y, r, rv, hy, hs, hz => by cases hy
  | .ref _, v, z, y, r, rv, hy, hs, hz => by cases hy
  | .cls _, v, z, y, r, rv, hy, hs, hz => by cases hy
  | .ty _, v, z, y, r, rv, hy, hs, hz => by cases hy
  | .loc _, v, z, y, r, rv, hy, hs, hz => by cases hy
  | .obj _ _ _, v, z, y, r, rv, hy, hs, hz => by cases hy
  | .exc _ _ _, v, z, y, r, rv, hy, hs, hz => by cases hy
  | .fn _ _ _ _ _, v, z, y, r, rv, hy, hs, hz => by cases hy
  | .tup ds, v, z, y, r, rv, hy, hs, hz => by
    obtain ⟨a, vs, e, f, g, rl⟩ := r.tupE
    have hy : (pyRL ds).map PyData.tuple = some y := hy
    cases e1 : pyRL ds with
    | none => rw [e1] at hy; cases hy
    | some ys =>
      rw [e1] at hy; cases hy
      subst e
      cases rv
      obtain ⟨its, ri, ⟨o, ho, hc, n, hd⟩, _⟩ := I.tuple (SqT.of g)
      have hz2 := hz
      rw [PyData.shown] at hz2
      exact Shw.tup ho hc hd (shw_ofL I ds vs its ys rl ri e1 (by simpa [PyData.showable] using hs) fun t ht => Nat.le_trans (tupleText_mem_le ht) hz2) hz
  | .lst ds, v, z, y, r, rv, hy, hs, hz => by
    obtain ⟨a, vs, e, f, g, rl⟩ := r.lstE
    have hy : (pyRL ds).map PyData.list = some y := hy
    cases e1 : pyRL ds with
    | none => rw [e1] at hy; cases hy
    | some ys =>
      rw [e1] at hy; cases hy
      subst e
      cases rv
      obtain ⟨its, ri, ⟨o, n, ho, hc, _, hd⟩, _⟩ := I.list (SqL.of g)
      have hz2 := hz
      rw [PyData.shown] at hz2
      exact Shw.lst ho hc hd (shw_ofL I ds vs its ys rl ri e1 (by simpa [PyData.showable] using hs) fun t ht => Nat.le_trans (listText_mem_le ht) hz2) hz
  | .dic kvs, v, z, y, r, rv, hy, hs, hz => by
    obtain ⟨a, us, e, f, g, rl⟩ := r.dicE
    have hy : (pyRK kvs).map PyData.dict = some y := hy
    cases e1 : pyRK kvs with
    | none => rw [e1] at hy; cases hy
    | some ys =>
      rw [e1] at hy; cases hy
      subst e
      cases rv
      obtain ⟨_, hsm, vs, kv, o, es, ep, ho, hx, hd, _, hp, _⟩ := dk_of I.hok g
      have hz2 := hz
      rw [PyData.shown] at hz2
      obtain ⟨s1, s2⟩ := PyData.showableKv_split ys (by simpa [PyData.showable] using hs)
      refine Shw.dic ho hx.1 hd hsm (shwKeys rl kv hp e1 s1 fun t ht => ?_) (shw_ofK I kvs us vs es.toList ys rl kv hp e1 s2 fun t ht => ?_) hz
      · obtain ⟨p, h1, h2⟩ := PyData.shownKv_key_le ys t ht
        exact Nat.le_trans h2 (Nat.le_trans (dictText_mem_le h1) hz2)
      · obtain ⟨p, h1, h2⟩ := PyData.shownKv_val_le ys t ht
        exact Nat.le_trans h2 (Nat.le_trans (dictText_mem_le h1) hz2)
theorem shw_ofL (I : Inv X pins σ H s) : ∀ (ds : List D) (vs : List V) (zs : List Value) (ys : List PyData), RepL u H ds vs → Vals vs zs → pyRL ds = some ys → PyData.showableAll ys = true → (∀ t ∈ PyData.shownAll ys, t.length ≤ sizeLine) → ShwL X.prog X.w s.heap zs ys
  | [], vs, zs, ys, r, rv, hy, hs, hz => by
    rw [show vs = [] from r] at rv
    cases hy; cases rv
    exact ShwL.nil
  | d :: ds, vs, zs, ys, r, rv, hy, hs, hz => by
    obtain ⟨v, w, e, a, b⟩ := r.uncons
    subst e
    obtain ⟨y, ys', h1, h2, h3⟩ := pyRL_cons hy
    subst h3
    cases rv with
    | cons r1 r2 =>
      have hs' : y.showable = true ∧ PyData.showableAll ys' = true := by simpa [PyData.showableAll] using hs
      exact ShwL.cons (shw_of I d v _ y a r1 h1 hs'.1 (hz _ (by simp only [PyData.shownAll]; exact List.mem_cons_self ..))).1 (shw_ofL I ds w _ ys' b r2 h2 hs'.2 fun t ht => hz t (by simp only [PyData.shownAll]; exact List.mem_cons_of_mem _ ht))
theorem shw_ofK (I : Inv X pins σ H s) : ∀ (kvs : List (Key × D)) (us : List (Key × V)) (vs : List (Key × Value)) (es : List DictEntry) (ys : List (PyData × PyData)), RepK u H kvs us → L2.KV us vs → Pairs (mixKind X.prog X.w) es vs → pyRK kvs = some ys → PyData.showableAll (ys.map (·.2)) = true → (∀ t ∈ PyData.shownAll (ys.map (·.2)), t.length ≤ sizeLine) → ShwL X.prog X.w s.heap (es.map (·.val)) (ys.map (·.2))
  | [], us, vs, es, ys, r, kv, p, hy, hs, hz => by
    rw [show us = [] from r] at kv
    cases kv
    cases p
    cases hy
    exact ShwL.nil
  | (k, d) :: kvs, us, vs, es, ys, r, kv, p, hy, hs, hz => by
    obtain ⟨v, r', e, a, b⟩ := (show ∃ v r', us = (k, v) :: r' ∧ Rep u H d v ∧ RepK u H kvs r' from r)
    subst e
    obtain ⟨y, ys', e1, e2, e3⟩ := pyRK_cons hy
    subst e3
    cases kv with
    | cons rq kv' =>
      cases p with
      | cons p1 p2 p3 =>
        have hs' : y.showable = true ∧ PyData.showableAll (ys'.map (·.2)) = true := by simpa [PyData.showableAll] using hs
        refine ShwL.cons ?_ (shw_ofK I kvs r' _ _ ys' b kv' p3 e2 hs'.2 fun t ht => hz t (by simp only [List.map_cons, PyData.shownAll]; exact List.mem_cons_of_mem _ ht))
        have rr := rq.2
        rw [← p2] at rr
        exact (shw_of I d v _ y a rr e1 hs'.1 (hz _ (by simp only [List.map_cons, PyData.shownAll]; exact List.mem_cons_self ..))).1
end
end
/-- data that repr may show: of at most w signs, at most h deep -/
structure Rd (w h : Nat) (d : D) : Prop where
  is : ∃ y, pyR d = some y ∧ y.showable = true ∧ y.depth ≤ h ∧ y.shown.length ≤ w
structure RdL (w h : Nat) (ds : List D) : Prop where
  is : ∃ ys, pyRL ds = some ys ∧ PyData.showableAll ys = true ∧ PyData.depthAll ys ≤ h ∧ ((PyData.shownAll ys).map (·.length)).sum + 2 * (PyData.shownAll ys).length ≤ w
structure RdK (w h : Nat) (ds : List (Key × D)) : Prop where
  is : ∃ ys, pyRK ds = some ys ∧ PyData.showableKv ys = true ∧ PyData.depthKv ys ≤ h ∧ ((PyData.shownKv ys).map (·.length)).sum + 2 * (PyData.shownKv ys).length ≤ w
def shw (d : D) : Str := ((pyR d).getD .none).shown
theorem Rd.up {w h w' h' : Nat} {d : D} (r : Rd w h d) (a : w ≤ w') (b : h ≤ h') : Rd w' h' d := ⟨let ⟨y, e1, e2, e3, e4⟩ := r.is; ⟨y, e1, e2, Nat.le_trans e3 b, Nat.le_trans e4 a⟩⟩
theorem Rd.non : Rd 4 0 .non := ⟨_, rfl, rfl, Nat.le_refl _, by decide⟩
theorem Rd.bl {b : Bool} : Rd 5 0 (.bl b) := ⟨_, rfl, rfl, Nat.le_refl _, by cases b <;> decide⟩
theorem Rd.int {i : Int} (h : i.natAbs.log2 < 1920) : Rd 1921 0 (.int i) := ⟨_, rfl, by simpa [PyData.showable] using h, Nat.le_refl _, by
  show (Str.ofString (toString i)).length ≤ 1921
  exact PyProof.Rows.int_text_len_1921 h⟩
theorem Rd.str {l : List Nat} {n : Nat} (h : l.length ≤ n) (hc : ∀ c ∈ l, c < 128) : Rd (10 * n + 2) 0 (.str (SX.S l)) := ⟨_, rfl, rfl, Nat.le_refl _, by
  have e : (SX.S l).cps.toList = l := by simp [SX.S]
  have := StrLaws.reprText_len (SX.S l) (fun c z => Nat.lt_trans (hc c (by rw [e] at z; exact z)) (by decide))
  have e2 : (SX.S l).length = l.length := by simp [SX.S, Str.length]
  have e3 : (SX.S l).cps.size = l.length := by simp [SX.S]
  rw [PyData.shown]
  omega⟩
theorem RdL.nil : RdL 0 0 [] := ⟨[], rfl, rfl, Nat.le_refl _, Nat.le_refl _⟩
theorem RdL.cons {w h w' h' : Nat} {d : D} {ds : List D} (a : Rd w h d) (b : RdL w' h' ds) : RdL (w + w' + 2) (max h h') (d :: ds) := by
  obtain ⟨y, e1, e2, e3, e4⟩ := a.is
  obtain ⟨ys, f1, f2, f3, f4⟩ := b.is
  refine ⟨y :: ys, by unfold pyRL; rw [e1, f1], by rw [PyData.showableAll, e2, f2]; rfl, by rw [PyData.depthAll]; omega, ?_⟩
  simp only [PyData.shownAll, List.map_cons, List.sum_cons, List.length_cons]
  omega
theorem Rd.tup {w h : Nat} {ds : List D} (a : RdL w h ds) : Rd (w + 3) (h + 1) (.tup ds) := by
  obtain ⟨ys, f1, f2, f3, f4⟩ := a.is
  refine ⟨.tuple ys, by unfold pyR; rw [f1]; rfl, by rw [PyData.showable]; exact f2, by rw [PyData.depth]; omega, ?_⟩
  have := tupleText_len_le (PyData.shownAll ys)
  rw [PyData.shown]; omega
theorem Rd.lst {w h : Nat} {ds : List D} (a : RdL w h ds) : Rd (w + 3) (h + 1) (.lst ds) := by
  obtain ⟨ys, f1, f2, f3, f4⟩ := a.is
  refine ⟨.list ys, by unfold pyR; rw [f1]; rfl, by rw [PyData.showable]; exact f2, by rw [PyData.depth]; omega, ?_⟩
  have := listText_len_le (PyData.shownAll ys)
  rw [PyData.shown]; omega
theorem RdK.nil : RdK 0 0 [] := ⟨[], rfl, rfl, Nat.le_refl _, Nat.le_refl _⟩
theorem rdK_cons {w h w' h' : Nat} {k : Key} {dk d : D} {ds : List (Key × D)} (hk : pyR dk = some (keyR k)) (ak : Rd w 0 dk) (a : Rd w' h d) (b : RdK w'' h' ds) : RdK (w + w' + w'' + 4) (max h h') ((k, d) :: ds) := by
  obtain ⟨z, z1, z2, z3, z4⟩ := ak.is
  rw [hk] at z1; cases z1
  obtain ⟨y, e1, e2, e3, e4⟩ := a.is
  obtain ⟨ys, f1, f2, f3, f4⟩ := b.is
  refine ⟨(keyR k, y) :: ys, by unfold pyRK; rw [e1, f1], by rw [PyData.showableKv, z2, e2, f2]; rfl, by rw [PyData.depthKv]; omega, ?_⟩
  have q : ((keyR k).shown ++ ": " ++ y.shown).length = (keyR k).shown.length + 2 + y.shown.length := by rw [strLen_append, strLen_append]; rfl
  simp only [PyData.shownKv, List.map_cons, List.sum_cons, List.length_cons]
  omega
theorem RdK.str {l : List Nat} {n w h w' h' : Nat} {d : D} {ds : List (Key × D)} (hl : l.length ≤ n) (hc : ∀ c ∈ l, c < 128) (a : Rd w h d) (b : RdK w' h' ds) : RdK (10 * n + 2 + w + w' + 4) (max h h') ((.inr (SX.S l), d) :: ds) := rdK_cons (dk := .str (SX.S l)) rfl (Rd.str hl hc) a b
theorem RdK.int {i : Int} {w h w' h' : Nat} {d : D} {ds : List (Key × D)} (hl : i.natAbs.log2 < 1920) (a : Rd w h d) (b : RdK w' h' ds) : RdK (1921 + w + w' + 4) (max h h') ((.inl i, d) :: ds) := rdK_cons (dk := .int i) rfl (Rd.int hl) a b
theorem Rd.dic {w h : Nat} {ds : List (Key × D)} (a : RdK w h ds) : Rd (w + 3) (h + 1) (.dic ds) := by
  obtain ⟨ys, f1, f2, f3, f4⟩ := a.is
  refine ⟨.dict ys, by unfold pyR; rw [f1]; rfl, by rw [PyData.showable]; exact f2, by rw [PyData.depth]; omega, ?_⟩
  have := dictText_len_le (PyData.shownKv ys)
  rw [PyData.shown]; omega
section
variable {cs : CS} {X : Cx} {W : WX} {c : Nat} {pos : Pos}
def tReprR : TfC := fun ds M post _ => ∃ d, ds = [d] ∧ Rd 16777216 60 d ∧ post (.str (shw d)) M
theorem po_reprR {k : Nat} (hr : RoomG k X.A) : POC cs X W 0 (.builtin "repr") tReprR := ⟨fun u n H σ ds xs post xp Q A hn rx ⟨d, ed, hd, q⟩ kn kx => TC.mk fun pins s us I ru => by
  subst ed
  obtain ⟨x, e, r⟩ := rx.one
  subst e
  obtain ⟨z, ez, rv⟩ := Vals.one ru
  subst ez
  obtain ⟨y, hy, hs, hdp, hl⟩ := hd.is
  have eq : shw d = y.shown := by unfold shw; rw [hy]; rfl
  rw [eq] at q
  have hz : y.shown.length ≤ sizeLine := by rw [sizeLine_eq]; exact hl
  obtain ⟨h1, h2⟩ := shw_of I d x z y r rv hy hs hz
  cases d
  case non =>
    rw [show x = .non from r] at rv
    cases rv; cases hy
    exact PySem.P.repr_of_none ⟨.str _, H, I.tok _, ⟨_, rfl⟩, kn.here (d := .str _) A rfl q⟩
  case bl b _ =>
    rw [show x = .bl b from r] at rv
    cases rv; cases hy
    exact PySem.P.repr_of_bool ⟨.str _, H, I.tok _, ⟨_, rfl⟩, kn.here (d := .str _) A rfl q⟩
  case int i _ =>
    rw [show x = .int i from r] at rv
    obtain ⟨t, rfl⟩ := rv
    cases hy
    exact PySem.P.repr_of_int (by simpa [PyData.showable] using hs) ⟨.str _, H, I.tok _, ⟨_, rfl⟩, kn.here (d := .str _) A rfl q⟩
  case str i _ =>
    rw [show x = .str i from r] at rv
    obtain ⟨t, rfl⟩ := rv
    cases hy
    exact PySem.P.repr_of_str ⟨.str _, H, I.tok _, ⟨_, rfl⟩, kn.here (d := .str _) A rfl q⟩ hz
  case tup ds =>
    obtain ⟨a, vs, e, _⟩ := r.tupE
    subst e
    cases rv
    obtain ⟨T, idr, S⟩ := h2 a rfl
    refine call_repr_slot (by have := hr.room.un; omega) (S.typeIs s fun _ _ z => z) S.slotRepr (S.call _ _ s _ hr.gd (by show X.A.units + 1 + y.depth < cLine; have := hr.room.un; omega) (fun _ _ z => z) fun h' u tk hk => ⟨_, _, rfl, ?_⟩)
    exact ⟨.str y.shown, H, I.kept hk, ⟨u, rfl⟩, kn.here (d := .str y.shown) A rfl q⟩
  case lst ds =>
    obtain ⟨a, vs, e, _⟩ := r.lstE
    subst e
    cases rv
    obtain ⟨T, idr, S⟩ := h2 a rfl
    refine call_repr_slot (by have := hr.room.un; omega) (S.typeIs s fun _ _ z => z) S.slotRepr (S.call _ _ s _ hr.gd (by show X.A.units + 1 + y.depth < cLine; have := hr.room.un; omega) (fun _ _ z => z) fun h' u tk hk => ⟨_, _, rfl, ?_⟩)
    exact ⟨.str y.shown, H, I.kept hk, ⟨u, rfl⟩, kn.here (d := .str y.shown) A rfl q⟩
  case dic ds =>
    obtain ⟨a, vs, e, _⟩ := r.dicE
    subst e
    cases rv
    obtain ⟨T, idr, S⟩ := h2 a rfl
    refine call_repr_slot (by have := hr.room.un; omega) (S.typeIs s fun _ _ z => z) S.slotRepr (S.call _ _ s _ hr.gd (by show X.A.units + 1 + y.depth < cLine; have := hr.room.un; omega) (fun _ _ z => z) fun h' u tk hk => ⟨_, _, rfl, ?_⟩)
    exact ⟨.str y.shown, H, I.kept hk, ⟨u, rfl⟩, kn.here (d := .str y.shown) A rfl q⟩
  all_goals (cases hy)⟩
end
end Ev
-- EvAH
/-! name op= e; x[::-1]; is of truth values; the values of a class; == beside dicts -/
namespace PySem.W
open PySem PySem.Spec PyProof.Rows
section
variable {prog : Program} {w : World} {A : Around} {E : Value → Shared → Prop} {s : Shared} {K : Frag} {x y C L f g : Addr} {h₀ : Heap} {m : Str → Option Value} {ox oy : Obj} {od oe : Option Obj} {nm T : String} {M : Model}
def Some1 (Q : Value → Shared → Prop) (r : Option Value) (s' : Shared) : Prop := ∃ v, r = some v ∧ Q v s'
theorem bin1_same {Q : Value → Shared → Prop} (F : Fr h₀ L s.heap m) (X₀ : K.In h₀) (I : InstAt s.heap x ox C od) (J : InstAt s.heap y oy C oe) (hc : selfFirst K C = true)
    (hs : findIn K (.ref C) (PySem.dunder nm) = some (some (.ref f))) (hf : isFn K (.ref f) = true) (h : wpAny (model prog w) A (call (.ref f) [.ref x, .ref y]) (CmpBack Q) E s) : wpAny (model prog w) A (binaryOp1 nm (.ref x) (.ref y)) (Some1 Q) E s := by
  have X := X₀.keeps F.keep
  obtain ⟨cd, rest, hcd, hm⟩ := ksp_first hc
  have one := ksp_try X I hs hf h
  obtain ⟨hh, g, d, tt, os⟩ := s
  have A1 : Looks (model prog w) hh (typeOf (.ref x)) (.ref C) := I.type
  have A2 : Looks (model prog w) hh (typeOf (.ref y)) (.ref C) := J.type
  have A3 : Looks (model prog w) hh (fillsNumberSlot (.ref C) nm) true := fills_K X hcd hm hs
  unfold binaryOp1
  refine wpAny_bind (A1.at (wpAny_bind (A2.at (wpAny_bind (A3.at ?_)))))
  simp only [beq_self_eq_true, if_true]
  ksp_lk
  refine wpAny_mono one (fun r s' hr' => ?_) fun _ _ e => e
  obtain ⟨v, rfl, hq⟩ := hr'
  ksp_lk
  exact ⟨_, rfl, hq⟩
theorem bin1_T {b : Value} {fo ro rc : Option Value} {Q : Value → Shared → Prop} (F : Fr h₀ L s.heap m) (X₀ : K.In h₀) (I : InstAt s.heap x ox C od) (hb : typeOf b = pure (.type T)) (hc : selfFirst K C = true) (hs : findIn K (.ref C) (PySem.dunder nm) = some (some (.ref f))) (hf : isFn K (.ref f) = true)
    (hr : findIn K (.ref C) (dunderR nm) = some rc) (hp : rc = none ∨ ∃ g : Addr, rc = some (.ref g)) (h1 : findIn K (.type T) (PySem.dunder nm) = some fo) (h2 : findIn K (.type T) (dunderR nm) = some ro) (hsub : subIn K (.type T) (.ref C) = some false)
    (h : wpAny (model prog w) A (call (.ref f) [.ref x, b]) (CmpBack Q) E s) : wpAny (model prog w) A (binaryOp1 nm (.ref x) b) (Some1 Q) E s := by
  have X := X₀.keeps F.keep
  obtain ⟨cd, rest, hcd, hm⟩ := ksp_first hc
  have one := ksp_try X I hs hf h
  obtain ⟨hh, g, d, tt, os⟩ := s
  have A1 : Looks (model prog w) hh (typeOf (.ref x)) (.ref C) := I.type
  have A2 : Looks (model prog w) hh (typeOf b) (.type T) := Looks.of_pure hb
  have A3 : Looks (model prog w) hh (fillsNumberSlot (.ref C) nm) true := fills_K X hcd hm hs
  have A4 : Looks (model prog w) hh (fillsNumberSlot (.type T) nm) ((fo.isSome && !isSeqSlot fo) || (ro.isSome && !isSeqSlot ro)) := ksp_fillsT X h1 h2
  have A5 : Looks (model prog w) hh (isSubtype (.type T) (.ref C)) false := looks_subIn X hsub
  have A6 : Looks (model prog w) hh (numberSlotInPython (.ref C) nm) true := ksp_inPy X hs hr hp
  have A7 : Looks (model prog w) hh (numberSlotInPython (.type T) nm) false := Looks.of_pure rfl
  have A8 : Looks (model prog w) hh (typeLookup (.type T) (dunderR nm)) ro := looks_findIn X h2
  generalize ((fo.isSome && !isSeqSlot fo) || (ro.isSome && !isSeqSlot ro)) = right at A4
  have hne : (Value.ref C == Value.type T) = false := Bool.eq_false_iff.mpr fun q => by cases beq_iff_eq.mp q
  unfold binaryOp1
  refine wpAny_bind (A1.at (wpAny_bind (A2.at (wpAny_bind (A3.at ?_)))))
  simp only [hne, Bool.false_eq_true, if_false]
  cases right with
  | false =>
    ksp_lk
    refine wpAny_mono one (fun r s' hr' => ?_) fun _ _ e => e
    obtain ⟨v, rfl, hq⟩ := hr'
    ksp_lk
    exact ⟨_, rfl, hq⟩
  | true =>
    ksp_lk
    refine wpAny_mono one (fun r s' hr' => ?_) fun _ _ e => e
    obtain ⟨v, rfl, hq⟩ := hr'
    ksp_lk
    exact ⟨_, rfl, hq⟩
/-- a text on the left, an own class that reflects + on the right -/
theorem bin1_strR {z : Str} {t : Tok} {Q : Value → Shared → Prop} (F : Fr h₀ L s.heap m) (X₀ : K.In h₀) (I : InstAt s.heap x ox C od) (hc : selfFirst K C = true) (hs : findIn K (.ref C) (PySem.dunder "add") = some (some (.ref g)))
    (hr : findIn K (.ref C) (dunderR "add") = some (some (.ref f))) (hf : isFn K (.ref f) = true) (hsub : subIn K (.ref C) (.type "str") = some false)
    (h : wpAny (model prog w) A (call (.ref f) [.ref x, .str z t]) (CmpBack Q) E s) : wpAny (model prog w) A (binaryOp1 "add" (.str z t) (.ref x)) (Some1 Q) E s := by
  have X := X₀.keeps F.keep
  obtain ⟨cd, rest, hcd, hm⟩ := ksp_first hc
  have one := ksp_try X I hr hf h
  obtain ⟨hh, gg, d, tt, os⟩ := s
  have A1 : Looks (model prog w) hh (typeOf (.ref x)) (.ref C) := I.type
  have A2 : Looks (model prog w) hh (typeOf (.str z t)) (.type "str") := Looks.of_pure rfl
  have A3 : Looks (model prog w) hh (fillsNumberSlot (.ref C) "add") true := fills_K X hcd hm hs
  have A4 : Looks (model prog w) hh (fillsNumberSlot (.type "str") "add") false := Looks.of_pure noFill_str_add
  have hne : (Value.type "str" == Value.ref C) = false := Bool.eq_false_iff.mpr fun q => by cases beq_iff_eq.mp q
  unfold binaryOp1
  refine wpAny_bind (A2.at (wpAny_bind (A1.at (wpAny_bind (A4.at ?_)))))
  simp only [hne, Bool.false_eq_true, if_false]
  ksp_lk
  refine wpAny_mono one (fun r s' hr' => ?_) fun _ _ e => e
  obtain ⟨v, rfl, hq⟩ := hr'
  ksp_lk
  exact ⟨_, rfl, hq⟩
theorem anyM_no {f : Value → Sem Bool} {h : Heap} : ∀ l : List Value, (∀ c ∈ l, Looks M h (f c) false) → Looks M h (l.anyM f) false
  | [], _ => fun A Q E s k q => wpAny_pure q
  | c :: l, hf => fun A Q E s k q => by
    rw [List.anyM_cons]
    refine wpAny_bind ((hf c List.mem_cons_self) A _ E s k ?_)
    exact anyM_no l (fun c hc => hf c (List.mem_cons_of_mem _ hc)) A Q E s k q
/-- no class of the mro has this name -/
def NoInp (K : Frag) (C : Addr) (i : Str) : Prop := ∃ cd, clsIn K C = some cd ∧ ∀ c ∈ cd.mro, findIn K c i = some none
theorem noInp_fills {h : Heap} {nm : String} {add : Bool} (X : K.In h) (hn : NoInp K C (dunderI nm)) : Looks M h (fillsInplaceSlot (.ref C) nm add) false := by
  obtain ⟨cd, hcd, hm⟩ := hn
  intro A Q E s k q
  unfold fillsInplaceSlot
  refine wpAny_bind ((looks_clsIn X hcd).andThen (f := fun cd => pure cd.mro) .now A _ E s k ?_)
  refine anyM_no (h := h) cd.mro (fun c hc => ?_) A Q E s k q
  intro A Q E s k q
  refine wpAny_bind ((looks_findIn X (hm c hc)) A _ E s k ?_)
  exact wpAny_pure q
theorem inpl_of {op : Operator} {a b ta : Value} {Q : Value → Shared → Prop} (La : Looks M s.heap (typeOf a) ta) (Lf : Looks M s.heap (fillsInplaceSlot ta op.info.2 (op == .Add)) false) (h : wpAny M A (binaryOp1 op.info.2 a b) (Some1 Q) E s) : wpAny M A (inplaceOp op a b) Q E s := by
  unfold inplaceOp
  refine wpAny_holding (wpAny_bind (La.here ?_))
  refine wpAny_bind (Lf.here ?_)
  simp only [Bool.false_eq_true, if_false]
  refine wpAny_bind (wpAny_mono h (fun r s' hr => ?_) fun _ _ e => e)
  obtain ⟨v, rfl, q⟩ := hr
  exact wpAny_pure q
theorem binop_of {op : Operator} {a b : Value} {Q : Value → Shared → Prop} (h : wpAny M A (binaryOp1 op.info.2 a b) (Some1 Q) E s) : wpAny M A (binaryOp op a b) Q E s := by
  rcases hi : op.info with ⟨sym, nm'⟩
  rw [hi] at h
  simp only [binaryOp, hi]
  refine wpAny_holding (wpAny_bind (wpAny_mono h (fun r s' hr => ?_) fun _ _ e => e))
  obtain ⟨v, rfl, q⟩ := hr
  exact wpAny_pure q
end
theorem noI_str : fillsInplaceSlot (.type "str") "add" true = pure false := by
  first | rfl | (unfold fillsInplaceSlot; kernel_rfl)
end PySem.W
namespace Ev
open PySem PySem.Spec PyProof.Rows L2 ClX
section
variable {cs : CS} {X : Cx} {W : WX} {c c1 c2 c3 : Nat} {a b e : Expr} {pos : Pos} {k j ar nc : Nat}
/-! ### name op= e -/
def tAugS (i : Nat) (te : TfE) (tf : Tf2) : TfS := fun Γ M O => ∃ d1, Γ[i]? = some (some d1) ∧ te Γ M (fun d2 M1 => tf d1 d2 M1 (fun d M2 => O.nx (Γ.set i (some d)) M2) (O.xx Γ)) (O.xx Γ)
theorem st_aug (i : Nat) {op : Operator} {x : Str} {p' : Pos} {te : TfE} {tf : Tf2} (hN : X.N.Nodup) (he : PX cs X W c1 e te) (ho : PO2 cs X W c2 (inplaceOp op) tf) (hi : X.N[i]? = some x := by rfl) (hx : L2.Loc X.env.scope x := by first | exact Or.inl rfl | exact Or.inr rfl)
    (hf : X.fn x = true ∨ X.env.scope.names.lookup x = some .local := by first | exact Or.inl rfl | exact Or.inr rfl) : PST cs X W (c1 + c2) (.AugAssign (.Name x p') op e pos) (tAugS i te tf) := ⟨fun u n H σ Γ O E A hn ⟨d1, g, q⟩ K => TWS.mk fun pins s I => by
  obtain ⟨v, hv, r⟩ := A.sl i _ g
  obtain ⟨m, hn', hl⟩ := I.loc
  obtain ⟨w, rv, l⟩ := hl i x v hi hv (by rcases hx with z | z; exact .inl z; exact .inr (.inl z))
  refine wpAny_AugAssign_Name ?_
  have go : wpAny (model X.prog X.w) X.A (eval e X.env) (fun w2 s2 => wpAny (model X.prog X.w) X.A (inplaceOp op w w2) (fun r s3 => wpAny (model X.prog X.w) X.A (storeName X.env x r) (fun _ => SP X pins E .next) X.xe s3) X.xe s2) X.xe s := by
    refine thn (he.run u n H σ Γ _ _ (fun y H1 => ∀ s1 w2, Inv X pins σ H1 s1 → RelV y w2 → wpAny (model X.prog X.w) X.A (inplaceOp op w w2) (fun r s3 => wpAny (model X.prog X.w) X.A (storeName X.env x r) (fun _ => SP X pins E .next) X.xe s3) X.xe s1) A (by omega) q (fun y d2 u1 H1 e1 B1 r2 q1 s1 w2 I1 rw => ?_) ((K.kx A (Nat.le_refl _)).le (by omega)) pins s I) fun w2 s1 ⟨y, H1, I1, rw, q⟩ => q s1 w2 I1 rw
    refine thn (ho.run u1 (n + c1) H1 σ d1 d2 v y _ _ (fun z H2 => E.nx (σ.set i (some z)) H2) B1 (by omega) (r.go A.toWd e1) r2 q1 (fun z d u2 H2 e2 B2 r3 q3 => ?_) ((K.kx A (Nat.le_refl _)).go A.toWd e1 (by omega)) pins s1 w w2 I1 rv rw) fun z s2 ⟨zv, H2, I2, r3, q3⟩ => ?_
    · exact K.nx _ _ u2 H2 (e1.trans A.toWd e2) ((((A.step e1 B1).step e2 B2).up (by omega)).set r3) q3
    · exact store_ok I2 hN hi hx r3 (fun s3 I3 => ⟨_, H2, I3, q3⟩) hf
  rcases l with ⟨hk, hm⟩ | ⟨hk, cl, hc, hcell⟩
  · exact wpAny_loadName_local I.ok.kind hk hn' hm go
  · rcases hk with hk | hk
    · exact wpAny_loadName_cell I.ok.kind hk hc hcell go
    · rcases hx with z | z
      · have : X.env.scope.names.lookup x = some .free := hk
        rw [z] at this; cases this
      · have : X.env.scope.names.lookup x = some .free := hk
        rw [z] at this; cases this⟩
def tAddI : Tf2 := fun d1 d2 M post _ => match d1, d2 with
  | .int i, .int j => post (.int (i + j)) M
  | .str i, .str j => i.length + j.length ≤ sizeLine ∧ post (.str (i ++ j)) M
  | _, _ => False
def tMulI : Tf2 := fun d1 d2 M post _ => match d1, d2 with
  | .int i, .int j => (CMul i j) ∧ post (.int (i * j)) M
  | _, _ => False
theorem poi_add : PO2 cs X W 0 (inplaceOp .Add) tAddI := ⟨fun u n H σ d1 d2 x y post xp Q A hn rx ry q kn kx => by
  cases d1 <;> cases d2 <;> (try exact (show False from q).elim)
  case int.int i j => exact to_of iop_add ⟨i, j, rx, ry, kn.here (d := .int (i + j)) A rfl q⟩
  case str.str i j => exact to_of iop_add_str ⟨i, j, rx, ry, q.1, kn.here (d := .str (i ++ j)) A rfl q.2⟩⟩
theorem poi_sub : PO2 cs X W 0 (inplaceOp .Sub) tSub := ⟨fun u n H σ d1 d2 x y post xp Q A hn rx ry q kn kx => by
  cases d1 <;> cases d2 <;> (try exact (show False from q).elim)
  case int.int i j => exact to_of iop_sub ⟨i, j, rx, ry, kn.here (d := .int (i - j)) A rfl q⟩⟩
theorem poi_mul : PO2 cs X W 0 (inplaceOp .Mult) tMulI := ⟨fun u n H σ d1 d2 x y post xp Q A hn rx ry q kn kx => by
  cases d1 <;> cases d2 <;> (try exact (show False from q).elim)
  case int.int i j => exact to_of iop_mul ⟨i, j, rx, ry, q.1, kn.here (d := .int (i * j)) A rfl q.2⟩⟩
/-- an own class has no op= -/
structure IpF (K : PySem.W.Frag) (cs : CS) (nc : Nat) (op : Operator) : Prop where
  at_ : ∀ C, cs.cls[nc]? = some (.ref C) → PySem.W.NoInp K C (dunderI op.info.2)
theorem poi_own {op : Operator} {Ts : List Bt} {S : SpX} (ni : NoNI cs) (Z : IpF X.K cs nc op) (O : OpF X.K cs nc op Ts) (F : MtD X.prog X.w X.K X.mg X.base cs k nc (PySem.dunder op.info.2) 2 c S) (hr : RoomG j X.A) (tk : Takes X W) (hk : k ≤ j := by decide) : PO2 cs X W c (inplaceOp op) (tOwn nc Ts S) := ⟨fun u n H σ d1 d2 x y post xp Q A hn rx ry ⟨fs, T, hi, hT, hm, hS⟩ kn kx => TO.mk fun pins s v w I rv rw' => by
  obtain ⟨C, f, fd, ps, hC, cl, hme, F, hb⟩ := F.ex
  obtain ⟨h1, h2, h3⟩ := O.at_ C hC
  obtain ⟨t1, t2, t3⟩ := h3 T hm
  obtain ⟨a', C', ox, od, m, ex, ev, hC', J, hF⟩ := ins_st A I hi rx rv
  rw [hC] at hC'; cases hC'
  obtain ⟨rc, r1, r2⟩ := rv_of h2
  obtain ⟨fo, h4⟩ := Option.isSome_iff_exists.mp t1
  obtain ⟨ro, h5⟩ := Option.isSome_iff_exists.mp t2
  have hty := scT_ty hT ry rw'
  rw [ev]
  rw [ev] at rv
  exact PySem.W.inpl_of J.type (PySem.W.noInp_fills I.kIn (Z.at_ C hC)) (PySem.W.bin1_T hF I.ok.mod.kin J hty h1 hme.at_ hme.fn r1 r2 h4 h5 t3 (run_op ni F hb (hr.mono hk) tk A hn I (RepL.cons rx (RepL.cons ry RepL.nil)) (.cons rv (.cons rw' .nil)) rfl hS kn kx))⟩
theorem poi_ownS {op : Operator} {Ts : List Bt} {S : SpX} (ni : NoNI cs) (Z : IpF X.K cs nc op) (O : OpF X.K cs nc op Ts) (F : MtD X.prog X.w X.K X.mg X.base cs k nc (PySem.dunder op.info.2) 2 c S) (hr : RoomG j X.A) (tk : Takes X W) (hk : k ≤ j := by decide) : PO2 cs X W c (inplaceOp op) (tOwnS nc S) := ⟨fun u n H σ d1 d2 x y post xp Q A hn rx ry ⟨fs, gs, hi, hi2, hS⟩ kn kx => TO.mk fun pins s v w I rv rw' => by
  obtain ⟨C, f, fd, ps, hC, cl, hme, F, hb⟩ := F.ex
  obtain ⟨h1, h2, h3⟩ := O.at_ C hC
  obtain ⟨a', C', ox, od, m, ex, ev, hC', J, hF⟩ := ins_st A I hi rx rv
  rw [hC] at hC'; cases hC'
  obtain ⟨b', C', oy, oe, m2, ey, ew, hC', J2, _⟩ := ins_st A I hi2 ry rw'
  rw [hC] at hC'; cases hC'
  rw [ev, ew]
  rw [ev] at rv
  rw [ew] at rw'
  exact PySem.W.inpl_of J.type (PySem.W.noInp_fills I.kIn (Z.at_ C hC)) (PySem.W.bin1_same hF I.ok.mod.kin J J2 h1 hme.at_ hme.fn (run_op ni F hb (hr.mono hk) tk A hn I (RepL.cons rx (RepL.cons ry RepL.nil)) (.cons rv (.cons rw' .nil)) rfl hS kn kx))⟩
/-- a text on the left of an own + -/
structure OsF (K : PySem.W.Frag) (cs : CS) (nc : Nat) : Prop where
  at_ : ∀ C, cs.cls[nc]? = some (.ref C) → PySem.W.selfFirst K C = true ∧ (∃ g : Addr, PySem.W.findIn K (.ref C) (PySem.dunder "add") = some (some (.ref g))) ∧ PySem.W.subIn K (.ref C) (.type "str") = some false
def tOwnRS (nc : Nat) (S : SpX) : Tf2 := fun d1 d2 M post xp => ∃ z fs, d1 = .str z ∧ insOf M d2 = some (nc, fs) ∧ S [d2, d1] M post xp
theorem strR_run {S : SpX} (ni : NoNI cs) (O : OsF X.K cs nc) (F : MtD X.prog X.w X.K X.mg X.base cs k nc (dunderR "add") 2 c S) (hr : RoomG j X.A) (tk : Takes X W) (hk : k ≤ j) {u : U} {n : Nat} {H : Hp} {σ : L2.St} {d1 d2 : D} {x y : V} {post : DP} {xp : XP} {Q : VK} (A : Wd cs u n H) (hn : n + c ≤ lim) (rx : Rep u H d1 x) (ry : Rep u H d2 y) (q : tOwnRS nc S d1 d2 u.M post xp) (kn : KN cs u (n + c) H post Q) (kx : KX cs u (n + c) H σ xp W) {pins : List (Addr × Obj)} {s : Shared} {v w : Value} (I : Inv X pins σ H s) (rv : RelV x v) (rw' : RelV y w) : (∃ z t, v = .str z t) ∧ wpAny (model X.prog X.w) X.A (binaryOp1 "add" v w) (PySem.W.Some1 (EP X pins σ Q)) X.xe s := by
  obtain ⟨z, fs, e1, hi, hS⟩ := q
  obtain ⟨C, f, fd, ps, hC, cl, hme, F, hb⟩ := F.ex
  obtain ⟨h1, ⟨g, h2⟩, h3⟩ := O.at_ C hC
  have rx0 := rx
  have rv0 := rv
  subst e1
  rw [show x = .str z from rx] at rv
  obtain ⟨t, ev⟩ := rv
  subst ev
  obtain ⟨a', C', ox, od, m, ex, ew, hC', J, hF⟩ := ins_st A I hi ry rw'
  rw [hC] at hC'; cases hC'
  rw [ew]
  rw [ew] at rw'
  exact ⟨⟨z, t, rfl⟩, PySem.W.bin1_strR hF I.ok.mod.kin J h1 h2 hme.at_ hme.fn h3 (run_op ni F hb (hr.mono hk) tk A hn I (RepL.cons ry (RepL.cons rx0 RepL.nil)) (.cons rw' (.cons rv0 .nil)) rfl hS kn kx)⟩
theorem po_ownRS {S : SpX} (ni : NoNI cs) (O : OsF X.K cs nc) (F : MtD X.prog X.w X.K X.mg X.base cs k nc (dunderR "add") 2 c S) (hr : RoomG j X.A) (tk : Takes X W) (hk : k ≤ j := by decide) : PO2 cs X W c (binaryOp .Add) (tOwnRS nc S) := ⟨fun u n H σ d1 d2 x y post xp Q A hn rx ry q kn kx => TO.mk fun pins s v w I rv rw' =>
  PySem.W.binop_of (op := .Add) (strR_run ni O F hr tk hk A hn rx ry q kn kx I rv rw').2⟩
theorem poi_ownRS {S : SpX} (ni : NoNI cs) (O : OsF X.K cs nc) (F : MtD X.prog X.w X.K X.mg X.base cs k nc (dunderR "add") 2 c S) (hr : RoomG j X.A) (tk : Takes X W) (hk : k ≤ j := by decide) : PO2 cs X W c (inplaceOp .Add) (tOwnRS nc S) := ⟨fun u n H σ d1 d2 x y post xp Q A hn rx ry q kn kx => TO.mk fun pins s v w I rv rw' => by
  obtain ⟨⟨z, t, ev⟩, h⟩ := strR_run ni O F hr tk hk A hn rx ry q kn kx I rv rw'
  subst ev
  exact PySem.W.inpl_of (ta := .type "str") (PySem.W.Looks.of_pure rfl) (PySem.W.Looks.of_pure PySem.W.noI_str) h⟩
/-! ### is of truth values -/
def tIsB (ng : Bool) : Tf2 := fun d1 d2 M post _ => ∃ p q : Bool, d1 = .bl p ∧ d2 = .bl q ∧ post (.bl (if ng then !decide (p = q) else decide (p = q))) M
theorem po_isB : PO2 cs X W 0 (compareOp .Is) (tIsB false) := ⟨fun u n H σ d1 d2 x y post xp Q A hn rx ry ⟨p, q, e1, e2, h⟩ kn kx => by
  subst e1; subst e2
  exact to_of op_isBl ⟨p, q, rx, ry, kn.here (d := .bl (decide (p = q))) A rfl h⟩⟩
theorem po_notB : PO2 cs X W 0 (compareOp .IsNot) (tIsB true) := ⟨fun u n H σ d1 d2 x y post xp Q A hn rx ry ⟨p, q, e1, e2, h⟩ kn kx => by
  subst e1; subst e2
  exact to_of op_notBl ⟨p, q, rx, ry, kn.here (d := .bl (!decide (p = q))) A rfl h⟩⟩
/-! ### x[::-1] -/
def revS (z : Str) : Str := ⟨z.cps.toList.reverse.toArray⟩
theorem rev_pick (x : Str) : (Builtin.Str.strSliceIndices none none (-1) x.length).filterMap (x.cps[·]?) = x.cps.toList.reverse := by
  have e : Builtin.Str.strSliceIndices none none (-1) x.length = PySem.sliceRange ((x.length : Int) - 1) (-1) (-1) := rfl
  rw [e, PySem.W.krv_sliceRange, PySem.W.krv_range, List.filterMap_reverse]
  congr 1
  exact PySem.W.krv_all x.cps
def tRev (te : TfE) : TfE := fun Γ M post xp => te Γ M (fun d M1 => match d with
  | .lst ds => post (.lst ds.reverse) M1
  | .str z => z.length ≤ sizeLine ∧ post (.str (revS z)) M1
  | _ => False) xp
theorem RepL.reverse {u : U} {H : Hp} : ∀ {ds : List D} {vs : List V}, RepL u H ds vs → RepL u H ds.reverse vs.reverse
  | [], vs, h => by rw [show vs = [] from h]; exact RepL.nil
  | d :: ds, vs, h => by
    obtain ⟨v, r, e, a, b⟩ := h.uncons
    rw [e, List.reverse_cons, List.reverse_cons]
    exact RepL.append (RepL.reverse b) (RepL.cons a RepL.nil)
theorem px_rev {te : TfE} {kk : Nat} {p1 p2 p3 : Pos} (he : PX cs X W c e te) : PX cs X W c (.Subscript e (.Slice none none (some (.UnaryOp .USub (.Constant (.int 1) kk p1) p2)) p3) pos) (tRev te) := ⟨fun u n H σ Γ post xp Q A hn q kn kx => TW.mk fun pins s I => by
  refine Subscript_ (thn (he.run u n H σ Γ _ xp (fun x H1 => ∃ u1 d1, Nx u H u1 H1 ∧ Wd cs u1 (n + c) H1 ∧ Rep u1 H1 d1 x ∧ (match d1 with | .lst ds => post (.lst ds.reverse) u1.M | .str z => z.length ≤ sizeLine ∧ post (.str (revS z)) u1.M | _ => False)) A hn q (fun x d1 u1 H1 e1 B1 r1 q1 => ⟨u1, d1, e1, B1, r1, q1⟩) kx pins s I) fun v s1 ⟨x, H1, I1, rx, u1, d1, e1, B1, r1, q1⟩ => ?_)
  have K1 := kn.go A.toWd e1 (Nat.le_refl _)
  have hst : PO X (some (.UnaryOp .USub (.Constant (.int 1) kk p1) p2)) (L2.tPart (L2.tUn (rU fun i => .int (-i)) (tC (.int 1)))) := po_some (pe_un un_neg pe_int)
  refine wpAny_Slice (thn (po_none.run pins s1 σ H1 (fun o H2 => o = none ∧ H2 = H1) I1 ⟨rfl, rfl⟩) fun vl s2 ⟨l, H2, I2, pl, el, e2⟩ => ?_)
  subst el e2
  refine thn (po_none.run pins s2 σ H2 (fun o H3 => o = none ∧ H3 = H2) I2 ⟨rfl, rfl⟩) fun vu s3 ⟨w, H3, I3, pu, eu, e3⟩ => ?_
  subst eu e3
  refine thn (hst.run pins s3 σ H3 (fun o H4 => o = some (-1) ∧ H4 = H3) I3 ⟨1, rfl, -1, rfl, rfl, rfl⟩) fun vs s4 ⟨o, H4, I4, ps, eo, e4⟩ => ?_
  subst eo e4
  have I5 : Inv X pins σ H4 { s4 with heap := s4.heap.push { cls := .type "slice", data := .fields #[vl, vu, vs] } } := I4.kept (t' := s4.toks) fun b ob q => Heap.get?_push_of_some _ q
  cases d1 with
  | lst ds =>
    obtain ⟨a, xs, ex, f, g, rl⟩ := r1.lstE
    subst ex
    cases rx
    obtain ⟨its, r, ht, hz⟩ := I5.list (SqL.of g)
    have hlen := r.length
    show wpAny (model X.prog X.w) X.A (subscriptTail e _ (.ref a) (.ref s4.heap.objs.size)) (EP X pins σ Q) X.xe _
    refine tail_any (ops := [.ref a, .ref s4.heap.objs.size]) ht.isList.typeIs (PySem.slot_list_getitem.lookup) ?_ (by with_unfolding_all rfl)
    refine wpAny_getItem_list_slice ht.isList (Heap.IsSliceOf.new _ vl vu vs) pl pu ps (by decide) ?_ (by rw [List.size_toArray]; omega)
    rw [PySem.W.krv_pick]
    refine ⟨.ref _, _, I5.laid (t' := s4.toks) (o := .lst xs.reverse) (fun b ob q => Heap.get?_push_of_some _ q) (Nat.le_refl _) ?_, rfl, K1.lst B1 rl.reverse q1 (I5.hok.fresh (Nat.le_refl _))⟩
    exact ⟨by rw [List.length_reverse]; exact hz, _, 0, r.reverse, Heap.get?_push_size _ rfl⟩
  | str z =>
    rw [show x = .str z from r1] at rx
    obtain ⟨t, rfl⟩ := rx
    show wpAny (model X.prog X.w) X.A (subscriptTail e _ (.str z t) (.ref s4.heap.objs.size)) (EP X pins σ Q) X.xe _
    refine tail_any (ops := [.str z t, .ref s4.heap.objs.size]) (typeIs_str _ _ _) F.slot_str_getitem.lookup ?_ (by with_unfolding_all rfl)
    obtain ⟨os, hos, hcs, hds⟩ := Heap.IsSliceOf.new s4.heap vl vu vs
    obtain ⟨l, rfl, el⟩ := IsPart.raw pl
    obtain ⟨w, rfl, eu⟩ := IsPart.raw pu
    obtain ⟨o, rfl, eo⟩ := IsPart.raw ps
    refine wpAny_getItem_str_slice (l := l) (u := w) (st := o) ⟨os, hos, hcs, hds⟩ (by rw [eo]; rfl) ?_
    unfold sliceMade slicePicked
    rw [el, eu, eo]
    rw [if_neg (by rw [show (((some (-1 : Int)).getD 1 : Int) == 1) = false from rfl, Bool.false_and]; exact Bool.false_ne_true)]
    show Made.post (Made.str ⟨((Builtin.Str.strSliceIndices none none (-1) z.length).filterMap (z.cps[·]?)).toArray⟩) _ _
    rw [rev_pick]
    refine ⟨?_, .str _, H4, I5.tok _, ⟨_, rfl⟩, K1.here (d := .str (revS z)) B1 rfl q1.2⟩
    have hz := q1.1
    show (z.cps.toList.reverse.toArray).size ≤ sizeLine
    rw [List.size_toArray, List.length_reverse, Array.length_toList]
    exact hz
  | _ => exact (show False from q1).elim⟩
/-! ### the values of a class -/
structure KVal (K : PySem.W.Frag) (cs : CS) (f : Str) (cl : List (Nat × D)) : Prop where
  F : CValF K cs f cl
  ref : ∀ p ∈ cl, ∃ C, cs.cls[p.1]? = some (.ref C)
def tCVal (cl : List (Nat × D)) : Tf1 := fun d M post _ => ∃ c r, d = .cls c ∧ (c, r) ∈ cl ∧ post r M
theorem pat_cvalN {f : Str} {cl : List (Nat × D)} (F : KVal X.K cs f cl) : PAt cs X W 0 f (tCVal cl) := ⟨fun u n H σ d x post xp Q A hn rx ⟨c, r, e, hm, q⟩ kn kx => by
  obtain ⟨C, hC⟩ := F.ref (c, r) hm
  exact (pat_cval F.F).run u n H σ d x post xp Q A hn rx ⟨c, r, e, ⟨C, hC⟩, hm, q⟩ kn kx⟩
/-! ### == beside dicts -/
theorem looks_tyD {u : U} {n : Nat} {H : Hp} {d : D} {x : V} {kd : Kd} {pins : List (Addr × Obj)} {σ : L2.St} {s : Shared} {v : Value} (A : Wd cs u n H) (I : Inv X pins σ H s) (h : kdOf u.M d = some kd) (rx : Rep u H d x) (rv : RelV x v) :
    ∃ t, PySem.W.Looks (model X.prog X.w) s.heap (typeOf v) t ∧ ((∃ T, kd = .ty T ∧ t = .type T.nm) ∨ ∃ c C, kd = .ob c ∧ cs.cls[c]? = some (.ref C) ∧ t = .ref C) := by
  by_cases hd : kd = .ty .dict
  · subst hd
    have hdic : ∃ kvs, dicOf u.M d = some kvs := by
      cases d with
      | dic kvs => exact ⟨kvs, rfl⟩
      | loc i =>
        unfold kdOf at h
        dsimp only at h
        cases hc : u.M[i]? with
        | none => rw [hc] at h; cases h
        | some cl =>
          rw [hc] at h
          cases cl with
          | di ds => exact ⟨ds, by unfold dicOf; dsimp only; rw [hc]⟩
          | _ => cases h
      | _ => cases h
    obtain ⟨kvs, hk⟩ := hdic
    obtain ⟨a, us, e, g, _⟩ := dic_rep A hk rx
    subst e
    obtain rfl : v = Value.ref a := rv
    obtain ⟨_, _, vs, _, o, es, ep, ho, hx, _⟩ := dk_of I.hok g
    exact ⟨.type "dict", fun A Q E s' kk q => wpAny_typeOf_ref (kk _ _ ho) (by rw [hx.1]; exact q), .inl ⟨.dict, rfl, rfl⟩⟩
  · exact looks_ty A I h rx rv hd
def tOwnD (nc : Nat) (Ts : List Bt) (os : List Nat) (S : SpX) : Tf2 := fun d1 d2 M post xp => ∃ fs kd, insOf M d1 = some (nc, fs) ∧ kdOf M d2 = some kd ∧ (match kd with | .ty T => T ∈ Ts | .ob c => c ∈ os) ∧ S [d1, d2] M post xp
theorem po_ownCmpD {op : CmpOp} {Ts : List Bt} {os : List Nat} {S : SpX} (ni : NoNI cs) (O : CpF X.K cs nc Ts os) (F : MtD X.prog X.w X.K X.mg X.base cs k nc (cmpInfo op).2.1 2 c S) (hr : RoomG j X.A) (tk : Takes X W) (hk : k ≤ j := by decide) (hop : ∀ a b, compareOp op a b = richCompare op a b := by intro _ _; rfl) : PO2 cs X W c (compareOp op) (tOwnD nc Ts os S) := ⟨fun u n H σ d1 d2 x y post xp Q A hn rx ry ⟨fs, kd, hi, hkd, hm, hS⟩ kn kx => TO.mk fun pins s v w I rv rw' => by
  obtain ⟨C, f, fd, ps, hC, cl, hme, F, hb⟩ := F.ex
  obtain ⟨t, L, ht⟩ := looks_tyD A I hkd ry rw'
  have hnf : PySem.W.notFirst X.K C t = true := by
    rcases ht with ⟨T, e1, e2⟩ | ⟨c', C', e1, e2, e3⟩
    · subst e1; subst e2; exact O.ty C hC T hm
    · subst e1; subst e3; exact O.ob C hC c' hm C' e2
  obtain ⟨a', C', ox, od, m, ex, ev, hC', J, hF⟩ := ins_st A I hi rx rv
  rw [hC] at hC'; cases hC'
  rw [hop, ev]
  rw [ev] at rv
  exact PySem.W.cmp_K (by have := hr.room.un; omega) hF I.ok.mod.kin J L hnf hme.at_ hme.fn (run_op ni F hb (hr.mono hk) tk A hn I (RepL.cons rx (RepL.cons ry RepL.nil)) (.cons rv (.cons rw' .nil)) rfl hS kn kx)⟩
def tOwnNeD (nc : Nat) (Ts : List Bt) (os : List Nat) (S : SpX) : Tf2 := fun d1 d2 M post xp => ∃ fs kd, insOf M d1 = some (nc, fs) ∧ kdOf M d2 = some kd ∧ (match kd with | .ty T => T ∈ Ts | .ob c => c ∈ os) ∧ S [d1, d2] M (fun r M' => ∃ b : Bool, r = .bl b ∧ post (.bl (!b)) M') xp
theorem po_ownNeD {Ts : List Bt} {os : List Nat} {S : SpX} (O : CpF X.K cs nc Ts os) (N : NeF X.K cs nc) (F : MtD X.prog X.w X.K X.mg X.base cs k nc "__eq__" 2 c S) (hr : RoomG j X.A) (tk : Takes X W) (hk : k + 1 ≤ j := by decide) : PO2 cs X W c (compareOp .NotEq) (tOwnNeD nc Ts os S) := ⟨fun u n H σ d1 d2 x y post xp Q A hn rx ry ⟨fs, kd, hi, hkd, hm, hS⟩ kn kx => TO.mk fun pins s v w I rv rw' => by
  obtain ⟨C, f, fd, ps, hC, cl, hme, F, hb⟩ := F.ex
  obtain ⟨t, L, ht⟩ := looks_tyD A I hkd ry rw'
  have hnf : PySem.W.notFirst X.K C t = true := by
    rcases ht with ⟨T, e1, e2⟩ | ⟨c', C', e1, e2, e3⟩
    · subst e1; subst e2; exact O.ty C hC T hm
    · subst e1; subst e3; exact O.ob C hC c' hm C' e2
  obtain ⟨a', C', ox, od, m, ex, ev, hC', J, hF⟩ := ins_st A I hi rx rv
  rw [hC] at hC'; cases hC'
  show wpAny _ _ (richCompare .NotEq v w) _ _ _
  rw [ev]
  rw [ev] at rv
  refine cmpNe_K (by have := hr.room.un; omega) I.kIn J L hnf (N.ob C hC) (N.ne C hC) hme.at_ hme.fn (thn (run_in (Q := fun v H' => ∃ b : Bool, v = .bl b ∧ Q (.bl (!b)) H') F hb (hr.mono hk).in1 I.env0.in1 tk A hn I (RepL.cons rx (RepL.cons ry RepL.nil)) (.cons rv (.cons rw' .nil)) rfl hS (fun v d u' H' e B r ⟨b, ed, hq⟩ => by subst ed; exact ⟨b, r, kn (.bl (!b)) (.bl (!b)) u' H' e B rfl hq⟩) kx) fun v s' h => ?_)
  obtain ⟨v', H', I', rv', b, eb, q⟩ := h
  subst eb
  obtain rfl : v = .bool b := rv'
  exact ⟨b, rfl, .bl (!b), H', I', rfl, q⟩⟩
end
/-! steps backwards -/
section
variable {Γ : Gm} {M : Store} {post : DP} {xp : XP} {d d1 d2 : D} {te : TfE} {i nc : Nat} {a b : Int} {x y z : Str} {ds es : List D} {f g : Tf2} {A B : Prop} {S : SpX} {c c' : Bool}
variable {nx : Gm → Store → Prop} {rt : D → Store → Prop} {bk ct : Gm → Store → Prop} {xx : Gm → XP}
theorem r_aug (h : Γ[i]? = some (some d1)) (q : te Γ M (fun d2 M1 => f d1 d2 M1 (fun d M2 => nx (Γ.set i (some d)) M2) (xx Γ)) (xx Γ)) : tAugS i te f Γ M ⟨nx, rt, bk, ct, xx⟩ := ⟨d1, h, q⟩
theorem r_addI_i (q : post (.int (a + b)) M) : tAddI (.int a) (.int b) M post xp := q
theorem r_addI_s (h : x.length + y.length ≤ sizeLine) (q : post (.str (x ++ y)) M) : tAddI (.str x) (.str y) M post xp := ⟨h, q⟩
theorem r_ownRS {fs} (h : insOf M d2 = some (nc, fs)) (q : S [d2, .str z] M post xp) : tOwnRS nc S (.str z) d2 M post xp := ⟨z, fs, rfl, h, q⟩
theorem r_isB (q : post (.bl (decide (c = c'))) M) : tIsB false (.bl c) (.bl c') M post xp := ⟨c, c', rfl, rfl, q⟩
theorem r_notB (q : post (.bl (!decide (c = c'))) M) : tIsB true (.bl c) (.bl c') M post xp := ⟨c, c', rfl, rfl, q⟩
def revK (post : DP) (d : D) (M1 : Store) : Prop := match d with
  | .lst ds => post (.lst ds.reverse) M1
  | .str z => z.length ≤ sizeLine ∧ post (.str (revS z)) M1
  | _ => False
theorem r_rev (q : te Γ M (fun d M1 => revK post d M1) xp) : tRev te Γ M post xp := q
theorem r_rev_l (q : post (.lst ds.reverse) M) : revK post (.lst ds) M := q
theorem revS_S (l : List Nat) : revS (SX.S l) = SX.S l.reverse := by simp [revS, SX.S]
theorem r_rev_s {l : List Nat} (h : l.length ≤ 16777216) (q : post (.str (SX.S l.reverse)) M) : revK post (.str (SX.S l)) M := ⟨by rw [SX.S_len]; exact h, by rw [revS_S]; exact q⟩
theorem r_cval {cl : List (Nat × D)} {k : Nat} {r : D} (h : (k, r) ∈ cl) (q : post r M) : tCVal cl (.cls k) M post xp := ⟨k, r, rfl, h, q⟩
theorem r_ownD_t {fs Ts os T} (h : insOf M d1 = some (nc, fs)) (h2 : kdOf M d2 = some (.ty T)) (h3 : T ∈ Ts) (q : S [d1, d2] M post xp) : tOwnD nc Ts os S d1 d2 M post xp := ⟨fs, .ty T, h, h2, h3, q⟩
theorem r_ownD_o {fs Ts os k} (h : insOf M d1 = some (nc, fs)) (h2 : kdOf M d2 = some (.ob k)) (h3 : k ∈ os) (q : S [d1, d2] M post xp) : tOwnD nc Ts os S d1 d2 M post xp := ⟨fs, .ob k, h, h2, h3, q⟩
theorem r_ownNeD_t {fs Ts os T} (h : insOf M d1 = some (nc, fs)) (h2 : kdOf M d2 = some (.ty T)) (h3 : T ∈ Ts) (q : S [d1, d2] M (fun r M' => ∃ b : Bool, r = .bl b ∧ post (.bl (!b)) M') xp) : tOwnNeD nc Ts os S d1 d2 M post xp := ⟨fs, .ty T, h, h2, h3, q⟩
theorem r_ownNeD_o {fs Ts os k} (h : insOf M d1 = some (nc, fs)) (h2 : kdOf M d2 = some (.ob k)) (h3 : k ∈ os) (q : S [d1, d2] M (fun r M' => ∃ b : Bool, r = .bl b ∧ post (.bl (!b)) M') xp) : tOwnNeD nc Ts os S d1 d2 M post xp := ⟨fs, .ob k, h, h2, h3, q⟩
theorem r_reprR {w h : Nat} (hd : Rd w h d) (hw : w ≤ 16777216) (hh : h ≤ 60) (q : post (.str (shw d)) M) : tReprR [d] M post xp := ⟨d, rfl, hd.up hw hh, q⟩
end
end Ev
-- EvAI
/-! dict displays of constants -/
namespace Ev
open PySem PySem.Spec PyProof.Rows L2
section
variable {cs : CS} {X : Cx} {W : WX} {c c1 c2 c3 : Nat} {a b e : Expr} {pos : Pos} {k j ar nc : Nat}
abbrev kvV (kvs : List (Key × D)) : List (Key × V) := kvs.map fun kv => (kv.1, vD kv.2)
abbrev trsOf (kvs : List (Key × D)) : List (TE × TE) := kvs.map fun kv => (tC (kV kv.1), tC (vD kv.2))
theorem pairs_const {σ : L2.St} : ∀ (kvs : List (Key × D)) (H : Hp) (Q : List (V × V) → Hp → Prop), Q (kvs.map fun kv => (kV kv.1, vD kv.2)) H → tPairs (trsOf kvs) σ H Q
  | [], H, Q, h => h
  | kv :: kvs, H, Q, h => by
    show tPairs (trsOf kvs) σ H fun ps H3 => Q ((kV kv.1, vD kv.2) :: ps) H3
    exact pairs_const kvs H _ h
theorem repK_flat {u : U} {H : Hp} : ∀ (kvs : List (Key × D)), (kvs.all fun kv => flatD kv.2) = true → RepK u H kvs (kvV kvs)
  | [], _ => rfl
  | (q, d) :: kvs, h => by
    rw [List.all_cons, Bool.and_eq_true] at h
    exact ⟨vD d, kvV kvs, rfl, flat_of h.1, repK_flat kvs h.2⟩
theorem px_dctC {keys : List (Option Expr)} {values : List Expr} {kvs : List (Key × D)} (h : PPs X pos keys values (trsOf kvs)) (hf : (kvs.all fun kv => flatD kv.2) = true := by rfl) (hm : mergeK [] (kvV kvs) = kvV kvs := by rfl) (h15 : kvs.length ≤ 15 := by decide)
    (hall : keys.all (·.isSome) = true := by rfl) (hl : keys.length = values.length := by rfl) (h0 : keys ≠ [] := by exact List.cons_ne_nil _ _) (hk : keys.length ≤ 15 := by decide) : PX cs X W 0 (.Dict keys values pos) (tCon (.dic kvs)) := ⟨fun u n H σ Γ post xp Q A hn q kn kx => by
  refine tw_of (pe_disp h hall hl h0 hk) fun p hp => pairs_const kvs _ _ ?_
  refine ⟨upd_same, kvV kvs, by rw [List.map_map]; rfl, by rw [List.length_map]; exact h15, ?_⟩
  rw [hm]
  have e : upd (upd H p (.dK [])) p (.dK (kvV kvs)) = upd H p (.dK (kvV kvs)) := by
    funext z
    unfold upd
    split <;> rfl
  rw [e]
  exact kn.dic A.toWd (repK_flat kvs hf) q hp⟩
/-! names within a lambda: the module's table by an equation -/
variable {m : Str → Option Value}
theorem px_gclsM {x : Str} (nc : Nat) (hm : ∃ C, m x = some (.ref C) ∧ cs.cls[nc]? = some (.ref C)) (hX : X.mg = m := by rfl) (hg : Gl X x := by rfl) (hd : (x == ("__debug__" : Str)) = false := by decide) : PX cs X W 0 (.Name x pos) (tCon (.cls nc)) := px_gcls nc (hX ▸ hm) hg hd
theorem px_gintM {x : Str} {i : Int} (hm : ∃ t, m x = some (.int i t)) (hX : X.mg = m := by rfl) (hg : Gl X x := by rfl) (hd : (x == ("__debug__" : Str)) = false := by decide) : PX cs X W 0 (.Name x pos) (tCon (.int i)) := px_gint (hX ▸ hm) hg hd
theorem px_gstrM {x : Str} {i : Str} (hm : ∃ t, m x = some (.str i t)) (hX : X.mg = m := by rfl) (hg : Gl X x := by rfl) (hd : (x == ("__debug__" : Str)) = false := by decide) : PX cs X W 0 (.Name x pos) (tCon (.str i)) := px_gstr (hX ▸ hm) hg hd
theorem px_gtyM {x : Str} (T : Bt) (hm : m x = none) (hX : X.mg = m := by rfl) (hv : bootBuiltins x = some (.type T.nm) := by decide +kernel) (hg : Gl X x := by rfl) (hn' : x ≠ "__name__" := by decide) (hd : (x == ("__debug__" : Str)) = false := by decide) : PX cs X W 0 (.Name x pos) (tCon (.ty T)) := px_gty T (by rw [hX]; exact hm) hv hg hn' hd
end
end Ev
-- EvAJ
/-! != of tuples whose items are the same; list(text) -/
namespace EvGQ
open PySem PySem.SeqAt
open AutoSeq1 (wpAny_loadPart')
open MeetsSeq MeetsSeq2 MeetsSeq3 SeqRoads2
section
variable {prog : Program} {w : World} {A : Around} {R : Result → Shared → Prop}
theorem tuple_neA (l b : Addr) (xs ys : Array Value) (n n2 : Nat) (dd dd2 : Option Addr) (sl sl2 : Array (Option Value)) (hsz : xs.size = ys.size) (J : Shared → Prop)
    (turn : ∀ i (h1 : i < xs.size) (h2 : i < ys.size) s, J s → wpAny (model prog w) A.in1 (eqBool xs[i] ys[i]) (fun r s' => r = true ∧ J s') (fun e s' => R (.error e) s') s)
    (fin : ∀ s, J s → R (.ok (.ret (.bool false))) s) {s : Shared} (hl1 : s.heap.get? l = some { cls := .type "tuple", dict := dd, data := .seq xs n, slots := sl }) (hb1 : s.heap.get? b = some { cls := .type "tuple", dict := dd2, data := .seq ys n2, slots := sl2 }) (h : J s) :
    wpAny (model prog w) A.in1 (Builtin.«tuple.__ne__» ⟨[.ref l, .ref b], []⟩) (GQ.FinOf prog w A R) (fun e s' => R (.error e) s') s := by
  have f2 := AutoSeq1.sub_tuple_tuple
  have hZ : (xs.toList.zip ys.toList).length = xs.size := by simp [hsz]
  have h0 := h
  obtain ⟨hp, g, d, tk, os⟩ := s
  wp_walk using wpAny_loadPart' hl1, wpAny_loadPart' hb1, wpAny_forIn_list _ (fun rest b s' => b.1 = none ∧ (∃ i, rest = (xs.toList.zip ys.toList).drop i) ∧ J s') _
  case turn =>
    rintro ⟨y, x⟩ rest b s' ⟨hb', ⟨i, hz⟩, hI⟩
    have hlt : i < (xs.toList.zip ys.toList).length := by
      rcases Nat.lt_or_ge i (xs.toList.zip ys.toList).length with q | q
      · exact q
      · rw [List.drop_of_length_le q] at hz; cases hz
    have h1 : i < xs.size := hZ ▸ hlt
    have h2 : i < ys.size := hsz ▸ h1
    rw [List.drop_eq_getElem_cons hlt] at hz
    injection hz with hyx hrest
    obtain rfl : y = xs[i] := by simpa using congrArg Prod.fst hyx
    obtain rfl : x = ys[i] := by simpa using congrArg Prod.snd hyx
    refine wpAny_bind (wpAny_mono (turn i h1 h2 s' hI) (fun r s2 q2 => ?_) fun _ _ x => x)
    obtain ⟨hr, q2⟩ := q2
    subst hr
    wp_walk
    exact ⟨rfl, ⟨i + 1, hrest⟩, q2⟩
  case fin =>
    rintro ⟨b1, b2⟩ s' ⟨hb', _, hI⟩
    simp only at hb'
    subst hb'
    have hR := fin s' hI
    wp_walk
    simpa [Builtin.Tuple.tupleCompareSizes, hsz] using hR
  case h =>
    exact ⟨rfl, ⟨0, rfl⟩, h0⟩
end
section
variable {prog : Program} {w : World} {A : Around} {E : Value → Shared → Prop} {s : Shared}
theorem rc_tupNe {l b : Addr} {xs ys : Array Value} {Q : Value → Shared → Prop} (hsz : xs.size = ys.size) (hu : A.units < cLine) (J : Shared → Prop) (hl : s.heap.IsTuple l xs) (hb : s.heap.IsTuple b ys)
    (turn : ∀ i (h1 : i < xs.size) (h2 : i < ys.size) s, J s → wpAny (model prog w) A.in1 (eqBool xs[i] ys[i]) (fun r s' => r = true ∧ J s') E s) (fin : ∀ s, J s → Q (.bool false) s) (h : J s) : wpAny (model prog w) A (richCompare .NotEq (.ref l) (.ref b)) Q E s := by
  obtain ⟨⟨cls, dd, data, sl⟩, ho, hc, n, hd⟩ := id hl
  obtain ⟨⟨cls2, dd2, data2, sl2⟩, ho2, hc2, n2, hd2⟩ := id hb
  simp only at hc hd hc2 hd2
  subst hc hd hc2 hd2
  refine wpAny_richCompare_same_room (op := .NotEq) ⟨_, ho, rfl⟩ ⟨_, ho2, rfl⟩ F.slot_tuple_ne (GQ.call_here F.slot_tuple_ne ⟨_, ho, rfl⟩ F.entry_tuple_ne (F.args_tuple_ne_2 _ _) ?_) hu
  exact tuple_neA (R := wants (fun v s' => v ≠ .notImplemented ∧ Q v s') E) l b xs ys n n2 dd dd2 sl sl2 hsz J turn (fun s' q => ⟨(fun x => nomatch x), fin s' q⟩) ho ho2 h
end
end EvGQ
namespace Ev
open PySem PySem.Spec PyProof.Rows L2
section
variable {cs : CS} {X : Cx} {W : WX} {c : Nat} {pos : Pos}
def sameD : D → D → Bool
  | .obj a _ _, .obj b _ _ => a == b
  | d, e => flatD d && flatD e && eqV (vD d) (vD e)
def DSame : Eqv := fun x y H => DFlat x y H ∨ ∃ a, x = .ref a ∧ y = .ref a
theorem mon_same : Mon DSame := fun x y H H' e d => d
theorem eqG_same {n : Nat} : EqG X n DSame := by
  intro A pins s σ H x y u v sb I rx ry d
  rcases d with d | ⟨a, rfl, rfl⟩
  · exact eqG_flat A pins s σ H x y u v (sb.mono (Nat.zero_le _)) I rx ry d
  · cases rx
    cases ry
    exact SeqAt.EqAt.same (A := A) (s := s) (.ref a) X.prog X.w X.xe _ ⟨rfl, H, I, Ext.rfl'⟩
theorem same_rep {u : U} {H : Hp} {d e : D} {x y : V} (h : sameD d e = true) (rx : Rep u H d x) (ry : Rep u H e y) : DSame x y H := by
  have fl : (flatD d && flatD e && eqV (vD d) (vD e)) = true → DSame x y H := fun h => by
    rw [Bool.and_eq_true, Bool.and_eq_true] at h
    obtain ⟨⟨h1, h2⟩, h3⟩ := h
    obtain ⟨e1, f1⟩ := flat_rep h1 rx
    obtain ⟨e2, f2⟩ := flat_rep h2 ry
    exact .inl ⟨f1, f2, by rw [e1, e2]; exact h3⟩
  cases d with
  | obj a c fs =>
    cases e with
    | obj b c' gs =>
      obtain ⟨_, _, _, e1, _⟩ := rx.objE
      obtain ⟨_, _, _, e2, _⟩ := ry.objE
      have : a = b := by simpa [sameD] using h
      subst this
      exact .inr ⟨_, e1, e2⟩
    | _ => exact fl h
  | _ => exact fl (by cases e <;> exact h)
theorem prs_same {u : U} {H : Hp} : ∀ {ds es : List D} {xs ys : List V}, ds.length = es.length → (ds.zip es).all (fun p => sameD p.1 p.2) = true → RepL u H ds xs → RepL u H es ys → Prs DSame xs ys H
  | [], [], xs, ys, _, _, r1, r2 => by
    rw [show xs = [] from r1, show ys = [] from r2]; exact Prs.nil
  | [], _ :: _, _, _, h, _, _, _ => by simp at h
  | _ :: _, [], _, _, h, _, _, _ => by simp at h
  | d :: ds, e :: es, xs, ys, hl, h, r1, r2 => by
    obtain ⟨v, r, e1, a1, b1⟩ := r1.uncons
    obtain ⟨w, q, e2, a2, b2⟩ := r2.uncons
    rw [List.zip_cons_cons, List.all_cons, Bool.and_eq_true] at h
    rw [e1, e2]
    exact Prs.cons (same_rep h.1 a1 a2) (prs_same (by simpa using hl) h.2 b1 b2)
def tNeI : Tf2 := fun d1 d2 M post _ => ∃ ds es, d1 = .tup ds ∧ d2 = .tup es ∧ ds.length = es.length ∧ (ds.zip es).all (fun p => sameD p.1 p.2) = true ∧ post (.bl false) M
theorem po_neI {j : Nat} (hr : RoomG j X.A) (hk : 1 ≤ j := by decide) : PO2 cs X W 0 (compareOp .NotEq) tNeI := ⟨fun u n H σ d1 d2 x y post xp Q A hn rx ry ⟨ds, es, e1, e2, hl, hs, q⟩ kn kx => TO.mk fun pins s v w I rv rw' => by
  subst e1; subst e2
  obtain ⟨a, xs, ea, _, ga, ra⟩ := rx.tupE
  obtain ⟨b, ys, eb, _, gb, rb⟩ := ry.tupE
  subst ea; subst eb
  cases rv
  cases rw'
  obtain ⟨its, r, e, z⟩ := I.tuple (SqT.of ga)
  obtain ⟨its2, r2, e2, z2⟩ := I.tuple (SqT.of gb)
  have p := prs_same hl hs ra rb
  have hsz : its.toArray.size = its2.toArray.size := by rw [List.size_toArray, List.size_toArray, ← r.length, ← r2.length]; exact p.1
  have sb : Sub X 1 X.A := ⟨(hr.mono hk).room, rfl⟩
  refine EvGQ.rc_tupNe hsz (by have := hr.room.un; omega) (fun s' => LoopI X pins σ H s') e e2 (fun i h1 h2 s' q => turnG mon_same (eqG_same (n := 0)) sb p r r2 i h1 h2 s' q) (fun s' q' => ?_) ⟨H, I, Ext.rfl'⟩
  obtain ⟨H', I', ex⟩ := q'
  exact ⟨.bl false, H', I', rfl, kn.keep A (d := .bl false) ex rfl q⟩⟩
theorem sameD_self : ∀ d : D, (flatD d = true ∨ ∃ a c fs, d = .obj a c fs) → eqV (vD d) (vD d) = true → sameD d d = true := fun d h he => by
  cases d with
  | obj a c fs => simp [sameD]
  | _ =>
    rcases h with h | ⟨_, _, _, h⟩
    · simp [sameD, h, he]
    · cases h
/-! ### list(text) -/
def signsV (z : Str) : List V := z.cps.toList.map fun ch => V.str ⟨#[ch]⟩
theorem vals_at : ∀ {vs : List V} {us : List Value}, vs.length = us.length → (∀ (i : Nat) (v : V) (u : Value), vs[i]? = some v → us[i]? = some u → RelV v u) → Vals vs us
  | [], [], _, _ => .nil
  | v :: vs, u :: us, hl, h => .cons (h 0 v u rfl rfl) (vals_at (by simpa using hl) fun i v' u' a b => h (i + 1) v' u' (by simpa using a) (by simpa using b))
theorem call_list_S (hc : X.calm = true) : CallR X (.type "list") (fun xs H Q => ∃ z, xs = [.str z] ∧ z.length ≤ sizeLine ∧ ∀ l, H l = none → Q (.ref l) (upd H l (.lst (signsV z)))) := by
  intro pins s σ H xs us Q I r h
  obtain ⟨z, rfl, hz, q⟩ := h
  obtain ⟨u, rfl, t, rfl⟩ := vals1 r
  have hz' : z.cps.size ≤ sizeLine := hz
  refine call_list_str (I.ok.hd hc) z t (fun h' tk acc c' kp e hi => ?_) hz'
  have rv : Vals (signsV z) acc.toList := by
    refine vals_at (by unfold signsV; simp [hi.1]) fun i v u hv hu => ?_
    unfold signsV at hv
    rw [List.getElem?_map] at hv
    cases e1 : z.cps.toList[i]? with
    | none => rw [e1] at hv; cases hv
    | some ch =>
      rw [e1] at hv; cases hv
      obtain ⟨c2, u2, hc2, hx2⟩ := hi.2 i u (by simpa using hu)
      have : z.cps[i]? = some ch := by simpa using e1
      rw [this] at hc2; cases hc2
      exact ⟨u2, hx2⟩
  have ok : ObjOk X.prog X.w (upd H s.heap.objs.size (.lst (signsV z))) h' s.heap.objs.size (.lst (signsV z)) := ⟨by unfold signsV; simpa using hz', acc.toList, c', rv, by simpa using e⟩
  exact ⟨.ref s.heap.objs.size, _, I.laid (t' := tk) kp (Nat.le_refl _) ok, rfl, q _ (I.hok.fresh (Nat.le_refl _))⟩
theorem rep_signs {u : U} {H : Hp} (z : Str) : RepL u H (signs z) (signsV z) := by
  unfold signs signsV
  generalize z.cps.toList = l
  induction l with
  | nil => exact RepL.nil
  | cons a l ih => exact RepL.cons rfl ih
def tListS : TfC := TfC.one fun d M post => ∃ z : Str, d = .str z ∧ z.length ≤ sizeLine ∧ post (.lst (signs z)) M
theorem po_listS (hc : X.calm = true := by rfl) : POC cs X W 0 (.type "list") tListS := ⟨fun u n H σ ds xs post xp Q A hn rx hq kn kx => by
  obtain ⟨d, ed, z, e, hz, q⟩ := hq
  subst ed; subst e
  obtain ⟨x, ex, r⟩ := rx.one
  subst ex
  exact tc_of (call_list_S hc) ⟨z, by rw [show x = .str z from r], hz, fun l hl => kn.lst A (rep_signs z) q hl⟩⟩
end
section
variable {M : Store} {post : DP} {xp : XP}
theorem r_neI {ds es : List D} (h1 : ds.length = es.length) (h2 : (ds.zip es).all (fun p => sameD p.1 p.2) = true) (q : post (.bl false) M) : tNeI (.tup ds) (.tup es) M post xp := ⟨ds, es, rfl, rfl, h1, h2, q⟩
theorem r_listS {z : Str} (h : z.length ≤ sizeLine) (q : post (.lst (signs z)) M) : tListS [.str z] M post xp := ⟨_, rfl, z, rfl, h, q⟩
end
end Ev
-- EvAK
namespace Ev
open PySem PySem.Spec PyProof.Rows L2
section
variable {cs : CS} {X : Cx} {W : WX} {c : Nat} {pos : Pos}
/-! ### + of lists, made as a cell -/
def tAddM : Tf2 := fun d1 d2 M post _ => match d1, d2 with
  | .lst x, .lst y => x.length + y.length ≤ sizeLine ∧ post (.loc M.length) (M ++ [.li (x ++ y)])
  | _, _ => False
theorem po_addM : PO2 cs X W 0 (binaryOp .Add) tAddM := ⟨fun u n H σ d1 d2 x y post xp Q A hn rx ry q kn kx => by
  cases d1 <;> cases d2 <;> (try exact (show False from q).elim)
  case lst.lst i j =>
    obtain ⟨p, vs, e1, f1, g1, r1⟩ := rx.lstE
    obtain ⟨p2, ws, e2, f2, g2, r2⟩ := ry.lstE
    have l1 := r1.length
    have l2 := r2.length
    subst e1; subst e2
    exact to_of op_cat ⟨p, p2, vs, ws, rfl, rfl, g1, g2, by have := q.1; omega, fun q' hq => kn.lstM A (r1.append r2) q.2 hq⟩⟩
end
theorem r_addM {M : Store} {post : DP} {xp : XP} {ds es : List D} (h : ds.length + es.length ≤ sizeLine) (q : post (.loc M.length) (M ++ [.li (ds ++ es)])) : tAddM (.lst ds) (.lst es) M post xp := ⟨h, q⟩
end Ev
-- EvAL
namespace Ev
open PySem PySem.Spec PyProof.Rows L2 ClX
/-! ### def __init__(self): super().__init__(NAME) -/
/-- the context of such a def's body -/
def cxS (P : Program) (w : World) (K : PySem.W.Frag) (mg : Str → Option Value) (base : Heap) (N : List Str) (env : Env) (A : Around) (outer : List Env) (s : Shared) (H : Hp) (E : XK) : Cx where
  prog := P
  w := w
  K := K
  mg := mg
  base := base
  A := A.deeper env
  N := N
  s_0 := s
  H_0 := H
  env := env
  outer := outer
  stack := env :: outer
  ex := []
  calm := true
  fn := fun _ => false
  pn := []
  xe := fun e s' => wpAny (model P w) (A.deeper env) (leaving env e) (fun _ s'' => L2.CX P w outer H s E e s'') (fun e' s'' => L2.CX P w outer H s E e' s'') s'
/-- the scope of such a def -/
structure SupScope (slf nm : Str) (sc : Scope) : Prop where
  kind : sc.kind = .function
  co : sc.isCoroutine = false
  gen : sc.isGenerator = false
  nocell : ∀ x ∈ sc.names, x.2 ≠ .cell
  free : ∀ x, sc.names.lookup x = some .free → x = ("__class__" : Str)
  par : sc.names.lookup slf = some .local
  sup : sc.names.lookup ("super" : Str) = some .globalImplicit
  cl : sc.names.lookup ("__class__" : Str) = some .free
  nmg : sc.names.lookup nm = some .globalImplicit
/-- what the written part says of such a def; D: the class in whose text it stands -/
structure FunSup (P : Program) (K : PySem.W.Frag) (x qual : Str) (st : Stmt) (f : Addr) (fd : FuncData) (D : Addr) : Prop where
  ex : ∃ (oc : Value) (od : Option Addr) (kV doc pm : Value) (an : Option Addr) (cda : Addr) (ct : Value) (osl : Array (Option Value)) (cc : Addr) (ccl : Value) (cdd : Option Addr) (vs : Array Value) (ccs : Array (Option Value)) (file : Str) (tf : Tok) (cl : Value) (cld : Option Addr) (csl : Array (Option Value)),
    fd = PySem.W.ksFn x qual (defArgs st) (defBody st) (defScope st) .none kV doc pm an (.ref cda) ct cc ∧ K.lookup f = some ⟨oc, od, .func fd, osl⟩ ∧ PySem.W.codeIn K (.ref cda) qual = true ∧
    K.lookup cda = some ⟨ccl, cdd, .fields vs, ccs⟩ ∧ vs[2]? = some (.str file tf) ∧ ((P.main.file : Str) == file) = true ∧ K.lookup cc = some ⟨cl, cld, .cell (some (.ref D)), csl⟩
/-- what it says of the class C of the instance, and of the parent's __init__ at fP -/
structure SupC (P : Program) (K : PySem.W.Frag) (C D fP : Addr) : Prop where
  hD : ∃ cd, PySem.W.clsIn K D = some cd
  sub : PySem.W.mroIn K C (.ref D) = some true
  nosuper : PySem.W.nsIn K mainGlobals "super" = some none
  tp : PySem.W.nsIn K cStatics "thirdparty.any" = some none
  init : PySem.W.ks_superIn K C D "__init__" = some (some (.ref fP))
  ty : PySem.W.typeIn K (.ref fP) = some (.type "function")
  fn : PySem.W.fnIn K fP = true
  top : (P.main.scope.names.lookup ("super" : Str)).isSome = false
theorem sup_free {l : List (Str × NameKind)} (h : ∀ y ∈ l, y.2 = .free → y.1 = ("__class__" : Str)) : ∀ x, l.lookup x = some .free → x = ("__class__" : Str) := fun x e => h _ (PySem.mem_of_lookup e) rfl
theorem boot_super : bootBuiltins "super" = some (.type "super") := by first | rfl | decide +kernel | kernel_rfl
theorem inv_super {P : Program} {w : World} {K : PySem.W.Frag} {mg : Str → Option Value} {base : Heap} {slf nm : Str} {qual : Str} {scope : Scope} {f cc D : Addr} {cd : Value} {A : Around} {outer : List Env} {s : Shared} {H : Hp} {E : XK} {v : V} {u : Value} {h1 : Heap} {tk : Nat}
    {cl : Value} {cld : Option Addr} {csl : Array (Option Value)} (S : SupScope slf nm scope) (hd : A.handled = none) (e0 : Env0 P w K mg base A outer s H) (r : RelV v u) (hcc : K.lookup cc = some ⟨cl, cld, .cell (some (.ref D)), csl⟩)
    (hns : h1.Ns s.heap.objs.size fun x => ([(slf, u)] : List (Str × Value)).reverse.lookup x) (kp : ∀ b o, s.heap.get? b = some o → h1.get? b = some o) :
    Inv (cxS P w K mg base [slf] (PySem.W.ksEnv qual scope s.heap.objs.size f cd cc) A outer s H E) [] [some v] H { s with heap := h1, toks := tk } := by
  have noA : ∀ b : Addr, b ∉ (cxS P w K mg base [slf] (PySem.W.ksEnv qual scope s.heap.objs.size f cd cc) A outer s H E).ex := fun b z => absurd (show b ∈ ([] : List Addr) from z) (by simp)
  have KX : K.In base := e0.mod.kin
  have hb := KX _ _ hcc
  have one : ∀ {x : Str} {c : Addr}, (PySem.W.ksEnv qual scope s.heap.objs.size f cd cc).cells.lookup x = some c → x = ("__class__" : Str) ∧ c = cc := fun {x c} e => by
    have e : ([(("__class__" : Str), cc)] : List (Str × Addr)).lookup x = some c := e
    by_cases h : x = ("__class__" : Str)
    · subst h
      simp [List.lookup] at e
      exact ⟨rfl, e.symm⟩
    · have : (x == ("__class__" : Str)) = false := by simpa using h
      simp [List.lookup, this] at e
  refine ⟨⟨e0.mod, S.kind, rfl, rfl, Nat.le_refl _, fun y z c e1 e2 => (one e1).1.trans (one e2).1.symm, fun y hy => ?_, fun y c z _ => ?_, fun _ => hd, Around.frames_deeper e0.frames, .inr ⟨rfl, rfl⟩, fun b z => absurd z (noA b), e0.bs, e0.bsz, fun b _ _ => noA b,
      fun b z => absurd z (noA b), e0.funs, e0.frf⟩,
    rfl, e0.bare, Un.kept kp, ⟨_, hns, fun i y v' e1 e2 e3 => ?_⟩, fun y c e => ?_, e0.hok.fresh (Nat.le_refl _), fun y c e => ?_, fun q hq => absurd (show q ∈ ([] : List (Addr × Obj)) ++ [] from hq) (by simp), e0.hok.kept kp, rfl⟩
  · have hy : scope.names.lookup y = some .cell ∨ scope.names.lookup y = some .free := hy
    rcases hy with hy | hy
    · exact absurd rfl (S.nocell _ (PySem.mem_of_lookup hy))
    · rw [S.free y hy]
      exact ⟨cc, rfl⟩
  · have z : false = true := z
    cases z
  · cases i with
    | succ i => cases e1
    | zero =>
      cases e1
      cases e2
      refine ⟨u, r, .inl ⟨S.par, ?_⟩⟩
      simp [List.lookup]
  · obtain ⟨_, rfl⟩ := one e
    exact ⟨_, _, kp _ _ (e0.bs _ _ hb).1, rfl⟩
  · obtain ⟨_, rfl⟩ := one e
    exact (e0.bs _ _ hb).2
section
variable {P : Program} {w : World} {K : PySem.W.Frag} {mg : Str → Option Value} {base : Heap} {cs : CS}
/-- super().__init__(the text wd) of an instance of the class of the number nc -/
def tSup (nc : Nat) (wd : Str) (S : SpX) : SpX := fun ds M post xp => ∃ d fs, ds = [d] ∧ insOf M d = some (nc, fs) ∧ S [d, .str wd] M (fun _ M' => post .non M') xp
theorem fn_super {x qual slf nm : Str} {st : Stmt} {f fP D : Addr} {fd fdP : FuncData} {psP : List Str} {k c nc : Nat} {S : SpX} {wd : Str} {tw : Tok} {ar : Arg} {p0 p1 p2 p3 p4 p5 : Pos}
    (F : FunSup P K x qual st f fd D) (Sc : SupScope slf nm (defScope st)) (hbody : defBody st = [.Expr (.Call (.Attribute (.Call (.Name "super" p0) [] [] p1) "__init__" p2) [.Name nm p3] [] p4) p5])
    (hpar : ((defArgs st).posonlyargs ++ (defArgs st).args).head? = some ar) (har : ar.arg = slf)
    (SC : ∀ C, cs.cls[nc]? = some (.ref C) → SupC P K C D fP) (FP : FnG P w K mg base (L2.CX P w) k fP fdP psP (spN cs 2 c S)) (hbP : Binds K fdP psP []) (hm : mg nm = some (.str wd tw)) (hdn : (nm == ("__debug__" : Str)) = false := by decide)
    (ht : ∀ env : Env, ∃ pl : Sem Bool, eval (.Call (.Attribute (.Call (.Name "super" p0) [] [] p1) "__init__" p2) [.Name nm p3] [] p4) env = (do let ov ← attributeBase (.Call (.Name "super" p0) [] [] p1) "__init__" env (eval (.Call (.Name "super" p0) [] [] p1) env); standAt p2.atName; let (f, first) ← holding [ov] (getMethod ov "__init__" pl); callWith p4 f first (backTo p4 (starEach [.Name nm p3] env)) []) := by intro _; exact ⟨_, rfl⟩)
    (hint : ∀ (L f : Addr) (cdv : Value) (cc : Addr), interactive (PySem.W.ksEnv qual (defScope st) L f cdv cc) = false := by intro _ _ _ _; rfl)
    (hsw : ∀ (L f : Addr) (cdv : Value) (cc : Addr), swapsWith (.Call (.Attribute (.Call (.Name "super" p0) [] [] p1) "__init__" p2) [.Name nm p3] [] p4) none p5.line (PySem.W.ksEnv qual (defScope st) L f cdv cc) = pure false := by intro _ _ _ _; rfl) :
    FnG P w K mg base (L2.CX P w) (k + 1) f fd [slf] (spN cs 1 c (tSup nc wd S)) := by
  refine ⟨fun vs H Q E ⟨u, n, ds, post, xp, A, hn, r, hl, hS, kn, ke⟩ => by rw [r.length, hl]; rfl, fun A outer s H args us vs Q E hr e0 hb r hsp => ?_⟩
  obtain ⟨u, n, ds, post, xp, A0, hn, rl, hl, ⟨d, fs, rfl, hi, hS⟩, kn, ke⟩ := hsp
  obtain ⟨v, rfl, rd⟩ := RepL.one rl
  cases r with
  | @cons _ uv _ ur rv rn =>
  cases rn
  obtain ⟨oc, od, kV, doc, pm, an, cda, ct, osl, cc, ccl, cdd, fvs, ccs, file, tf, cl, cld, csl, rfl, lk, hcd, hcda, hv2, hfile, hcc⟩ := F.ex
  have KX : K.In s.heap := e0.mod.kin.keeps fun b o e => (e0.bs b o e).1
  have lim : s.heap.NoLimit := e0.mod.nolimit.keeps fun b o e => (e0.bs b o e).1
  refine ks_codeAny_call_defAt (fd := PySem.W.ksFn x qual (defArgs st) (defBody st) (defScope st) .none kV doc pm an (.ref cda) ct cc) (body := defBody st) (binds := [slf].zip [uv]) hr.room.depth (KX _ _ lk) rfl lim (PySem.W.codeRec_of KX hcd) rfl hb Sc.nocell (fun y hy => by
    obtain rfl : y = (slf, uv) := by simpa using hy
    exact Sc.par) (fun h1 hns hk => ?_) Sc.co Sc.gen Sc.kind
  have J : Inv (cxS P w K mg base [slf] (PySem.W.ksEnv qual (defScope st) s.heap.objs.size f (.ref cda) cc) A outer s H E) [] [some v] H { s with heap := h1, toks := s.toks + ([slf].zip [uv]).length } := inv_super Sc hr.room.hd e0 rv hcc hns hk
  have tk : Takes (cxS P w K mg base [slf] (PySem.W.ksEnv qual (defScope st) s.heap.objs.size f (.ref cda) cc) A outer s H E) (WE E) := takes_of rfl rfl rfl rfl
  have hrX : RoomG k (A.deeper (PySem.W.ksEnv qual (defScope st) s.heap.objs.size f (.ref cda) cc)) := ⟨hr.room.deeper _, hr.gd⟩
  obtain ⟨a, C, ox, odx, m, rfl, rfl, hC, JI, hF⟩ := ins_st A0 J hi rd rv
  have sc := SC C hC
  obtain ⟨cdD, hD⟩ := sc.hD
  have K1 : K.In h1 := KX.keeps hk
  obtain ⟨oD, hD1, hD2⟩ : ∃ oD, h1.get? D = some oD ∧ oD.data = .cls cdD := by
    unfold PySem.W.clsIn at hD
    split at hD
    · rename_i c0 d0 cd0 sl0 ho
      cases hD
      exact ⟨_, K1 _ _ ho, rfl⟩
    · cases hD
  rw [hbody]
  refine ks_wpAt_execs_cons ?_
  obtain ⟨pl, he⟩ := ht (PySem.W.ksEnv qual (defScope st) s.heap.objs.size f (.ref cda) cc)
  refine ks_wpAt_Expr_any (ks_wpAt_MethodCall (pl := pl) ?_ he) (hint _ _ _ _) (hsw _ _ _ _)
  refine ks_wpAt_super_base Sc.sup Sc.cl rfl rfl (K1 _ _ lk) rfl hpar rfl (K1 _ _ hcda) rfl hv2 hfile sc.top ?_
  obtain ⟨mb, b1, b2⟩ := e0.mod.blt
  have keep1 : ∀ b o, base.get? b = some o → h1.get? b = some o := fun b o e => hk b o (e0.bs b o e).1
  refine PySem.W.ks_loadName_global Sc.kind Sc.sup (Calls.loadGlobal_builtin (e0.mod.glob.keeps keep1) (PySem.W.mg_none_of e0.mod.kin e0.mod.glob sc.nosuper) (b1.keeps keep1) ((b2 _ (by decide)).trans boot_super) ⟨rfl, ?_⟩)
  refine wpAny_loadName_free Sc.kind Sc.cl rfl ⟨_, K1 _ _ hcc, rfl⟩ ?_
  rw [har]
  refine wpAny_loadName_local Sc.kind Sc.par hns (v := .ref a) (by simp [List.lookup]) ?_
  refine ks_wpAny_isType_cls hD1 hD2 ⟨rfl, ?_⟩
  refine ks_wpAny_call_super hD1 hD2 JI.at_ JI.cls (fun c e => ?_) (PySem.W.looks_mroIn K1 sc.sub) (fun h2 e2 k2 => ?_)
  · have := JI.no
    unfold PySem.W.notCls at this
    rw [e] at this
    exact Bool.noConfusion this
  have K2 : K.In h2 := K1.keeps k2
  have J2 := pin_new (t' := s.toks + ([slf].zip [Value.ref a]).length) (o := PySem.W.ks_superObj D a C) J k2 (Nat.le_refl _) e2 (fun v z => nomatch z)
  have hinit := sc.init
  obtain ⟨cdC, hcC⟩ : ∃ cd, PySem.W.clsIn K C = some cd := by
    cases hc : PySem.W.clsIn K C with
    | none => unfold PySem.W.ks_superIn at hinit; rw [hc] at hinit; cases hinit
    | some cd => exact ⟨cd, rfl⟩
  unfold PySem.W.ks_superIn at hinit
  rw [hcC] at hinit
  obtain ⟨of, hof, hofc⟩ : ∃ of, h2.get? fP = some of ∧ of.cls = .type "function" := by
    have ht' : (K.lookup fP).map (·.cls) = some (.type "function") := sc.ty
    cases z : K.lookup fP with
    | none => rw [z] at ht'; cases ht'
    | some of => rw [z] at ht'; exact ⟨of, K2 _ _ z, Option.some.inj ht'⟩
  refine ks_wpAny_getMethod_super e2 (PySem.W.looks_opaque K2 sc.tp) (l₀ := cdC.mro) (fun A Q E s k q => wpAny_bind ((PySem.W.looks_clsIn K2 hcC) A _ E s k (wpAny_pure q))) rfl K2 hinit hof hofc (PySem.W.ks_ne K1 JI hcC) rfl ?_
  have J3 := met_new (g := fP) (C := a) J2
  refine callwith_cm J3 (base_none J2 (Nat.le_refl _)) sc.fn (thn ((L2.pa_cons (pe_glob (X := cxS P w K mg base [slf] (PySem.W.ksEnv qual (defScope st) s.heap.objs.size f (.ref cda) cc) A outer s H E) (x := nm) (v := .str wd) (u := .str wd tw) Sc.nmg hm ⟨tw, rfl⟩ hdn) L2.pa_nil rfl).run p4 _ _ [some (.ref a)] H (fun xs H1 => xs = [.str wd] ∧ H1 = H) J3 ⟨rfl, rfl⟩) fun us4 s4 ⟨xs, H4, I4, rv4, ex, eH⟩ => ⟨⟨pin_at I4, I4.kIn⟩, ?_⟩) rfl rfl
  subst ex
  rw [eH] at I4
  have hsp : spN cs 2 c S [.ref a, .str wd] H (fun _ H' => Q .non H') E := ⟨u, n, [d, .str wd], fun _ M' => post .non M', xp, A0, hn, RepL.cons rd (RepL.cons rfl RepL.nil), rfl, hS, fun v' d' u' H' e B r q => kn .non .non u' H' e B rfl q, ke⟩
  have r5 : Vals [.ref a, .str wd] (.ref a :: us4) := .cons rfl rv4
  have hlen : (Value.ref a :: us4).length = psP.length := by rw [← r5.length]; exact FP.len _ _ _ _ hsp
  refine wpAny_mono (wpAny_call (PySem.W.method_call (pin_at I4) (codeAny_mono (FP.go _ _ s4 H ⟨.ref a :: us4, []⟩ (.ref a :: us4) [.ref a, .str wd] (fun _ H' => Q .non H') E hrX I4.env0 (by simpa using hbP s4 (.ref a :: us4) I4.kIn (by simpa using hlen)) r5 hsp) fun r' s' hq => ?_))) (Q := fun _ s' => ∃ pins' H', Inv (cxS P w K mg base [slf] (PySem.W.ksEnv qual (defScope st) s.heap.objs.size f (.ref cda) cc) A outer s H E) pins' [some (.ref a)] H' s' ∧ Q .non H') (fun v s' hq => ?_) (fun _ _ z => z)
  · cases r' with
    | error er => exact takes_call (σ := [some (.ref a)]) tk I4 hq
    | ok fl =>
      cases fl with
      | ret u =>
        obtain ⟨_, H', I5, _, q5⟩ := I4.after hq
        exact ⟨_, H', I5, q5⟩
      | next => exact False.elim hq
      | brk => exact False.elim hq
      | cont => exact False.elim hq
  · obtain ⟨_, H', I5, q5⟩ := hq
    refine wpAt_of_wpAny (wpAny_execs_nil ?_)
    exact ⟨.non, H', I5.os, I5.bare, I5.base, I5.hok, rfl, q5⟩
end
/-! ### e(..), e an instance of an own class with __call__ -/
section
variable {M : Model} {A : Around} {E : Value → Shared → Prop} {s : Shared} {env : Env} {pos : Pos} {x : Addr} {first : List Value} {Q : Value → Shared → Prop}
def InsO (x : Addr) (h : Heap) : Prop := ∃ C ox od, PySem.W.InstAt h x ox C od ∧ ox.data = .plain
theorem callWith_O {args : List (Bool × Sem Value)} {keywords : List (Option Str × Sem Value)} (hplain : (args.any (·.1) || keywords.any (·.1.isNone)) = false)
    (h : wpAny M A (evalArgs (.ref x) true args keywords) (fun a s₁ => InsO x s₁.heap ∧ wpAny M A (call (.ref x) (first ++ a.pos) a.kw) Q E s₁) E s) : wpAny M A (callWith pos (.ref x) first args keywords) Q E s := by
  unfold callWith
  refine wpAny_bind (wpAny_holding (wpAny_mono h (fun a s₁ h₁ => wpAny_bind (wpAny_standAt ?_)) fun _ _ y => y))
  obtain ⟨C, ox, od, J, hd⟩ := h₁.1
  have L := PySem.W.kco_keeper (M := M) J hd
  simp only [hplain]
  refine wpAny_bind (L.here ?_)
  have tail : ∀ {t : Sem Value}, wpAny M A t Q E s₁ → wpAny M A (t >>= fun r => holding [r] point >>= fun _ => pure r) Q E s₁ :=
    fun ht => wpAny_bind (wpAny_mono ht (fun r s₂ hr => wpAny_bind (wpAny_holding (wpAny_point (wpAny_pure hr)))) fun _ _ y => y)
  exact tail (wpAny_operateT h₁.2)
end
section
variable {cs : CS} {X : Cx} {W : WX} {c c1 c2 c3 : Nat} {a b e : Expr} {pos : Pos} {k j ar nc : Nat}
theorem callWith_Os {M : Model} {A : Around} {E : Value → Shared → Prop} {s : Shared} {env : Env} {x : Addr} {first : List Value} {Q : Value → Shared → Prop} {e : Expr} {rest : List Expr}
    (h : wpAny M A (spliced (backTo pos (starEach (e :: rest) env))) (fun vs s₁ => InsO x s₁.heap ∧ wpAny M A (call (.ref x) (first ++ vs)) Q E s₁) E s)
    (he : starEach (e :: rest) env = (false, eval e env) :: starEach rest env) (hplain : (backTo pos (starEach rest env)).any (·.1) = false) :
    wpAny M A (callWith pos (.ref x) first (backTo pos (starEach (e :: rest) env)) []) Q E s := by
  rw [he] at h ⊢
  exact callWith_O (by show ((false || (backTo pos (starEach rest env)).any (·.1)) || false) = false; rw [hplain]; rfl) (Calls.evalArgs_plain h)
/-- the __call__ of the class of the number n -/
structure CaD (P : Program) (w : World) (K : PySem.W.Frag) (mg : Str → Option Value) (base : Heap) (cs : CS) (k : Nat) (n : Nat) (ar c : Nat) (S : SpX) : Prop where
  ex : ∃ (C f : Addr) (fd : FuncData) (ps : List Str), cs.cls[n]? = some (.ref C) ∧ Meth K C "__call__" f ∧ PySem.W.fnIn K f = true ∧ FnG P w K mg base (L2.CX P w) k f fd ps (spN cs ar c S) ∧ Binds K fd ps []
def tCallO (nc ar : Nat) (S : SpX) (to : TfE) (ta : TfA) : TfE := fun Γ M post xp => to Γ M (fun d M1 => (∃ fs, insOf M1 d = some (nc, fs)) ∧ ta Γ M1 (fun ds M2 => (∃ fs, insOf M2 d = some (nc, fs)) ∧ ds.length + 1 = ar ∧ S (d :: ds) M2 post xp) xp) xp
theorem px_callO {fe : Expr} {es : List Expr} {S : SpX} {to : TfE} {ta : TfA} (F : CaD X.prog X.w X.K X.mg X.base cs k nc ar c3 S) (hr : RoomG j X.A) (tk : Takes X W) (ho : PX cs X W c1 fe to) (ha : PXA cs X W c2 (e :: es) ta) (hk : k ≤ j := by decide)
    (hst : starEach (e :: es) X.env = (false, eval e X.env) :: starEach es X.env := by rfl) (hpl : (backTo pos (starEach es X.env)).any (·.1) = false := by rfl)
    (ht : eval (.Call fe (e :: es) [] pos) X.env = (do let fv ← eval fe X.env; callWith pos fv [] (backTo pos (starEach (e :: es) X.env)) []) := by rfl) :
    PX cs X W (c1 + c2 + c3) (.Call fe (e :: es) [] pos) (tCallO nc ar S to ta) := ⟨fun u n H σ Γ post xp Q A hn q kn kx => by
  obtain ⟨C, f, fd, ps, hC, hm, hfn, F, hb⟩ := F.ex
  refine TW.mk fun pins s I => ?_
  rw [ht]
  refine wpAny_bind (thn (ho.run u n H σ Γ _ xp (fun x H1 => ∀ s1 v, Inv X pins σ H1 s1 → RelV x v → wpAny (model X.prog X.w) X.A (callWith pos v [] (backTo pos (starEach (e :: es) X.env)) []) (EP X pins σ Q) X.xe s1) A (by omega) q (fun v d u1 H1 e1 B1 r1 ⟨⟨fs, hi⟩, h1⟩ s1 v' I1 rv => ?_) (kx.le (by omega)) pins s I) fun v s1 ⟨x, H1, I1, rx, q⟩ => q s1 v I1 rx)
  obtain ⟨a', C', dx, us0, ev, hC', g, rf⟩ := ins_rep B1 hi r1
  rw [hC] at hC'; cases hC'
  subst ev
  obtain rfl : v' = Value.ref a' := rv
  refine callWith_Os (first := []) (thn (ha.run u1 (n + c1) H1 σ Γ _ xp (fun vs H2 => (∃ dx us, H2 a' = some (.ins C dx us)) ∧ spN cs ar c3 S (.ref a' :: vs) H2 Q (fun cls d H' => W cls d σ H')) (A.step e1 B1) (by omega) h1 (fun vs ds u2 H2 e2 B2 r2 ⟨⟨fs2, hi2⟩, hl2, hS⟩ => ?_) (kx.go A.toWd e1 (by omega)) pos pins s1 I1) fun us s2 ⟨vs, H2, I2, r, ⟨dx2, us2, g2⟩, q⟩ => ?_) hst hpl
  · have e12 := e1.trans A.toWd e2
    have r1' := r1.go B1 e2
    obtain ⟨a2, C2, dx2, us2, ev2, hC2, g2, _⟩ := ins_rep B2 hi2 r1'
    cases ev2
    rw [hC] at hC2; cases hC2
    exact ⟨⟨dx2, us2, g2⟩, u2, n + c1 + c2, d :: ds, post, xp, B2, by omega, RepL.cons r1' r2, by simpa using hl2, hS, kn.go A.toWd e12 (by omega), fun cls od c fs u' H' e3 B3 r q => kx cls od c fs u' H' (e12.trans A.toWd e3) (B3.up (by omega)) r q⟩
  · obtain ⟨mA, J, _⟩ := ins_get I2.hok g2
    obtain ⟨od, J, _⟩ := J.look
    refine ⟨⟨C, _, _, J, rfl⟩, ?_⟩
    have r3 : Vals (.ref a' :: vs) (.ref a' :: us) := .cons rfl r
    have hlen : (Value.ref a' :: us).length = ps.length := by rw [← r3.length]; exact F.len _ _ _ _ q
    refine wpAny_call (PySem.W.kco_code (a := ⟨us, []⟩) I2.kIn J rfl hm.at_ hm.fn hfn (codeAny_mono (F.go X.A X.stack s2 H2 ⟨.ref a' :: us, []⟩ (.ref a' :: us) (.ref a' :: vs) Q _ (hr.mono hk) I2.env0 (by simpa using hb s2 (.ref a' :: us) I2.kIn (by simpa using hlen)) r3 q) fun r' s' hq => ?_))
    cases r' with
    | error er => exact takes_call tk I2 hq
    | ok fl =>
      cases fl with
      | ret u => exact I2.after hq
      | next => exact False.elim hq
      | brk => exact False.elim hq
      | cont => exact False.elim hq⟩
/-- .. by keywords alone -/
structure CaK (P : Program) (w : World) (K : PySem.W.Frag) (mg : Str → Option Value) (base : Heap) (cs : CS) (k : Nat) (n : Nat) (ar c : Nat) (S : SpX) (ks : List Str) (is : List Nat) : Prop where
  ex : ∃ (C f : Addr) (fd : FuncData) (ps : List Str), cs.cls[n]? = some (.ref C) ∧ Meth K C "__call__" f ∧ PySem.W.fnIn K f = true ∧ FnG P w K mg base (L2.CX P w) k f fd ps (spN cs ar c S) ∧ KwB K fd ps 1 ks is
def tCallOK (nc ar nk : Nat) (is : List Nat) (S : SpX) (to : TfE) (ta : TfA) : TfE := fun Γ M post xp => to Γ M (fun d M1 => (∃ fs, insOf M1 d = some (nc, fs)) ∧ ta Γ M1 (fun ds M2 => (∃ fs, insOf M2 d = some (nc, fs)) ∧ ds.length = nk ∧ (pick is ds).length + 1 = ar ∧ S (d :: pick is ds) M2 post xp) xp) xp
theorem px_callOK {fe : Expr} {kws : List Keyword} {ks : List Str} {is : List Nat} {S : SpX} {to : TfE} {ta : TfA} (F : CaK X.prog X.w X.K X.mg X.base cs k nc ar c3 S ks is) (hr : RoomG j X.A) (tk : Takes X W) (ho : PX cs X W c1 fe to) (ha : PXK cs X W c2 kws ta) (hk : k ≤ j := by decide)
    (hall : (backToKw pos (keywordEach kws X.env)).all (·.1.isSome) = true := by rfl) (hks : (backToKw pos (keywordEach kws X.env)).filterMap (·.1) = ks := by rfl) (hpl : ((backTo pos (starEach [] X.env)).any (·.1) || (backToKw pos (keywordEach kws X.env)).any (·.1.isNone)) = false := by rfl)
    (ht : eval (.Call fe [] kws pos) X.env = (do let fv ← eval fe X.env; callWith pos fv [] (backTo pos (starEach [] X.env)) (backToKw pos (keywordEach kws X.env))) := by rfl) :
    PX cs X W (c1 + c2 + c3) (.Call fe [] kws pos) (tCallOK nc ar ks.length is S to ta) := ⟨fun u n H σ Γ post xp Q A hn q kn kx => by
  obtain ⟨C, f, fd, ps, hC, hm, hfn, F, hb⟩ := F.ex
  refine TW.mk fun pins s I => ?_
  rw [ht]
  refine wpAny_bind (thn (ho.run u n H σ Γ _ xp (fun x H1 => ∀ s1 v, Inv X pins σ H1 s1 → RelV x v → wpAny (model X.prog X.w) X.A (callWith pos v [] (backTo pos (starEach [] X.env)) (backToKw pos (keywordEach kws X.env))) (EP X pins σ Q) X.xe s1) A (by omega) q (fun v d u1 H1 e1 B1 r1 ⟨⟨fs, hi⟩, h1⟩ s1 v' I1 rv => ?_) (kx.le (by omega)) pins s I) fun v s1 ⟨x, H1, I1, rx, q⟩ => q s1 v I1 rx)
  obtain ⟨a', C', dx, us0, ev, hC', g, rf⟩ := ins_rep B1 hi r1
  rw [hC] at hC'; cases hC'
  subst ev
  obtain rfl : v' = Value.ref a' := rv
  refine callWith_O (first := []) hpl (evalArgs_kw2_nil hall (thn ((ha.run u1 (n + c1) H1 σ Γ _ xp (fun vs H2 => (∃ dx us, H2 a' = some (.ins C dx us)) ∧ vs.length = ks.length ∧ spN cs ar c3 S (.ref a' :: pick is vs) H2 Q (fun cls d H' => W cls d σ H')) (A.step e1 B1) (by omega) h1 (fun vs ds u2 H2 e2 B2 r2 ⟨⟨fs2, hi2⟩, hl1, hl2, hS⟩ => ?_) (kx.go A.toWd e1 (by omega))).run pos pins s1 I1) fun us s2 ⟨vs, H2, I2, r, ⟨dx2, us2, g2⟩, hl, q⟩ => ?_))
  · have e12 := e1.trans A.toWd e2
    have r1' := r1.go B1 e2
    obtain ⟨a2, C2, dx2, us2, ev2, hC2, g2, _⟩ := ins_rep B2 hi2 r1'
    cases ev2
    rw [hC] at hC2; cases hC2
    exact ⟨⟨dx2, us2, g2⟩, by rw [r2.length, hl1], u2, n + c1 + c2, d :: pick is ds, post, xp, B2, by omega, RepL.cons r1' (r2.pick is), by simpa using hl2, hS, kn.go A.toWd e12 (by omega), fun cls od c fs u' H' e3 B3 r q => kx cls od c fs u' H' (e12.trans A.toWd e3) (B3.up (by omega)) r q⟩
  · obtain ⟨mA, J, _⟩ := ins_get I2.hok g2
    obtain ⟨od, J, _⟩ := J.look
    refine ⟨⟨C, _, _, J, rfl⟩, ?_⟩
    have r3 : Vals (.ref a' :: pick is vs) (.ref a' :: pick is us) := .cons rfl (vals_pick r is)
    rw [hks]
    refine wpAny_call (PySem.W.kco_code (a := ⟨[], ks.zip us⟩) I2.kIn J rfl hm.at_ hm.fn hfn (codeAny_mono (F.go X.A X.stack s2 H2 ⟨[.ref a'], ks.zip us⟩ (.ref a' :: pick is us) (.ref a' :: pick is vs) Q _ (hr.mono hk) I2.env0 (by simpa using hb s2 [.ref a'] us I2.kIn rfl (by rw [← r.length, hl])) r3 q) fun r' s' hq => ?_))
    cases r' with
    | error er => exact takes_call tk I2 hq
    | ok fl =>
      cases fl with
      | ret u => exact I2.after hq
      | next => exact False.elim hq
      | brk => exact False.elim hq
      | cont => exact False.elim hq⟩
end
end Ev
-- EvAM
namespace EvK
open PySem PySem.W PySem.Calls
/-! ### an error class of the program's own, called by keywords alone: the machine's way, read off type.__call__ and BaseException.__new__ -/
/-- an own error class as it lies in the heap -/
structure Lies (H : Heap) (C : Addr) (up : List Value) : Prop where
  at_ : ∃ nm q N bs sn su ab co dd m0 m1 m2 m3 m5, H.get? C = some (excClassObj nm q C N bs up true sn su ab co dd m0 m1 m2 m3 m5 "ValueError.__new__")
  up : ∀ T : String, (Value.ref C :: up).contains (.type T) = ([.type "ValueError", .type "Exception", .type "BaseException", .type "object"] : List Value).contains (.type T)
local macro_rules | `(tactic| walk_at "xq") => `(tactic| repeat (any_goals (first
  | assumption
  | (with_reducible refine wpAny_madeHere_exc PySem.F.excBase_ValueError.canon (by assumption) ?_)
  | (with_reducible refine wpAny_staticBase_exc (by assumption) ?_)
  | (with_reducible refine wpAny_madeBy_exc (by assumption) ?_)
  | (with_reducible refine wpAny_isSubtype_exc (by assumption) ?_)
  | (with_reducible refine wpAny_loadPart_at (by assumption) ?_)
  | (with_reducible refine wpAny_onRaise ?_) | (with_reducible refine wpAny_map ?_)
  | wp_step)))
section
variable {P : Program} {w : World} {A : Around} {X : Value → Shared → Prop} {s : Shared} {C : Addr} {up : List Value} {kws : List (Str × Value)}
theorem ok_type {Q : Unit → Shared → Prop} (L : Lies s.heap C up) (q : Q () s) : wpAny (model P w) A (checkBuiltinCall "type.__call__" ⟨[.ref C], kws⟩) Q X s := by
  obtain ⟨nm, qn, N, bs, sn, su, ab, co, dd, m0, m1, m2, m3, m5, lk⟩ := L.at_
  obtain ⟨H, g, dr, tk, o⟩ := s
  have st := tc_sub
  have ty : Shared.TypeIs ⟨H, g, dr, tk, o⟩ (.ref C) "type" := ⟨_, lk, rfl⟩
  unfold checkBuiltinCall
  simp only [tc_kind, tc_split]
  walk_at "xq"
theorem ok_new {Q : Unit → Shared → Prop} (L : Lies s.heap C up) (q : Q () s) : wpAny (model P w) A (checkBuiltinCall "ValueError.__new__" ⟨[.ref C], kws⟩) Q X s := by
  obtain ⟨nm, qn, N, bs, sn, su, ab, co, dd, m0, m1, m2, m3, m5, lk⟩ := L.at_
  obtain ⟨H, g, dr, tk, o⟩ := s
  have ve : (Value.ref C :: up).contains (.type "ValueError") = true := (L.up _).trans (by decide)
  have nst := PySem.F.excBase_ValueError.noStar
  unfold checkBuiltinCall
  simp only [PySem.F.excBase_ValueError.newKind, PySem.F.excBase_ValueError.newSplit, PySem.F.excBase_ValueError.newRow]
  walk_at "xq"
  rw [ve]
  walk_at "xq"
abbrev bornO (C t : Addr) : Obj := { cls := .ref C, data := .fields #[.ref t, .none, .none, .none, .bool false, .none] }
abbrev bornH (H : Heap) (C : Addr) : Heap := (H.push { cls := .type "tuple", data := .seq #[] }).push (bornO C H.objs.size)
theorem run_new {R : Result → Shared → Prop} (L : Lies s.heap C up) (q : R (.ok (.ret (.ref (s.heap.objs.size + 1)))) { s with heap := bornH s.heap C }) : codeAny (model P w) A (.builtin "ValueError.__new__" ⟨[.ref C], kws⟩) R s := by
  obtain ⟨nm, qn, N, bs, sn, su, ab, co, dd, m0, m1, m2, m3, m5, lk⟩ := L.at_
  obtain ⟨H, g, dr, tk, o⟩ := s
  have ve : (Value.ref C :: up).contains (.type "ValueError") = true := (L.up _).trans (by decide)
  have va : (Value.ref C :: up).contains (.type "AttributeError") = false := (L.up _).trans (by decide)
  have vn : (Value.ref C :: up).contains (.type "NameError") = false := (L.up _).trans (by decide)
  have en := PySem.F.excBase_ValueError.ends
  have ow := PySem.F.excBase_ValueError.owner
  refine codeAny_builtinAt PySem.F.excBase_ValueError.entry ?_
  unfold Builtin.«BaseException.__new__»
  refine PySem.wpAt_bind ?_
  show PySem.wpAt _ _ _ (stack >>= fun k => _) _ _ _
  refine PySem.wpAt_bind (PySem.wpAt_stack fun _ _ => wpAt_of_wpAny ?_)
  walk_at "xq"
  refine wpAt_of_wpAny ?_
  rw [ow]
  walk_at "xq"
  rw [ve]
  walk_at "xq"
  rw [va]
  walk_at "xq"
  rw [vn]
  walk_at "xq"
  have e := Heap.size_push H ({ cls := .type "tuple", data := .seq #[] } : Obj)
  show R (.ok (.ret (.ref _))) _
  rw [e]
  exact q
theorem run_call {R : Result → Shared → Prop} {fi : Addr} (L : Lies s.heap C up) (li : Looks (model P w) s.heap (typeLookup (.ref C) "__init__") (some (.ref fi))) (bi : ∀ o, Looks (model P w) s.heap (bindSpecial (.ref fi) o) (.ref fi, [o]))
    (go : codeAny (model P w) (A.under (.builtin "type.__call__" ⟨[.ref C], kws⟩)) (.call (.ref fi) ⟨[.ref (s.heap.objs.size + 1)], kws⟩) (InitBack (s.heap.objs.size + 1) R) { s with heap := bornH s.heap C }) :
    codeAny (model P w) A (.call (.ref C) ⟨[], kws⟩) R s := by
  have born : ∀ b o, s.heap.get? b = some o → (bornH s.heap C).get? b = some o := fun b o e => Heap.get?_push_of_some _ (Heap.get?_push_of_some _ e)
  have L0 := L
  obtain ⟨nm, qn, N, bs, sn, su, ab, co, dd, m0, m1, m2, m3, m5, lk⟩ := L.at_
  obtain ⟨H, g, dr, tk, o⟩ := s
  have ty : Shared.TypeIs ⟨H, g, dr, tk, o⟩ (.ref C) "type" := ⟨_, lk, rfl⟩
  have look := tc_lookup
  have bind := tc_bind (.ref C)
  refine codeAny_of_tree ?_
  show wpAny _ _ (callAny (.ref C) ⟨[], kws⟩) _ _ _
  walk_at "xq"
  refine ⟨rfl, codeAny_call_builtin_at (Code.quiet_builtin _ (by decide +kernel)) entry_typeCall (ok_type L0 ?_)⟩
  show wpAny _ _ (Builtin.«type.__call__» ⟨[.ref C], kws⟩) _ _ _
  walk_at "xq"
  refine codeAny_call_builtin_code (Code.quiet_builtin _ (by decide +kernel)) (ok_new L0 (run_new L0 ?_))
  have lk1 := born _ _ lk
  have here : (bornH H C).get? (H.objs.size + 1) = some (bornO C H.objs.size) := by heap_get
  have own : (Value.ref C :: up).contains (.ref C) = true := by simp
  have li1 := li.keeps born
  have bi1 := (bi (.ref (H.objs.size + 1))).keeps born
  show wpAny _ _ (isInstance (.ref (H.objs.size + 1)) (.ref C) >>= _) _ _ _
  unfold isInstance
  walk_at "xq"
  show wpAny _ _ (typeLookup (.ref C) "__init__") _ _ _
  refine li1.at (wpAny_holding (wpAny_bind (bi1.at (wpAny_bind (wpAny_call (codeAny_mono go fun r s' back => ?_))))))
  match r, back with
  | .error x, back => exact back
  | .ok (.ret v), ⟨e, q⟩ =>
    subst e
    walk_at "xq"
end
end EvK
namespace Ev
open PySem PySem.Spec PyProof.Rows L2 ClX
/-! ### errors made as values -/
/-- the fields of an error, the last one first -/
def exFs (fl : List Str) (ds : List D) : List (Str × D) := (fl.zip ds).reverse
def tExv (nc : Nat) (fl : List Str) (ta : TfA) : TfE := fun Γ M post xp => ta Γ M (fun ds M1 => ds.length = fl.length ∧ ∀ a, post (.exc a nc (exFs fl ds)) M1) xp
def tExv0 (nc : Nat) : TfE := fun _ M post _ => ∀ a, post (.exc a nc []) M
section
variable {cs : CS} {X : Cx} {W : WX} {c c1 c2 c3 k j nc : Nat} {a b e o : Expr} {es : List Expr} {pos p p2 : Pos} {ta : TfA}
theorem exc_okv {P : Program} {w : World} {H : Hp} {h : Heap} {a C t0 : Addr} {d : Option Addr} (he : h.get? a = some ({ cls := .ref C, dict := d, data := .fields #[.ref t0, .none, .none, .none, .bool false, .none] } : Obj)) : ObjOk P w H h a (ExC (.ref C) d a) :=
  exc_ok (cv := .ref C) rfl he ⟨rfl, rfl⟩ rfl
/-- the call, its arguments known -/
theorem exv_call {C fI : Addr} {fd : FuncData} {ps : List Str} {sp : Sp} {u : U} {n : Nat} {H1 : Hp} {s1 : Shared} {σ : L2.St} {pins : List (Addr × Obj)} {us ws : List Value} {kw : List (Str × Value)} {fs : List (Str × D)} {gs : List (Str × V)} {vs : List V} {post : DP} {Q : VK}
    (T : OexC X.K C) (iC : PySem.W.findIn X.K (.ref C) "__init__" = some (some (.ref fI))) (tI : PySem.W.typeIn X.K (.ref fI) = some (.type "function")) (F1 : FnOk X.prog X.w X.K X.mg X.base CXz 1 fI fd ps sp) (hr : Room 2 X.A)
    (hC : cs.cls[nc]? = some (.ref C)) (A : Wd cs u n H1) (I1 : Inv X pins σ H1 s1) (rf : RepF u H1 fs gs) (rv : Vals vs ws) (hus : us.length ≤ sizeLine)
    (alone : kw = [] ∨ us = [])
    (hb : ∀ (s2 : Shared) (a : Addr), X.K.In s2.heap → BindsTo s2 fd ⟨.ref a :: us, kw⟩ (ps.zip (.ref a :: ws)))
    (hsp : ∀ (a : Addr) (Q' : VK) (E' : XK), H1 a = none → (∀ (v : V) (H2 : Hp) (d : Addr), v = .non → d ≠ a → H1 d = none → H2 a = some (exo a C (some d)) → H2 d = some (exd d gs) → upd (del H2 a) d (.xd gs) = upd H1 d (.xd gs) → Q' v H2) → sp (.ref a :: vs) (upd H1 a (exo a C none)) Q' E')
    (kn : KN cs u n H1 post Q) (q : ∀ a, post (.exc a nc fs) u.M) : wpAny (model X.prog X.w) X.A (call (.ref C) us kw) (EP X pins σ Q) X.xe s1 := by
  obtain ⟨nm, q0, N, bs, bm, sn, sub, ab, col, dd, k0, k1, k2, k3, k5, hC0, hbm⟩ := T.cls
  obtain ⟨hp, g, dr, tk, os⟩ := s1
  have hsz : hp.objs.size ≤ hp.objs.size + 1 := Nat.le_succ _
  have hn : H1 (hp.objs.size + 1) = none := I1.hok.fresh hsz
  have kk : ∀ b o, hp.get? b = some o → ((hp.push (PySem.W.kdv_tup us)).push (PySem.HandSPX.excO C hp.objs.size)).get? b = some o := fun b o e => Heap.get?_push_of_some _ (Heap.get?_push_of_some _ e)
  have hget : ((hp.push (PySem.W.kdv_tup us)).push (PySem.HandSPX.excO C hp.objs.size)).get? (hp.objs.size + 1) = some (PySem.HandSPX.excO C hp.objs.size) := by heap_get
  have I2 : Inv X pins σ (upd H1 (hp.objs.size + 1) (exo (hp.objs.size + 1) C none)) ⟨(hp.push (PySem.W.kdv_tup us)).push (PySem.HandSPX.excO C hp.objs.size), g, dr, tk, os⟩ :=
    I1.laid (t' := tk) (a := hp.objs.size + 1) (o := exo (hp.objs.size + 1) C none) (h' := (hp.push (PySem.W.kdv_tup us)).push (PySem.HandSPX.excO C hp.objs.size)) kk hsz (exo_ok hget)
  have r2 : Vals (V.ref (hp.objs.size + 1) :: vs) (Value.ref (hp.objs.size + 1) :: ws) := .cons rfl rv
  let Q' : VK := fun v H2 => v = .non ∧ ∃ d, d ≠ hp.objs.size + 1 ∧ H1 d = none ∧ H2 (hp.objs.size + 1) = some (exo (hp.objs.size + 1) C (some d)) ∧ H2 d = some (exd d gs) ∧ upd (del H2 (hp.objs.size + 1)) d (.xd gs) = upd H1 d (.xd gs)
  have hq := hsp (hp.objs.size + 1) Q' (fun _ _ _ => False) hn fun v H2 d e1 e2 e3 e4 e5 e6 => ⟨e1, d, e2, e3, e4, e5, e6⟩
  have turn : ∀ (r : Result) (s' : Shared), CR CXz X.stack X.prog X.w (upd H1 (hp.objs.size + 1) (exo (hp.objs.size + 1) C none)) ⟨(hp.push (PySem.W.kdv_tup us)).push (PySem.HandSPX.excO C hp.objs.size), g, dr, tk, os⟩ Q' (fun _ _ _ => False) r s' → PySem.W.InitBack (hp.objs.size + 1) (fun r s' => match r with | .ok (.ret v) => EP X pins σ Q v s' | .ok _ => False | .error e => X.xe e s') r s' := fun r s' hq' => by
    cases r with
    | error er => exact False.elim hq'
    | ok fl =>
      cases fl with
      | next => exact False.elim hq'
      | brk => exact False.elim hq'
      | cont => exact False.elim hq'
      | ret u0 =>
        obtain ⟨v, H2, os2, bare2, un2, hok2, rv0, ev, d, hda, hd1, ea, ed, eq2⟩ := hq'
        subst ev
        obtain ⟨h2, g2, d2, t2, os'⟩ := s'
        obtain ⟨t0, G, J, kG, ge, hoe, na⟩ := mk_end0 (d2 := d2) (t2 := t2) I1 hsz kk un2 hok2 os2 bare2 ea ed hd1
        rw [eq2] at J na
        have I3 := J.laidN (t' := t2) kG ge na (exc_okv (C := C) (d := some d) hoe)
        have kp : Keep H1 (upd (upd H1 d (.xd gs)) (hp.objs.size + 1) (ExC (.ref C) (some d) (hp.objs.size + 1))) := fun b o e => by
          rw [upd_ne (ne_of_none e hn), upd_ne (ne_of_none e hd1)]; exact e
        refine ⟨rv0, .ref (hp.objs.size + 1), _, I3, rfl, kn.keep (d := .exc (hp.objs.size + 1) nc fs) A kp ?_ (q _)⟩
        exact ⟨.ref C, some d, gs, rfl, A.notF hn, by rw [A.ks.1]; exact hC, upd_same, rf.go A kp.nx, .inr ⟨d, rfl, A.notF hd1, by rw [upd_ne hda]; exact upd_same⟩⟩
  have went := F1.run _ X.stack _ _ ⟨Value.ref (hp.objs.size + 1) :: us, kw⟩ (Value.ref (hp.objs.size + 1) :: ws) _ Q' (fun _ _ _ => False) (hr.make C us kw) (I2.env0.make C us kw) (hb _ _ I2.kIn) r2 hq
  have sup : ∀ Y : String, bm.contains (.type Y) = _ := fun Y => PySem.HandSPX.refsVE_contains Y bm hbm
  rcases alone with rfl | rfl
  · exact wpAny_call (PySem.HandSPX.call_own F.excBase_ValueError sup (I1.kIn _ _ hC0) (PySem.W.looks_findIn I1.kIn iC) (fun self => PySem.W.bind_fn I1.kIn self tI) hus (codeAny_mono went turn))
  · refine wpAny_call (EvK.run_call (up := bm) ⟨⟨_, _, _, _, _, _, _, _, _, _, _, _, _, _, I1.kIn _ _ hC0⟩, fun Y => ?_⟩ (PySem.W.looks_findIn I1.kIn iC) (fun self => PySem.W.bind_fn I1.kIn self tI) (codeAny_mono went turn))
    rw [List.contains_cons, sup Y]; rfl
theorem spE1_of {C a : Addr} {f : Str} {y : V} {H1 : Hp} {Q' : VK} {E' : XK} (ha : H1 a = none) (h : ∀ (v : V) (H2 : Hp) (d : Addr), v = .non → d ≠ a → H1 d = none → H2 a = some (exo a C (some d)) → H2 d = some (exd d [(f, y)]) → upd (del H2 a) d (.xd [(f, y)]) = upd H1 d (.xd [(f, y)]) → Q' v H2) :
    spE1 C f [.ref a, y] (upd H1 a (exo a C none)) Q' E' := ⟨a, y, rfl, upd_same, fun d hd ne => by
  rw [upd_ne ne] at hd
  exact h _ _ d rfl ne hd upd_same (by rw [upd_ne ne]; exact upd_same) (exo_done ha hd ne)⟩
theorem spE2_of {C a : Addr} {f g : Str} {y z : V} {H1 : Hp} {Q' : VK} {E' : XK} (ha : H1 a = none) (h : ∀ (v : V) (H2 : Hp) (d : Addr), v = .non → d ≠ a → H1 d = none → H2 a = some (exo a C (some d)) → H2 d = some (exd d [(g, z), (f, y)]) → upd (del H2 a) d (.xd [(g, z), (f, y)]) = upd H1 d (.xd [(g, z), (f, y)]) → Q' v H2) :
    spE2 C f g [.ref a, y, z] (upd H1 a (exo a C none)) Q' E' := ⟨a, y, z, rfl, upd_same, fun d hd ne => by
  rw [upd_ne ne] at hd
  exact h _ _ d rfl ne hd (by rw [upd_ne (Ne.symm ne)]; exact upd_same) upd_same (exo_done2 ha hd ne)⟩
structure Rk1 (P : Program) (w : World) (K : PySem.W.Frag) (mg : Str → Option Value) (base : Heap) (cs : CS) (x : Str) (nc : Nat) (f : Str) (ks : List Str) : Prop where
  ex : ∃ (C fI : Addr) (fd : FuncData) (ps : List Str), cs.cls[nc]? = some (.ref C) ∧ OexC K C ∧ PySem.W.findIn K (.ref C) "__init__" = some (some (.ref fI)) ∧ PySem.W.typeIn K (.ref fI) = some (.type "function") ∧ FnOk P w K mg base CXz 1 fI fd ps (spE1 C f) ∧ KwB K fd ps 1 ks [0] ∧ mg x = some (.ref C)
structure Rk2 (P : Program) (w : World) (K : PySem.W.Frag) (mg : Str → Option Value) (base : Heap) (cs : CS) (x : Str) (nc : Nat) (f g : Str) (ks : List Str) : Prop where
  ex : ∃ (C fI : Addr) (fd : FuncData) (ps : List Str), cs.cls[nc]? = some (.ref C) ∧ OexC K C ∧ PySem.W.findIn K (.ref C) "__init__" = some (some (.ref fI)) ∧ PySem.W.typeIn K (.ref fI) = some (.type "function") ∧ FnOk P w K mg base CXz 1 fI fd ps (spE2 C f g) ∧ KwB K fd ps 1 ks [0, 1] ∧ mg x = some (.ref C)
theorem len1 {α : Type} {l : List α} (h : l.length = 1) : ∃ x, l = [x] := by
  match l, h with
  | [x], _ => exact ⟨x, rfl⟩
theorem len2 {α : Type} {l : List α} (h : l.length = 2) : ∃ x y, l = [x, y] := by
  match l, h with
  | [x, y], _ => exact ⟨x, y, rfl⟩
theorem vals1 {v : V} {us : List Value} (h : Vals [v] us) : ∃ u, us = [u] := by
  cases h with
  | cons a b => cases b; exact ⟨_, rfl⟩
theorem vals2 {v v2 : V} {us : List Value} (h : Vals [v, v2] us) : ∃ u u2, us = [u, u2] := by
  cases h with
  | cons a b => cases b with
    | cons c d => cases d; exact ⟨_, _, rfl⟩
theorem px_exv1 {x f : Str} (R : Ra1 X.prog X.w X.K X.mg X.base cs x nc f) (hr : RoomG j X.A) (ha : PXA cs X W c (e :: es) ta) (hj : 2 ≤ j := by decide) (hg : Gl X x := by rfl) (hdb : (x == ("__debug__" : Str)) = false := by decide)
    (he : starEach (e :: es) X.env = (false, eval e X.env) :: starEach es X.env := by rfl) (hpl : (backTo pos (starEach es X.env)).any (·.1) = false := by rfl) : PX cs X W c (.Call (.Name x p) (e :: es) [] pos) (tExv nc [f] ta) := ⟨fun u n H σ Γ post xp Q A hn q kn kx => by
  obtain ⟨C, fI, fd, ps, hC, T, iC, tI, F, hb, hm⟩ := R.ex
  refine TW.mk fun pins s I => ?_
  refine wpAny_Call_Name_kw (ld_glob I hg hm (PySem.W.callWith_K (h₀ := X.base) I.ok.mod.kin T.kC (thn (ha.run u n H σ Γ _ xp (fun vs H1 => ∃ y, vs = [y] ∧ ∀ s1 w1, Inv X pins σ H1 s1 → RelV y w1 → wpAny (model X.prog X.w) X.A (call (.ref C) [w1]) (EP X pins σ Q) X.xe s1) A hn q (fun vs ds u1 H1 e1 B1 r1 ⟨hl, hS⟩ => ?_) kx pos pins s I) fun us s1 ⟨vs, H1, I1, r, y, ev, q⟩ => ⟨I1.kIn, ?_⟩) he hpl) hdb)
  · obtain ⟨d, rfl⟩ := len1 hl
    obtain ⟨y, rfl, ry⟩ := RepL.one r1
    refine ⟨y, rfl, fun s1 w1 I1 rw1 => ?_⟩
    exact exv_call (us := [w1]) (ws := [w1]) (vs := [y]) (fs := [(f, d)]) (gs := [(f, y)]) T iC tI F (hr.mono hj).room hC B1 I1 ⟨y, [], rfl, ry, rfl⟩ (.cons rw1 .nil) (by show 1 ≤ sizeLine; rw [sizeLine_eq]; omega) (.inl rfl) (fun s2 a hk => by
      have := hb s2 [.ref a, w1] hk (by
        have e := F.len [.ref a, y] _ (fun _ _ => True) (fun _ _ _ => False) (spE1_of (C := C) (a := a) (f := f) (y := y) (H1 := fun _ => none) rfl fun _ _ _ _ _ _ _ _ _ => trivial)
        simpa using e)
      simpa using this) (fun a Q' E' h0 h => spE1_of h0 h) (kn.go A.toWd e1 (Nat.le_refl _)) hS
  · subst ev
    obtain ⟨w1, rfl⟩ := vals1 r
    cases r with
    | cons ra _ => exact q s1 w1 I1 ra⟩
theorem px_exv2 {x f g : Str} (R : Ra2 X.prog X.w X.K X.mg X.base cs x nc f g) (hr : RoomG j X.A) (ha : PXA cs X W c (e :: es) ta) (hj : 2 ≤ j := by decide) (hg : Gl X x := by rfl) (hdb : (x == ("__debug__" : Str)) = false := by decide)
    (he : starEach (e :: es) X.env = (false, eval e X.env) :: starEach es X.env := by rfl) (hpl : (backTo pos (starEach es X.env)).any (·.1) = false := by rfl) : PX cs X W c (.Call (.Name x p) (e :: es) [] pos) (tExv nc [f, g] ta) := ⟨fun u n H σ Γ post xp Q A hn q kn kx => by
  obtain ⟨C, fI, fd, ps, hC, T, iC, tI, F, hb, hm⟩ := R.ex
  refine TW.mk fun pins s I => ?_
  refine wpAny_Call_Name_kw (ld_glob I hg hm (PySem.W.callWith_K (h₀ := X.base) I.ok.mod.kin T.kC (thn (ha.run u n H σ Γ _ xp (fun vs H1 => ∃ y z, vs = [y, z] ∧ ∀ s1 w1 w2, Inv X pins σ H1 s1 → RelV y w1 → RelV z w2 → wpAny (model X.prog X.w) X.A (call (.ref C) [w1, w2]) (EP X pins σ Q) X.xe s1) A hn q (fun vs ds u1 H1 e1 B1 r1 ⟨hl, hS⟩ => ?_) kx pos pins s I) fun us s1 ⟨vs, H1, I1, r, y, z, ev, q⟩ => ⟨I1.kIn, ?_⟩) he hpl) hdb)
  · obtain ⟨d, d2, rfl⟩ := len2 hl
    obtain ⟨y, z, rfl, ry, rz⟩ := RepL.two r1
    refine ⟨y, z, rfl, fun s1 w1 w2 I1 rw1 rw2 => ?_⟩
    exact exv_call (us := [w1, w2]) (ws := [w1, w2]) (vs := [y, z]) (fs := [(g, d2), (f, d)]) (gs := [(g, z), (f, y)]) T iC tI F (hr.mono hj).room hC B1 I1 ⟨z, _, rfl, rz, y, [], rfl, ry, rfl⟩ (.cons rw1 (.cons rw2 .nil)) (by show 2 ≤ sizeLine; rw [sizeLine_eq]; omega) (.inl rfl) (fun s2 a hk => by
      have := hb s2 [.ref a, w1, w2] hk (by
        have e := F.len [.ref a, y, z] _ (fun _ _ => True) (fun _ _ _ => False) (spE2_of (C := C) (a := a) (f := f) (g := g) (y := y) (z := z) (H1 := fun _ => none) rfl fun _ _ _ _ _ _ _ _ _ => trivial)
        simpa using e)
      simpa using this) (fun a Q' E' h0 h => spE2_of h0 h) (kn.go A.toWd e1 (Nat.le_refl _)) hS
  · subst ev
    obtain ⟨w1, w2, rfl⟩ := vals2 r
    cases r with
    | cons ra rb => cases rb with
      | cons rb _ => exact q s1 w1 w2 I1 ra rb⟩
variable {kws : List Keyword} {ks : List Str}
theorem px_exvK1 {x f : Str} (R : Rk1 X.prog X.w X.K X.mg X.base cs x nc f ks) (hr : RoomG j X.A) (ha : PXK cs X W c kws ta) (hj : 2 ≤ j := by decide) (hg : Gl X x := by rfl) (hdb : (x == ("__debug__" : Str)) = false := by decide) (hkl : ks.length = 1 := by rfl)
    (hall : (backToKw pos (keywordEach kws X.env)).all (·.1.isSome) = true := by rfl) (hks : (backToKw pos (keywordEach kws X.env)).filterMap (·.1) = ks := by rfl) (hpl : ((backTo pos (starEach [] X.env)).any (·.1) || (backToKw pos (keywordEach kws X.env)).any (·.1.isNone)) = false := by rfl) : PX cs X W c (.Call (.Name x p) [] kws pos) (tExv nc [f] ta) := ⟨fun u n H σ Γ post xp Q A hn q kn kx => by
  obtain ⟨C, fI, fd, ps, hC, T, iC, tI, F, hb, hm⟩ := R.ex
  refine TW.mk fun pins s I => ?_
  refine wpAny_Call_Name_kw (ld_glob I hg hm (PySem.W.callWith_KW0 (first := []) (h₀ := X.base) I.ok.mod.kin T.kC hall (thn ((ha.run u n H σ Γ _ xp (fun vs H1 => ∃ y, vs = [y] ∧ ∀ s1 w1, Inv X pins σ H1 s1 → RelV y w1 → wpAny (model X.prog X.w) X.A (call (.ref C) [] (ks.zip [w1])) (EP X pins σ Q) X.xe s1) A hn q (fun vs ds u1 H1 e1 B1 r1 ⟨hl, hS⟩ => ?_) kx).run pos pins s I) fun us s1 ⟨vs, H1, I1, r, y, ev, q⟩ => ⟨I1.kIn, ?_⟩) hpl) hdb)
  · obtain ⟨d, rfl⟩ := len1 hl
    obtain ⟨y, rfl, ry⟩ := RepL.one r1
    refine ⟨y, rfl, fun s1 w1 I1 rw1 => ?_⟩
    exact exv_call (us := []) (kw := ks.zip [w1]) (ws := [w1]) (vs := [y]) (fs := [(f, d)]) (gs := [(f, y)]) T iC tI F (hr.mono hj).room hC B1 I1 ⟨y, [], rfl, ry, rfl⟩ (.cons rw1 .nil) (Nat.zero_le _) (.inr rfl) (fun s2 a hk => by simpa [pick] using hb s2 [.ref a] [w1] hk rfl (by rw [hkl]; rfl)) (fun a Q' E' h0 h => spE1_of h0 h) (kn.go A.toWd e1 (Nat.le_refl _)) hS
  · subst ev
    obtain ⟨w1, rfl⟩ := vals1 r
    rw [hks]
    cases r with
    | cons ra _ => exact q s1 w1 I1 ra⟩
theorem px_exvK2 {x f g : Str} (R : Rk2 X.prog X.w X.K X.mg X.base cs x nc f g ks) (hr : RoomG j X.A) (ha : PXK cs X W c kws ta) (hj : 2 ≤ j := by decide) (hg : Gl X x := by rfl) (hdb : (x == ("__debug__" : Str)) = false := by decide) (hkl : ks.length = 2 := by rfl)
    (hall : (backToKw pos (keywordEach kws X.env)).all (·.1.isSome) = true := by rfl) (hks : (backToKw pos (keywordEach kws X.env)).filterMap (·.1) = ks := by rfl) (hpl : ((backTo pos (starEach [] X.env)).any (·.1) || (backToKw pos (keywordEach kws X.env)).any (·.1.isNone)) = false := by rfl) : PX cs X W c (.Call (.Name x p) [] kws pos) (tExv nc [f, g] ta) := ⟨fun u n H σ Γ post xp Q A hn q kn kx => by
  obtain ⟨C, fI, fd, ps, hC, T, iC, tI, F, hb, hm⟩ := R.ex
  refine TW.mk fun pins s I => ?_
  refine wpAny_Call_Name_kw (ld_glob I hg hm (PySem.W.callWith_KW0 (first := []) (h₀ := X.base) I.ok.mod.kin T.kC hall (thn ((ha.run u n H σ Γ _ xp (fun vs H1 => ∃ y z, vs = [y, z] ∧ ∀ s1 w1 w2, Inv X pins σ H1 s1 → RelV y w1 → RelV z w2 → wpAny (model X.prog X.w) X.A (call (.ref C) [] (ks.zip [w1, w2])) (EP X pins σ Q) X.xe s1) A hn q (fun vs ds u1 H1 e1 B1 r1 ⟨hl, hS⟩ => ?_) kx).run pos pins s I) fun us s1 ⟨vs, H1, I1, r, y, z, ev, q⟩ => ⟨I1.kIn, ?_⟩) hpl) hdb)
  · obtain ⟨d, d2, rfl⟩ := len2 hl
    obtain ⟨y, z, rfl, ry, rz⟩ := RepL.two r1
    refine ⟨y, z, rfl, fun s1 w1 w2 I1 rw1 rw2 => ?_⟩
    exact exv_call (us := []) (kw := ks.zip [w1, w2]) (ws := [w1, w2]) (vs := [y, z]) (fs := [(g, d2), (f, d)]) (gs := [(g, z), (f, y)]) T iC tI F (hr.mono hj).room hC B1 I1 ⟨z, _, rfl, rz, y, [], rfl, ry, rfl⟩ (.cons rw1 (.cons rw2 .nil)) (Nat.zero_le _) (.inr rfl) (fun s2 a hk => by simpa [pick] using hb s2 [.ref a] [w1, w2] hk rfl (by rw [hkl]; rfl)) (fun a Q' E' h0 h => spE2_of h0 h) (kn.go A.toWd e1 (Nat.le_refl _)) hS
  · subst ev
    obtain ⟨w1, w2, rfl⟩ := vals2 r
    rw [hks]
    cases r with
    | cons ra rb => cases rb with
      | cons rb _ => exact q s1 w1 w2 I1 ra rb⟩
/-- an error class without an own __init__, made of nothing -/
structure Rn (K : PySem.W.Frag) (mg : Str → Option Value) (cs : CS) (x : Str) (nc : Nat) : Prop where
  ex : ∃ (C : Addr) (bmB : List Value) (B newId initId : String), ExcBaseFacts B newId initId bmB ∧ cs.cls[nc]? = some (.ref C) ∧ PySem.W.excIn K C bmB newId = true ∧ PySem.W.keepIn K (.ref C) = true ∧ mg x = some (.ref C)
theorem px_exv0 {x : Str} (R : Rn X.K X.mg cs x nc) (hg : Gl X x := by rfl) (hdb : (x == ("__debug__" : Str)) = false := by decide) : PX cs X W 0 (.Call (.Name x p) [] [] pos) (tExv0 nc) := ⟨fun u n H σ Γ post xp Q A hn q kn kx => by
  obtain ⟨C, bmB, B, newId, initId, F, hC, qx, kC, gC⟩ := R.ex
  refine TW.mk fun pins s I => ?_
  refine wpAny_Call_Name_kw (ld_glob I hg gC (PySem.W.callWith_K0 I.kIn kC ?_) hdb)
  show wpAny _ _ (call (.ref C) []) _ _ _
  obtain ⟨bm, N, nm, qn, bs, hdct, sn, sub, ab, col, dd, k0, k1, k2, k3, k5, mN, hC0, hN, hni, T⟩ := exc_obj I.kIn qx
  refine wpAny_call_exc_subT F T hC0 hN hni (fun h' a hm => ?_) (Nat.zero_le _)
  have hn0 : H a = none := I.hok.gone hm.new
  obtain ⟨t, ht, _, _⟩ := hm.there
  have I2 := I.laidN (o := ExC (.ref C) none a) (t' := s.toks) hm.keeps hm.new hn0 (exc_ok (cv := .ref C) rfl ht ⟨rfl, rfl⟩ rfl)
  exact ⟨.ref a, _, I2, rfl, kn.keep A.toWd (Keep.new hn0) (d := .exc a nc []) ⟨.ref C, none, [], rfl, A.notF hn0, by rw [A.ks.1]; exact hC, upd_same, rfl, .inl ⟨rfl, rfl⟩⟩ (q a)⟩⟩
/-! ### facts in bulk -/
def oexB (K : PySem.W.Frag) (C : Addr) : Bool := match K.lookup C with
  | some ⟨.type "type", _, .cls cd, sl⟩ => (match cd.mro, sl.toList with
    | .ref C' :: bm, [_, _, _, _, some (.builtin n), _] => C' == C && n == "ValueError.__new__" && !cd.hasDel && cd.hasDict && PySem.HandSPX.refsVE bm
    | _, _ => false)
  | _ => false
theorem oexB_ok {K : PySem.W.Frag} {C : Addr} (q : oexB K C = true) : ∃ nm q N bs bm sn sub ab col dd k0 k1 k2 k3 k5, K.lookup C = some (excClassObj nm q C N bs bm true sn sub ab col dd k0 k1 k2 k3 k5 "ValueError.__new__") ∧ PySem.HandSPX.refsVE bm = true := by
  unfold oexB at q
  split at q
  · rename_i dd cd sl ho
    split at q
    · rename_i C' bm k0 k1 k2 k3 n k5 hm hs
      simp only [Bool.and_eq_true, beq_iff_eq, Bool.not_eq_true'] at q
      obtain ⟨⟨⟨⟨rfl, rfl⟩, hdel⟩, hdi⟩, ht⟩ := q
      obtain ⟨nm, bs, mro, ns, qn, hd, sn, sub, ab, col, del⟩ := cd
      dsimp only at hm hdel hdi
      subst hm hdel hdi
      have hsl : sl = #[k0, k1, k2, k3, some (.builtin "ValueError.__new__"), k5] := by
        obtain ⟨l⟩ := sl
        simp only at hs
        rw [hs]
      subst hsl
      exact ⟨nm, qn, ns, bs, bm, sn, sub, ab, col, dd, k0, k1, k2, k3, k5, ho, ht⟩
    · cases q
  · cases q
/-- what is asked of each error class -/
def excB (K : PySem.W.Frag) (C : Addr) : Bool := xfB K C && decide (PySem.W.findIn K (.ref C) "__class__" = some (some (.builtin "object.__class__"))) && decide (PySem.W.mroIn K C (.type "object") = some true) && oexB K C && decide (PySem.W.findIn K (.ref C) "__setattr__" = some (some (.builtin "object.__setattr__"))) && decide (PySem.W.typeIn K (.ref C) = some (.type "type")) && PySem.W.keepIn K (.ref C)
theorem excB_oex {K : PySem.W.Frag} {C : Addr} (h : excB K C = true) : OexC K C := by
  unfold excB at h
  simp only [Bool.and_eq_true, decide_eq_true_eq] at h
  obtain ⟨⟨⟨⟨⟨⟨h1, h2⟩, h3⟩, h4⟩, h5⟩, h6⟩, h7⟩ := h
  exact ⟨oexB_ok h4, h5, (xfB_ok h1).exC, h6, h7⟩
theorem excB_exc {K : PySem.W.Frag} {C : Addr} (hn : PySem.W.specialIn K (.builtin "object.__class__") "__get__" = some (some (.builtin "getset_descriptor.__get__"))) (ht : PySem.W.takesIn K (.builtin "object.__class__") = some true) (h : excB K C = true) : L2.ExcC K C := by
  unfold excB at h
  simp only [Bool.and_eq_true, decide_eq_true_eq] at h
  obtain ⟨⟨⟨⟨⟨⟨h1, h2⟩, h3⟩, h4⟩, h5⟩, h6⟩, h7⟩ := h
  have x := xfB_ok h1
  exact ⟨x.ga, x.gg, x.exC, x.hdC, h2, hn, ht, h3⟩
theorem excB_xf {K : PySem.W.Frag} {C : Addr} (h : excB K C = true) : XfC K C := by
  unfold excB at h
  simp only [Bool.and_eq_true, decide_eq_true_eq] at h
  obtain ⟨⟨⟨⟨⟨⟨h1, h2⟩, h3⟩, h4⟩, h5⟩, h6⟩, h7⟩ := h
  exact xfB_ok h1
theorem cls_bulk {l : List Addr} {ts : List String} {T : List (Addr × Str)} {c : Nat} {C : Addr} (e : l[c]? = some C) : (⟨l.map V.ref ++ ts.map V.ty, T⟩ : CS).cls[c]? = some (.ref C) := by
  show (l.map V.ref ++ ts.map V.ty)[c]? = _
  have hc' : c < l.length := (List.getElem?_eq_some_iff.mp e).1
  rw [List.getElem?_append_left (by rw [List.length_map]; exact hc'), List.getElem?_map, e]; rfl
theorem isx_bulk {K : PySem.W.Frag} {T : List (Addr × Str)} {l : List Addr} {ts : List String} {sub : Nat → Nat → Bool} (hn : PySem.W.specialIn K (.builtin "object.__class__") "__get__" = some (some (.builtin "getset_descriptor.__get__"))) (ht : PySem.W.takesIn K (.builtin "object.__class__") = some true) (hl : l.all (excB K) = true)
    (hk : (List.range l.length).all (fun i => (List.range (l.length + ts.length)).all fun k => decide ((l[i]?).bind (fun C => ((l.map Value.ref ++ ts.map Value.type)[k]?).bind fun v => PySem.W.kitOne K (.ref C) v) = some (sub i k))) = true) :
    IsxK K ⟨l.map V.ref ++ ts.map V.ty, T⟩ (List.range l.length) (List.range (l.length + ts.length)) sub := ⟨fun c hc => by
  have hc' : c < l.length := List.mem_range.mp hc
  have e : l[c]? = some l[c] := List.getElem?_eq_getElem hc'
  refine ⟨l[c], cls_bulk e, excB_exc hn ht (List.all_eq_true.mp hl _ (List.getElem_mem hc')), fun k hk' => ?_⟩
  have hkl : k < l.length + ts.length := List.mem_range.mp hk'
  have z := of_decide_eq_true (List.all_eq_true.mp (List.all_eq_true.mp hk c hc) k hk')
  rw [e, Option.bind_some] at z
  by_cases h : k < l.length
  · have ek : l[k]? = some l[k] := List.getElem?_eq_getElem h
    refine ⟨.ref l[k], .ref l[k], cls_bulk ek, fun u r => r, ?_⟩
    rw [List.getElem?_append_left (by rw [List.length_map]; exact h), List.getElem?_map, ek] at z
    exact z
  · have h2 : k - l.length < ts.length := by omega
    have ek : ts[k - l.length]? = some ts[k - l.length] := List.getElem?_eq_getElem h2
    refine ⟨.ty ts[k - l.length], .type ts[k - l.length], ?_, fun u r => r, ?_⟩
    · show (l.map V.ref ++ ts.map V.ty)[k]? = _
      rw [List.getElem?_append_right (by rw [List.length_map]; omega), List.length_map, List.getElem?_map, ek]; rfl
    · rw [List.getElem?_append_right (by rw [List.length_map]; omega), List.length_map, List.getElem?_map, ek] at z
      exact z⟩
theorem xf_bulk {K : PySem.W.Frag} {T : List (Addr × Str)} {l : List Addr} {ts : List String} {f : Str} {cl : List Nat} (hl : l.all (excB K) = true) (hf : cl.all (fun c => decide ((l[c]?).bind (fun C => PySem.W.findIn K (.ref C) f) = some none)) = true) : XfK K ⟨l.map V.ref ++ ts.map V.ty, T⟩ f cl := ⟨fun c hc => by
  have z := of_decide_eq_true (List.all_eq_true.mp hf c hc)
  cases e : l[c]? with
  | none => rw [e] at z; cases z
  | some C =>
    rw [e] at z
    exact ⟨C, cls_bulk e, excB_xf (List.all_eq_true.mp hl _ (List.mem_of_getElem? e)), z⟩⟩
end
end Ev
-- EvAN
namespace Ev
open PySem PySem.Spec PyProof.Rows L2 ClX
/-! ### def __init__(self, *words) -/
/-- a method's promise of whatever number of values, where no display of a value is under way -/
structure FnS (P : Program) (w : World) (K : PySem.W.Frag) (mg : Str → Option Value) (base : Heap) (k : Nat) (f : Addr) (sp : Sp) : Prop where
  go : ∀ (A : Around) (outer : List Env) (s : Shared) (H : Hp) (us : List Value) (vs : List V) (Q : VK) (E : XK), RoomG k A → Env0 P w K mg base A outer s H → Vals vs us → sp vs H Q E → codeAny (model P w) A (.call (.ref f) ⟨us, []⟩) (CR (L2.CX P w) outer P w H s Q E) s
def spS (cs : CS) (c : Nat) (S : SpX) : Sp := fun vs H Q E => ∃ u n d ds post xp, Wd cs u n H ∧ n + c ≤ lim ∧ RepL u H (d :: ds) vs ∧ ds.length ≤ 1000 ∧ S [d, .tup ds] u.M post xp ∧ KN cs u (n + c) H post Q ∧ KE cs u (n + c) H xp E
section
variable {P : Program} {w : World} {K : PySem.W.Frag} {mg : Str → Option Value} {base : Heap} {cs : CS}
theorem fnS_of {x qual slf pv : Str} {st : Stmt} {f : Addr} {fd : FuncData} {N : List Str} {k c c0 : Nat} {S : SpX} {t : TfS} (F : Fun K x qual st f fd) (Sc : FnScope N [slf, pv] (defScope st)) (hN : 2 ≤ N.length)
    (hb : ∀ (u : Value) (rest : List Value), bindArgs fd ⟨u :: rest, []⟩ = (newTuple rest >>= fun t => pure [(slf, u), (pv, t)]))
    (hbody : ∀ (cdv : Value) (A : Around) (outer : List Env) (s : Shared) (H : Hp) (E : XK), RoomG k (A.deeper (envOfC qual (defScope st) s.heap.objs.size f cdv)) → PSU cs (CxB P w K mg base N qual st f cdv A outer s H E) (WE E) c0 (defBody st) t) (hc : c0 ≤ c)
    (hS : ∀ (d : D) (ds : List D) (M : Store) (post : DP) (xp : XP), S [d, .tup ds] M post xp → t (G0 N [d, .tup ds]) M { nx := fun _ M' => post .non M', rt := post, xx := fun _ => xp }) : FnS P w K mg base (k + 1) f (spS cs c S) := by
  refine ⟨fun A outer s H us vs Q E hr e0 rv ⟨u, n, d, ds, post, xp, A0, hn, rl, hz, hS', kn, ke⟩ => ?_⟩
  obtain ⟨v0, vr, rfl, rd, rds⟩ := rl.uncons
  obtain ⟨oc, od, kV, doc, pm, an, cdv, ct, osl, rfl, lk, hcd⟩ := F.ex
  cases rv with
  | @cons _ u0 _ ur r0 rr =>
  have hl : ur.length ≤ sizeLine := by
    have e1 := rr.length
    have e2 := rds.length
    rw [sizeLine_eq]; omega
  have free : H s.heap.objs.size = none := e0.hok.fresh (Nat.le_refl _)
  refine StX.run_bnd (ps := [slf, pv]) lk hcd Sc hr.room e0 (G := fun xs H2 => ∃ p, H p = none ∧ xs = [v0, V.ref p] ∧ H2 = upd H p (.tup vr)) (fun A' Ex Q' next => ?_) fun s2 H2 xs ⟨p, hp, ex, eH⟩ hr' => ?_
  · rw [hb]
    refine wpAny_bind (wpAny_newTuple (wpAny_pure ?_) hl)
    have made : ObjOk P w (upd H s.heap.objs.size (.tup vr)) (s.heap.push ({ cls := .type "tuple", data := .seq ur.toArray } : Obj)) s.heap.objs.size (.tup vr) :=
      ⟨by have e1 := rr.length; omega, ur, rr, ⟨_, Heap.get?_push_size _ rfl, rfl, _, rfl⟩⟩
    have un := StX.un_laid (fs := frs outer) (s := s) (o := ({ cls := .type "tuple", data := .seq ur.toArray } : Obj)) (u := .tup vr) free
    exact next _ _ [v0, V.ref s.heap.objs.size] [u0, Value.ref s.heap.objs.size] (StX.env0_laid e0 made) un rfl (fun e s' z => StX.cxUp outer s H { s with heap := s.heap.push ({ cls := .type "tuple", data := .seq ur.toArray } : Obj) } (upd H s.heap.objs.size (.tup vr)) E e s' un (fun b o q => Heap.get?_push_of_some _ q) rfl z) (.cons r0 (.cons rfl .nil)) rfl ⟨_, free, rfl, rfl⟩
  · subst ex eH
    have kp : Keep H (upd H p (.tup vr)) := Keep.new hp
    have rep : RepL u (upd H p (.tup vr)) [d, .tup ds] [v0, V.ref p] := RepL.cons (rd.go A0 kp.nx) (RepL.cons ⟨p, vr, rfl, A0.notF hp, upd_same, rds.go A0 kp.nx⟩ RepL.nil)
    refine ⟨_, twss_pss _ _, ?_⟩
    refine (hbody cdv A outer s2 _ E ⟨hr', hr.gd⟩).run u n _ _ _ _ _ (at_start (kp.wd A0) rep hN) (by omega) (hS d ds u.M post xp hS') ⟨fun Γ σ u' H' e B q => kn .non .non u' H' (kp.nx.trans A0 e) (B.toWd.up (by omega)) rfl q, fun v d u' H' e B r q => kn v d u' H' (kp.nx.trans A0 e) (B.up (by omega)) r q, fun _ _ _ _ _ _ q => q.elim, fun _ _ _ _ _ _ q => q.elim, fun cls od c fs Γ σ u' H' e B r q => ke cls od c fs u' H' (kp.nx.trans A0 e) (B.toWd.up (by omega)) r q⟩
end
/-- a class that may be made by its name, of whatever number of values -/
structure MkS (P : Program) (w : World) (K : PySem.W.Frag) (mg : Str → Option Value) (base : Heap) (cs : CS) (k : Nat) (x : Str) (n : Nat) (c : Nat) (S : SpX) : Prop where
  ex : ∃ (C f : Addr), cs.cls[n]? = some (.ref C) ∧ Mk K C f ∧ FnS P w K mg base k f (spS cs c S) ∧ mg x = some (.ref C)
/-- what is wanted of such a making, its values known -/
def mkSK (nc : Nat) (S : SpX) (post : DP) (xp : XP) (ds : List D) (M1 : Store) : Prop := ds.length ≤ 1000 ∧ S [.loc M1.length, .tup ds] (M1 ++ [.ins nc []]) (fun v M2 => v = .non ∧ ∃ fs, M2 = M1 ++ [.ins nc fs] ∧ D.ltF M1.length fs ∧ ∀ a, post (.obj a nc fs) M1) (fun c fs M2 => (∃ q, M2 = M1 ++ [q]) ∧ D.ltF M1.length fs ∧ xp c fs M1)
def tMkS (nc : Nat) (S : SpX) (ta : TfA) : TfE := fun Γ M post xp => ta Γ M (fun ds M1 => mkSK nc S post xp ds M1) xp
/-- the items of a list or a tuple that is spread -/
def sprd : D → Option (List D)
  | .lst ds => some ds
  | .tup ds => some ds
  | _ => none
def tSpr (te : TfE) : TfA := fun Γ M post xp => te Γ M (fun d M1 => ∃ ds, sprd d = some ds ∧ post ds M1) xp
def tSpr2 (te te2 : TfE) : TfA := fun Γ M post xp => te Γ M (fun d M1 => te2 Γ M1 (fun d2 M2 => ∃ ds es, sprd d = some ds ∧ sprd d2 = some es ∧ post (ds ++ es) M2) xp) xp
section
variable {cs : CS} {X : Cx} {W : WX} {c c1 c2 c3 : Nat} {a b e : Expr} {es : List Expr} {p pos p2 p3 : Pos} {k j nc : Nat} {S : SpX}
theorem mkS_sp {u : U} {n : Nat} {H : Hp} {σ : L2.St} {ds : List D} {vs : List V} {x dx C : Addr} {Q : VK} {post : DP} {xp : XP} (A : Wd cs u n H) (hn : n + c2 ≤ lim) (r : RepL u H ds vs) (hC : cs.cls[nc]? = some (.ref C)) (hS : mkSK nc S post xp ds u.M)
    (kn : KN cs u (n + c2) H post Q) (kx : KX cs u (n + c2) H σ xp W) (hx : H x = none) (hdx : H dx = none) (hne : dx ≠ x) :
    spS cs c2 S (.ref x :: vs) (upd (upd H dx (.own x)) x (.ins C dx [])) (fun v H2 => v = .non ∧ Q (.ref x) H2) (fun cls d H' => W cls d σ H') := by
  obtain ⟨hl, hS⟩ := hS
  obtain ⟨k, A1⟩ := made_wd A hC hx hdx hne
  have x1 : Nx u H (u.add x (.ins nc [])) (upd (upd H dx (.own x)) x (.ins C dx [])) := add_nx A k hx
  have mu : (u.add x (.ins nc [])).μ[u.M.length]? = some x := add_mu A
  refine ⟨u.add x (.ins nc []), n, .loc u.M.length, ds, _, _, A1, hn, RepL.cons ⟨x, rfl, mu⟩ (RepL.mono (x1.cy A) _ _ r), hl, hS, fun v d u2 H2 e2 B2 r2 ⟨ed, fs, hM, hlt, q⟩ => ?_, fun cls od c fs u2 H2 e2 B2 r2 ⟨⟨c', hM⟩, hlt, q⟩ => ?_⟩
  · subst ed
    obtain ⟨y1, y2, dn⟩ := drop_last A k hx e2 A1 B2 hM
    have hc : u2.M[u.M.length]? = some (.ins nc fs) := by rw [hM]; simp
    obtain ⟨C2, dx2, us, hC2, g, rf⟩ := B2.cell _ x _ (e2.mu _ _ mu) hc
    exact ⟨r2, kn (.ref x) (.obj x nc fs) u H2 y1 y2 ⟨C2, dx2, us, rfl, A.notF hx, by rw [← (x1.trans A e2).k]; exact hC2, g, RepF.dn dn _ _ hlt rf⟩ (q x)⟩
  · obtain ⟨y1, y2, dn⟩ := drop_last A k hx e2 A1 B2 hM
    obtain ⟨Cx, us, h1, h2, h3, h4⟩ := r2
    exact kx cls od c fs u H2 y1 y2 ⟨Cx, us, by rw [← (x1.trans A e2).k]; exact h1, h2, RepF.dn dn _ _ hlt h3, h4.imp id fun ⟨dd, z1, z2, z3⟩ => ⟨dd, z1, fun z => z2 (dn.F dd z), z3⟩⟩ q
theorem makeS_run {f C : Addr} {pins : List (Addr × Obj)} {σ : L2.St} {H : Hp} {s : Shared} {Q : VK} {us : List Value} {vs : List V} (F : FnS X.prog X.w X.K X.mg X.base k f (spS cs c2 S)) (hr : RoomG (k + 1) X.A) (tk : Takes X W) (M : Mk X.K C f) (I : Inv X pins σ H s) (r : Vals vs us)
    (h : ∀ x dx, H x = none → H dx = none → dx ≠ x → spS cs c2 S (.ref x :: vs) (upd (upd H dx (.own x)) x (.ins C dx [])) (fun v H2 => v = .non ∧ Q (.ref x) H2) (fun cls d H' => W cls d σ H')) : wpAny (model X.prog X.w) X.A (call (.ref C) us) (EP X pins σ Q) X.xe s := by
  have hq := h (s.heap.objs.size + 1) s.heap.objs.size (I.hok.fresh (Nat.le_succ _)) (I.hok.fresh (Nat.le_refl _)) (Nat.ne_of_lt (Nat.lt_succ_self _))
  have J := Inv.made (C := C) I
  refine wpAny_call (make_map (f := f) I.kIn M.makes M.init (beq_iff_eq.mp M.fn) (codeAny_mono (F.go _ X.stack _ _ (.ref (s.heap.objs.size + 1) :: us) (.ref (s.heap.objs.size + 1) :: vs) _ _ (hr.make C us []) (J.env0.make C us []) (.cons rfl r) hq) fun r' s' hq' => ?_))
  have hh := back_g (fun e z => takes_call tk J z) J hq'
  cases r' with
  | error e => exact hh
  | ok fl => cases fl with
    | next => exact hh.elim
    | brk => exact hh.elim
    | cont => exact hh.elim
    | ret u =>
      obtain ⟨v, H', J2, rv, ev, q⟩ := hh
      subst ev
      exact ⟨rv, .ref (s.heap.objs.size + 1), H', J2, rfl, q⟩
/-- C(e, ..) -/
theorem px_mkS {x : Str} {ta : TfA} (F : MkS X.prog X.w X.K X.mg X.base cs k x nc c2 S) (hr : RoomG j X.A) (tk : Takes X W) (ha : PXA cs X W c1 (e :: es) ta) (hk : k + 1 ≤ j := by decide) (hg : Gl X x := by rfl) (hdb : (x == ("__debug__" : Str)) = false := by decide)
    (he : starEach (e :: es) X.env = (false, eval e X.env) :: starEach es X.env := by rfl) (hpl : (backTo pos (starEach es X.env)).any (·.1) = false := by rfl) : PX cs X W (c1 + c2) (.Call (.Name x p) (e :: es) [] pos) (tMkS nc S ta) := ⟨fun u n H σ Γ post xp Q A hn q kn kx => by
  obtain ⟨C, f, hC, M, F, hm⟩ := F.ex
  refine TW.mk fun pins s I => ?_
  refine wpAny_Call_Name_kw (ld_glob I hg hm (PySem.W.callWith_K (h₀ := X.base) I.ok.mod.kin M.kp (thn (ha.run u n H σ Γ _ xp (fun vs H1 => ∀ x' dx, H1 x' = none → H1 dx = none → dx ≠ x' → spS cs c2 S (.ref x' :: vs) (upd (upd H1 dx (.own x')) x' (.ins C dx [])) (fun v H2 => v = .non ∧ Q (.ref x') H2) (fun cls d H' => W cls d σ H')) A (by omega) q (fun vs ds u1 H1 e1 B1 r1 hS x' dx hx hdx hne => mkS_sp B1 (by omega) r1 hC hS (kn.go A.toWd e1 (by omega)) (kx.go A.toWd e1 (by omega)) hx hdx hne) (kx.le (by omega)) pos pins s I) fun us s1 ⟨vs, H1, I1, r, q⟩ => ⟨I1.kIn, ?_⟩) he hpl) hdb)
  exact makeS_run F (hr.mono hk) tk M I1 r q⟩
/-- C() -/
theorem px_mkS0 {x : Str} (F : MkS X.prog X.w X.K X.mg X.base cs k x nc c2 S) (hr : RoomG j X.A) (tk : Takes X W) (hk : k + 1 ≤ j := by decide) (hg : Gl X x := by rfl) (hdb : (x == ("__debug__" : Str)) = false := by decide) : PX cs X W c2 (.Call (.Name x p) [] [] pos) (tMkS nc S tNil) := ⟨fun u n H σ Γ post xp Q A hn q kn kx => by
  obtain ⟨C, f, hC, M, F, hm⟩ := F.ex
  refine TW.mk fun pins s I => ?_
  exact wpAny_Call_Name_kw (ld_glob I hg hm (PySem.W.callWith_K0 I.kIn M.kp (makeS_run (vs := []) (us := []) F (hr.mono hk) tk M I .nil fun x' dx hx hdx hne => mkS_sp (vs := []) A.toWd hn RepL.nil hC q kn kx hx hdx hne)) hdb)⟩
theorem sprd_rep {u : U} {n : Nat} {H : Hp} {d : D} {ds : List D} {v : V} (A : Wd cs u n H) (h : sprd d = some ds) (r : Rep u H d v) : ∃ q xs, v = .ref q ∧ (SqT X.K H q xs ∨ SqL X.K H q xs) ∧ RepL u H ds xs := by
  cases d <;> try (cases h; done)
  case tup es =>
    cases h
    obtain ⟨q, vs, ev, f, g, rl⟩ := r.tupE
    exact ⟨q, vs, ev, .inl (SqT.of g), rl⟩
  case lst es =>
    cases h
    obtain ⟨q, vs, ev, f, g, rl⟩ := r.lstE
    exact ⟨q, vs, ev, .inr (SqL.of g), rl⟩
/-- C(*e) -/
theorem px_mkSt {x : Str} {te : TfE} (F : MkS X.prog X.w X.K X.mg X.base cs k x nc c2 S) (hr : RoomG j X.A) (tk : Takes X W) (he : PX cs X W c1 e te) (hk : k + 1 ≤ j := by decide) (hg : Gl X x := by rfl) (hdb : (x == ("__debug__" : Str)) = false := by decide)
    (hst : starEach [.Starred e p2] X.env = [(true, eval e X.env)] := by rfl) : PX cs X W (c1 + c2) (.Call (.Name x p) [.Starred e p2] [] pos) (tMkS nc S (tSpr te)) := ⟨fun u n H σ Γ post xp Q A hn q kn kx => by
  obtain ⟨C, f, hC, M, F, hm⟩ := F.ex
  refine TW.mk fun pins s I => ?_
  refine wpAny_Call_Name_kw (ld_glob I hg hm (PySem.W.callWith_S (h₀ := X.base) I.ok.mod.kin M.kp (thn (he.run u n H σ Γ _ xp (fun v H1 => ∃ q xs, v = .ref q ∧ (SqT X.K H1 q xs ∨ SqL X.K H1 q xs) ∧ ∀ x' dx, H1 x' = none → H1 dx = none → dx ≠ x' → spS cs c2 S (.ref x' :: xs) (upd (upd H1 dx (.own x')) x' (.ins C dx [])) (fun v H2 => v = .non ∧ Q (.ref x') H2) (fun cls d H' => W cls d σ H')) A (by omega) q (fun v d u1 H1 e1 B1 r1 ⟨ds, hd, hS⟩ => ?_) (kx.le (by omega)) pins s I) fun v s1 ⟨y, H1, I1, ry, a, xs, ey, hxs, q⟩ => ?_) hst) hdb)
  · obtain ⟨a, xs, ev, hxs, rl⟩ := sprd_rep (X := X) B1 hd r1
    exact ⟨a, xs, ev, hxs, fun x' dx hx hdx hne => mkS_sp B1 (by omega) rl hC hS (kn.go A.toWd e1 (by omega)) (kx.go A.toWd e1 (by omega)) hx hdx hne⟩
  · subst ey
    obtain rfl : v = Value.ref a := ry
    exact StX.star_any I1 hxs fun us s2 I2 rv => ⟨I2.kIn, makeS_run F (hr.mono hk) tk M I2 rv q⟩⟩
/-- *e ahead of other items -/
def tStarA (te : TfE) (ta : TfA) : TfA := fun Γ M post xp => te Γ M (fun d M1 => ∃ xs, sprd d = some xs ∧ ta Γ M1 (fun ys M2 => post (xs ++ ys) M2) xp) xp
theorem pxa_star {te : TfE} {ta : TfA} (he : PX cs X W c1 e te) (ha : PXA cs X W c2 es ta) (hs : starEach (.Starred e p :: es) X.env = (true, eval e X.env) :: starEach es X.env := by rfl) : PXA cs X W (c1 + c2) (.Starred e p :: es) (tStarA te ta) := ⟨fun u n H σ Γ post xp Q A hn q kn kx => by
  refine twa_of (StX.pa_star (tw_pe X e) (twa_pa X es) hs) ?_
  refine he.run u n H σ Γ _ xp _ A (by omega) q (fun v d u1 H1 e1 B1 r1 ⟨xs, hd, q1⟩ => ?_) (kx.le (by omega))
  obtain ⟨a, vs, ev, hx, rl⟩ := sprd_rep (X := X) B1 hd r1
  refine ⟨a, vs, ev, hx, ?_⟩
  refine ha.run u1 (n + c1) H1 σ Γ _ xp _ (A.step e1 B1) (by omega) q1 (fun ws ys u2 H2 e2 B2 r2 q2 => ?_) (kx.go A.toWd e1 (by omega))
  exact kn _ _ u2 H2 (e1.trans A.toWd e2) (B2.up (by omega)) ((rl.go B1 e2).append r2) q2⟩
theorem evalArgs_two {M : Model} {A : Around} {E : Value → Shared → Prop} {s : Shared} {f : Value} {x : Sem Value} {y : Bool × Sem Value} {rest : List (Bool × Sem Value)} {Q : Args → Shared → Prop}
    (h : wpAny M A (spliced ((true, x) :: y :: rest)) (fun vs s' => Q ⟨vs, []⟩ s') E s) : wpAny M A (evalArgs f true ((true, x) :: y :: rest) []) Q E s := by
  generalize hsp : spliced ((true, x) :: y :: rest) = sp at h
  unfold evalArgs
  rw [hsp]
  show wpAny M A (sp >>= _) Q E s
  refine wpAny_bind (wpAny_mono h (fun vs s' q => ?_) fun _ _ z => z)
  wp_walk
  exact q
/-- C(*a, b, ..), b may be spread too -/
theorem px_mkSt2 {x : Str} {ta : TfA} (F : MkS X.prog X.w X.K X.mg X.base cs k x nc c2 S) (hr : RoomG j X.A) (tk : Takes X W) (ha : PXA cs X W c1 (.Starred a p2 :: b :: es) ta) {bb : Bool} (hk : k + 1 ≤ j := by decide) (hg : Gl X x := by rfl) (hdb : (x == ("__debug__" : Str)) = false := by decide)
    (hst : backTo pos (starEach (.Starred a p2 :: b :: es) X.env) = (true, (do let v ← eval a X.env; standAt pos; pure v)) :: (bb, (if bb then (do let v ← eval (match b with | .Starred q _ => q | q => q) X.env; standAt pos; pure v) else eval b X.env)) :: backTo pos (starEach es X.env) := by rfl) : PX cs X W (c1 + c2) (.Call (.Name x p) (.Starred a p2 :: b :: es) [] pos) (tMkS nc S ta) := ⟨fun u n H σ Γ post xp Q A hn q kn kx => by
  obtain ⟨C, f, hC, M, F, hm⟩ := F.ex
  refine TW.mk fun pins s I => ?_
  refine wpAny_Call_Name_kw (ld_glob I hg hm ?_ hdb)
  have run := ha.run u n H σ Γ _ xp (fun vs H1 => ∀ x' dx, H1 x' = none → H1 dx = none → dx ≠ x' → spS cs c2 S (.ref x' :: vs) (upd (upd H1 dx (.own x')) x' (.ins C dx [])) (fun v H2 => v = .non ∧ Q (.ref x') H2) (fun cls d H' => W cls d σ H')) A (by omega) q (fun vs ds u1 H1 e1 B1 r1 hS x' dx hx hdx hne => mkS_sp B1 (by omega) r1 hC hS (kn.go A.toWd e1 (by omega)) (kx.go A.toWd e1 (by omega)) hx hdx hne) (kx.le (by omega))
  have go := thn (run.run pos pins s I) (fun us s1 ⟨vs, H1, I1, r, q⟩ => (⟨I1.kIn, makeS_run F (hr.mono hk) tk M I1 r q⟩ : X.K.In s1.heap ∧ wpAny (model X.prog X.w) X.A (call (.ref C) ([] ++ us)) (EP X pins σ Q) X.xe s1))
  show wpAny _ _ (callWith pos (.ref C) [] (backTo pos (starEach (.Starred a p2 :: b :: es) X.env)) []) _ _ _
  rw [hst] at go ⊢
  exact PySem.W.ks_call (P := fun h => X.K.In h) rfl (PySem.W.keeps_K M.kp) (evalArgs_two go)⟩
/-! ### o[e], o an instance with an own __getitem__ -/
structure GiD (P : Program) (w : World) (K : PySem.W.Frag) (mg : Str → Option Value) (base : Heap) (cs : CS) (k : Nat) (n : Nat) (c : Nat) (S : SpX) : Prop where
  ex : ∃ (C f : Addr) (fd : FuncData) (ps : List Str), cs.cls[n]? = some (.ref C) ∧ Meth K C "__getitem__" f ∧ PySem.W.fnIn K f = true ∧ FnG P w K mg base (L2.CX P w) k f fd ps (spN cs 2 c S) ∧ Binds K fd ps []
def tOwnIx (nc : Nat) (S : SpX) : Tf2 := fun d1 d2 M post xp => ∃ fs, insOf M d1 = some (nc, fs) ∧ S [d1, d2] M post xp
theorem px_ixO {ta tb : TfE} (F : GiD X.prog X.w X.K X.mg X.base cs k nc c3 S) (hr : RoomG j X.A) (tk : Takes X W) (ha : PX cs X W c1 a ta) (hb : PX cs X W c2 b tb) (hk : k + 1 ≤ j := by decide)
    (hsl : ∀ (x : Addr) (w : Value), subscripted b true (.ref x) w = runValue (.builtin "lifetime.subscript" ⟨[.ref x, w], []⟩) := by exact fun _ _ => by with_unfolding_all rfl) : PX cs X W (c1 + c2 + c3) (.Subscript a b pos) (tBin ta tb (tOwnIx nc S)) := ⟨fun u n H σ Γ post xp Q A hn q kn kx => TW.mk fun pins s I => by
  obtain ⟨C, f, fd, ps, hC, hm, hfn, F, hbd⟩ := F.ex
  refine Subscript_ (thn (ha.run u n H σ Γ _ xp (fun x H1 => ∀ s1 v, Inv X pins σ H1 s1 → RelV x v → wpAny (model X.prog X.w) X.A (eval b X.env) (fun y s₂ => wpAny (model X.prog X.w) X.A (subscriptTail a b v y) (EP X pins σ Q) X.xe s₂) X.xe s1) A (by omega) q (fun x d1 u1 H1 e1 B1 r1 q1 s1 v I1 rv => ?_) (kx.le (by omega)) pins s I) fun v s1 ⟨x, H1, I1, rx, q⟩ => q s1 v I1 rx)
  refine thn (hb.run u1 (n + c1) H1 σ Γ _ xp (fun y H2 => ∀ s2 w, Inv X pins σ H2 s2 → RelV y w → wpAny (model X.prog X.w) X.A (subscriptTail a b v w) (EP X pins σ Q) X.xe s2) (A.step e1 B1) (by omega) q1 (fun y d2 u2 H2 e2 B2 r2 q2 s2 w I2 rw' => ?_) (kx.go A.toWd e1 (by omega)) pins s1 I1) fun w s2 ⟨y, H2, I2, ry, q⟩ => q s2 w I2 ry
  have e12 := e1.trans A.toWd e2
  have r1' := r1.go B1 e2
  obtain ⟨fs, hi, hS⟩ := q2
  obtain ⟨a', C', ox, od, m, ex, ev, hC', J, hF⟩ := ins_st B2 I2 hi r1' rv
  rw [hC] at hC'; cases hC'
  subst ev
  refine PySem.W.sub_K hF I2.ok.mod.kin J hm.at_ hfn hm.fn (thn (run_in F hbd (RoomG.in1 (hr.mono hk)) I2.env0.in1 tk B2 (by omega) I2 (RepL.cons r1' (RepL.cons r2 RepL.nil)) (.cons rv (.cons rw' .nil)) rfl hS (kn.go A.toWd e12 (by omega)) (kx.go A.toWd e12 (by omega))) fun _ _ z => z) (hsl _ _)⟩
end
end Ev
-- EvAO
namespace Ev
open PySem PySem.Spec PyProof.Rows L2 ClX
/-! ### enumerate over a tuple -/
/-- what the iterator at e yields: pairs with the tuple's items at a -/
def numT (K : PySem.W.Frag) (a : Addr) : It where
  go i H := ∃ xs : List V, SqT K H a xs ∧ i < xs.length
  yld i H v H' := ∃ T x, v = .ref T ∧ H T = none ∧ H' = upd H T (.tup [.int (i : Nat), x]) ∧ ∀ xs, SqT K H a xs → xs[i]? = some x
  stop i H := ∃ xs : List V, SqT K H a xs ∧ xs.length = i
/-- the enumerate object at e and its tuple's iterator at it, i items gone through -/
structure NumS (a e it : Addr) (i : Nat) (h : Heap) : Prop where
  en : ∃ old, IsEnum h e it ((i : Nat) : Int) old
  ti : h.IsTupleIter it a i
  d1 : e ≠ it
  d2 : a ≠ it
  d3 : a ≠ e
theorem NumS.in_ {a e it b : Addr} {i : Nat} {h : Heap} (st : NumS a e it i h) (hb : b ∈ [e, it]) : ∃ o, h.get? b = some o ∧ ∀ v, o.data ≠ .cell v := by
  obtain ⟨old, he⟩ := st.en
  obtain ⟨o, ho, _, hd⟩ := st.ti
  rcases List.mem_cons.mp hb with rfl | hb
  · exact ⟨_, he, nofun⟩
  · obtain rfl := List.mem_singleton.mp hb
    exact ⟨o, ho, fun v q => by rw [hd] at q; cases q⟩
theorem turn_num {P : Program} {w : World} {K : PySem.W.Frag} {elts : List Expr} {kk : Nat} {tpos : Pos} (a e it : Addr) : Turn P w K (.Tuple elts kk tpos) (numT K a) [e, it] e (NumS a e it) where
  mem := List.mem_cons_self
  obj := fun _ _ st _ hb => st.in_ hb
  keep := fun _ _ _ st k => ⟨st.en.imp fun _ z => k e (by simp) _ z, st.ti.at fun o z => k it (by simp) o z, st.d1, st.d2, st.d3⟩
  self := fun _ _ _ _ _ st q => by
    obtain ⟨_, z⟩ := st.en
    exact wpAny_pyIter_enum z q
  item := by
    intro X hP hw hK calm i pins s σ H E I free st go
    subst hP hw hK
    obtain ⟨xs, sq, lt⟩ := go
    obtain ⟨its, rv, tup, _⟩ := I.tuple sq
    obtain ⟨old, en⟩ := st.en
    have isT : s.heap.IsTuple a its.toArray := tup
    have len := rv.length
    have D := Draws.tuple (prog := X.prog) (w := X.w) (A := X.A.in1) (I.ok.hd calm) it a st.d2 its.toArray
    refine wpAny_pyNext_enum_itemD D en ⟨st.ti, isT⟩ (by rw [List.size_toArray]; omega) st.d1 (by simp [st.d1, Ne.symm st.d3]) fun y h1 tk atY out in1 pair _ kp => ?_
    obtain ⟨x, hx⟩ : ∃ x, xs[i]? = some x := ⟨xs[i], List.getElem?_eq_getElem lt⟩
    obtain ⟨y', hy', ry⟩ := rv.get hx
    obtain rfl : y = y' := Option.some.inj ((show its[i]? = some y by simpa using atY).symm.trans hy')
    refine ⟨_, rfl, wpAny_letOwnedTupleGo_enum (s := { s with heap := h1, toks := tk + 1 }) out fun h2 en2 same => ?_⟩
    have old_ : ∀ b ∈ [e, it], b < s.heap.objs.size := fun b hb => by
      obtain ⟨o, ho, _⟩ := st.in_ hb
      exact Heap.lt_size ho
    have apart : s.heap.objs.size ≠ e := Nat.ne_of_gt (old_ e (by simp))
    have pair2 := (same.2 _ apart).trans pair
    have I2 : Inv X pins σ (upd H s.heap.objs.size (.tup [.int (i : Nat), x])) { s with heap := h2, toks := tk + 1 } :=
      I.turnedNew (ch := [e, it]) (fun b o nb q => (same.2 b fun z => nb (by simp [z])).trans (kp b o (fun z => nb (by simp [z])) (fun z => nb (by simp [z])) q)) free (Nat.le_refl _)
        ⟨by show 2 ≤ sizeLine; decide, [.int i tk, y], .cons ⟨_, rfl⟩ (.cons ry .nil), ⟨_, pair2, rfl, _, rfl⟩⟩
    refine ⟨.ref s.heap.objs.size, _, I2, rfl, ⟨_, x, rfl, I.hok.fresh (Nat.le_refl _), rfl, fun ys hys => by rw [I.tuple_inj hys sq]; exact hx⟩, ⟨⟨y, ?_⟩, in1.1.at fun o q => (same.2 it (Ne.symm st.d1)).trans q, st.d1, st.d2, st.d3⟩, fun b hb => ?_⟩
    · rw [Int.natCast_add]; exact en2
    · rw [upd_ne (Nat.ne_of_lt (old_ b hb))]
      exact (free b hb).1
  done := by
    intro X hP hw hK calm i pins s σ H E I free st stop
    subst hP hw hK
    obtain ⟨xs, sq, len⟩ := stop
    obtain ⟨its, rv, tup, _⟩ := I.tuple sq
    obtain ⟨old, en⟩ := st.en
    have isT : s.heap.IsTuple a its.toArray := tup
    have full : its.toArray.size = i := by rw [List.size_toArray, ← rv.length, len]
    have D := Draws.tuple (prog := X.prog) (w := X.w) (A := X.A.in1) (I.ok.hd calm) it a st.d2 its.toArray
    rw [full] at D
    obtain ⟨f0, f1, f2, f3, f4, f5⟩ := free it (by simp)
    exact wpAny_pyNext_enum_endD D en ⟨st.ti, isT⟩ fun h' ext => ⟨rfl, I.turned (t' := s.toks) (fun b o nb q => ext b o nb q) f0 f1 f3 f4 f5⟩
/-- the object that enumerate(v) is, its iterator at it -/
abbrev numO (it : Addr) : Obj := { cls := .type "enumerate", data := .fields #[.none, .bool false, .ref it, rawInt 0, .none, .none] }
def numSpec (v : Value) (o : Obj) (B : Heap → Prop) : PySem.Spec := fun _ R s => B s.heap ∧ R (.ok (.ret (.ref (s.heap.push o).objs.size))) { s with heap := (s.heap.push o).push (numO s.heap.objs.size) }
theorem num_new {v : Value} {o : Obj} {B : Heap → Prop} (b : Begins v o B) : Meets (Builtin.«enumerate.__new__» ⟨[.type "enumerate", v], []⟩) (numSpec v o B) := .of_wp fun prog w A R s h => by
  obtain ⟨hp, g, d, tk, os⟩ := s
  obtain ⟨h1, h2⟩ := h
  have sub := sub_enumerate
  have it : ∀ {A : Around} {E : Value → Shared → Prop} {Q : Value → Shared → Prop}, Q (.ref hp.objs.size) ⟨hp.push o, g, d, tk, os⟩ → wpAny (model prog w) A (pyIter v) Q E ⟨hp, g, d, tk, os⟩ := fun q => b.iter prog w _ _ ⟨hp, g, d, tk, os⟩ _ h1 q
  wp_walk using it
  refine wpAny_stack_any fun k => wpAny_pure ?_
  refine (show ∀ b : Bool, wpAny (model prog w) A.in1 (if b = true then _ else _) _ _ _ from fun b => ?_) _
  cases b <;> (wp_walk using it; exact ⟨_, rfl, h2⟩)
theorem num_call {prog : Program} {w : World} {A : Around} {E : Value → Shared → Prop} {s : Shared} {v : Value} {o : Obj} {B : Heap → Prop} {Q : Value → Shared → Prop} (b : Begins v o B) (h1 : B s.heap) (fr : o.isFreed = false)
    (q : ∀ h', IsEnum h' (s.heap.objs.size + 1) s.heap.objs.size 0 .none → h'.get? s.heap.objs.size = some o → (∀ b o, s.heap.get? b = some o → h'.get? b = some o) → Q (.ref (s.heap.objs.size + 1)) { s with heap := h' }) :
    wpAny (model prog w) A (call (.type "enumerate") [v]) Q E s := by
  refine callType_new F.called_enumerate (by decide) (F.typeCall_enumerate_1 _) (F.newCall_enumerate_1 _) (fun obj => F.args_object_init_2 obj _) F.entry_enumerate_new (num_new b) ⟨h1, ?_⟩
  have sz : (s.heap.push o).objs.size = s.heap.objs.size + 1 := Heap.size_push ..
  have e1 : ((s.heap.push o).push (numO s.heap.objs.size)).get? (s.heap.objs.size + 1) = some (numO s.heap.objs.size) := by rw [← sz]; exact Heap.get?_push_size _ rfl
  rw [sz]
  exact ⟨⟨_, e1, rfl⟩, q _ e1 (Heap.get?_push_of_some _ (Heap.get?_push_size _ fr)) fun b o z => Heap.get?_push_of_some _ (Heap.get?_push_of_some _ z)⟩
def pN (K : PySem.W.Frag) (ta : TA) : TI := fun σ H R => ta σ H fun vs H1 => ∃ a, vs = [.ref a] ∧ ((∃ xs, SqT K H1 a xs ∧ R (numT K a) H1) ∨ ∃ xs, SqL K H1 a xs ∧ R (Ite K a) H1)
theorem pi_num {X : Cx} {e : Expr} {ta : TA} {p pos tpos : Pos} {elts : List Expr} {kk : Nat} (hm : X.mg "enumerate" = none) (ha : PA X [e] ta) (hg : Gl X "enumerate" := by rfl) (hs : starEach [e] X.env = [(false, eval e X.env)] := by rfl) : PI X (.Tuple elts kk tpos) (.Call (.Name "enumerate" p) [e] [] pos) (pN X.K ta) := by
  refine ⟨fun pins s σ H R I h => ?_⟩
  refine Call_ (ld_blt I hg hm boot_enumerate (PyProof.Rows.callWith_type1 (thn (ha.run pos pins s σ H _ I h) fun us s1 ⟨vs, H1, I1, r1, q1⟩ => ?_) hs rfl))
  obtain ⟨a, ex, q1⟩ := q1
  subst ex
  obtain ⟨v, eu, rv⟩ : ∃ v, us = [v] ∧ RelV (.ref a) v := by cases r1 with | cons r rr => cases rr; exact ⟨_, rfl, r⟩
  subst eu
  obtain rfl : v = Value.ref a := rv
  have out : ∀ b ∈ [s1.heap.objs.size + 1, s1.heap.objs.size], FpOk X pins H1 b := fun b hb => by
    have hle : s1.heap.objs.size ≤ b := by
      rcases List.mem_cons.mp hb with rfl | hb
      · exact Nat.le_add_right _ _
      · exact Nat.le_of_eq (List.mem_singleton.mp hb).symm
    exact I1.fpOk hle (I1.hok.fresh hle)
  rcases q1 with ⟨xs, sq, q⟩ | ⟨xs, sq, q⟩
  · obtain ⟨its, ri, p', hz⟩ := I1.tuple sq
    have ht : s1.heap.IsTuple a its.toArray := p'
    have la : a < s1.heap.objs.size := by obtain ⟨o, ho, _⟩ := ht; exact Heap.lt_size ho
    refine num_call (begins_tuple a its.toArray) ht rfl fun h' en it kp => wpAny_pyIter_enum en ?_
    refine ⟨s1.heap.objs.size + 1, [s1.heap.objs.size + 1, s1.heap.objs.size], _, _, H1, rfl, I1.kept (t' := s1.toks) kp, turn_num a (s1.heap.objs.size + 1) s1.heap.objs.size, ⟨⟨.none, en⟩, ⟨_, it, rfl, rfl⟩, Nat.succ_ne_self _, Nat.ne_of_lt la, Nat.ne_of_lt (Nat.lt_succ_of_lt la)⟩, out, q⟩
  · obtain ⟨its, ri, p', hz⟩ := I1.list sq
    refine call_enumerate_list p'.isList fun h' en it _ kp => wpAny_pyIter_enum en ?_
    exact ⟨s1.heap.objs.size + 1, [s1.heap.objs.size + 1, s1.heap.objs.size], _, _, H1, rfl, I1.kept (t' := s1.toks) kp, turn_enum a (s1.heap.objs.size + 1) s1.heap.objs.size, ⟨⟨.none, en⟩, it, Nat.succ_ne_self _⟩, out, q⟩
theorem walk_num {K : PySem.W.Frag} {a : Addr} {xs : List V} : Walk (numT K a) xs.length (fun H => SqT K H a xs) (YPair (fun i => some (V.int (i : Nat))) fun i => xs[i]?) where
  goes := fun i H lt sq => ⟨xs, sq, lt⟩
  stops := fun H sq => ⟨xs, sq, rfl⟩
  yields := fun i H x H' lt sq ⟨T, y, e1, e2, e3, e4⟩ => ⟨T, _, y, e1, e2, e3, rfl, e4 xs sq⟩
/-- the items with their numbers -/
def enD : Nat → List D → List D
  | _, [] => []
  | k, d :: r => .tup [.int (k : Nat), d] :: enD (k + 1) r
theorem enD_at {ds : List D} : ∀ {k i : Nat} {d : D}, ds[i]? = some d → (enD k ds)[i]? = some (.tup [.int ((k + i : Nat) : Int), d]) := by
  induction ds with
  | nil => intro k i d h; simp at h
  | cons d0 r ih =>
    intro k i d h
    cases i with
    | zero => simp at h; subst h; simp [enD]
    | succ i => have := ih (k := k + 1) (i := i) (d := d) (by simpa using h); simpa [enD, Nat.add_assoc, Nat.add_comm 1 i] using this
theorem enD_len {ds : List D} : ∀ {k : Nat}, (enD k ds).length = ds.length := by
  induction ds with
  | nil => intro k; rfl
  | cons d0 r ih => intro k; simp [enD, ih]
/-- enumerate of a list or a tuple -/
def tEn (te : TfE) : TfI := fun Γ M post xp => te Γ M (fun d M1 => match d with
  | .lst ds => post (enD 0 ds) STrue M1
  | .tup ds => post (enD 0 ds) STrue M1
  | _ => False) xp
section
variable {cs : CS} {X : Cx} {W : WX} {c : Nat} {e : Expr} {pos : Pos}
theorem num_pair {u : U} {m : Nat} {H H3 : Hp} {ds : List D} {vs : List V} {i : Nat} {y : V} (B : Wd cs u m H) (rl : RepL u H ds vs) (h : YPair (fun i => some (V.int (i : Nat))) (fun i => vs[i]?) i H y H3) : Keep H H3 ∧ ∃ d, (enD 0 ds)[i]? = some d ∧ Rep u H3 d y := by
  obtain ⟨T, x, z, ey, hT, eH, hx, hz⟩ := h
  obtain ⟨d, hd', rd⟩ := rl.getV hz
  have kp : Keep H H3 := by rw [eH]; exact Keep.new hT
  refine ⟨kp, _, enD_at hd', ?_⟩
  subst ey
  have ex : x = V.int (i : Nat) := (Option.some.inj hx).symm
  subst ex
  refine ⟨T, [V.int (i : Nat), z], rfl, B.notF hT, by rw [eH]; exact upd_same, RepL.cons (by show V.int _ = V.int _; simp) (RepL.cons (rd.go B kp.nx) RepL.nil)⟩
theorem xi_enum {te : TfE} {elts : List Expr} {kk : Nat} {p tpos : Pos} (hm : X.mg "enumerate" = none) (he : PX cs X W c e te) (hg : Gl X "enumerate" := by rfl) (hs : starEach [e] X.env = [(false, eval e X.env)] := by rfl) : PXI cs X W c (.Tuple elts kk tpos) (.Call (.Name "enumerate" p) [e] [] pos) (tEn te) := ⟨fun u n H σ Γ post xp R A hn q kn kx => by
  refine twi_of (pi_num hm (twa_pa X [e]) hg hs) ?_
  refine (pa_cons he pa_nil hs).run u n H σ Γ (fun ds M1 => match ds with
    | [d] => (match d with
      | .lst ds => post (enD 0 ds) STrue M1
      | .tup ds => post (enD 0 ds) STrue M1
      | _ => False)
    | _ => False) xp _ A hn q (fun vs ds u1 H1 e1 B1 r1 q1 => ?_) kx
  rcases ds with _ | ⟨d, _ | ⟨_, _⟩⟩
  · exact (show False from q1).elim
  rotate_left
  · exact (show False from q1).elim
  obtain ⟨x, ev, rx⟩ := r1.one
  cases d with
  | lst ds =>
    obtain ⟨a, vs, ex, f, g, rl⟩ := rx.lstE
    exact ⟨a, by rw [ev, ex], .inr ⟨vs, SqL.of g, kn _ _ _ u1 H1 e1 B1 ⟨fun H => SqL X.K H a vs, _, by rw [enD_len, ← rl.length]; exact walk_enum, fun u' m H2 x2 B2 _ => SqL.of (x2.go a _ (fun h => f (.inl h)) nofun g), fun u' m i H2 y H3 x2 B2 _ hi hy => num_pair B2 (rl.go B1 x2) hy⟩ q1⟩⟩
  | tup ds =>
    obtain ⟨a, vs, ex, f, g, rl⟩ := rx.tupE
    exact ⟨a, by rw [ev, ex], .inl ⟨vs, SqT.of g, kn _ _ _ u1 H1 e1 B1 ⟨fun H => SqT X.K H a vs, _, by rw [enD_len, ← rl.length]; exact walk_num, fun u' m H2 x2 B2 _ => SqT.of (x2.go a _ (fun h => f (.inl h)) nofun g), fun u' m i H2 y H3 x2 B2 _ hi hy => num_pair B2 (rl.go B1 x2) hy⟩ q1⟩⟩
  | _ => exact (show False from q1).elim⟩
end
end Ev
-- EvAP
/-! == of tuples whose items are instances with an own == -/
namespace EvTQ
open PySem PySem.SeqAt
open AutoSeq1 (wpAny_loadPart')
open MeetsSeq MeetsSeq2 MeetsSeq3 SeqRoads2
section
variable {prog : Program} {w : World} {A : Around} {R : Result → Shared → Prop}
theorem tuple_eqA (l b : Addr) (xs ys : Array Value) (n n2 : Nat) (dd dd2 : Option Addr) (sl sl2 : Array (Option Value)) (ρ : Nat → Bool) (J : Shared → Prop)
    (turn : ∀ i (h1 : i < xs.size) (h2 : i < ys.size) s, J s → wpAny (model prog w) A.in1 (eqBool xs[i] ys[i]) (fun r s' => r = ρ i ∧ J s') (fun e s' => R (.error e) s') s)
    (finF : ∀ i, i < xs.size → i < ys.size → ρ i = false → ∀ s, J s → R (.ok (.ret (.bool false))) s)
    (finT : (∀ i, i < xs.size → i < ys.size → ρ i = true) → ∀ s, J s → R (.ok (.ret (.bool (xs.size == ys.size)))) s)
    {s : Shared} (hl1 : s.heap.get? l = some { cls := .type "tuple", dict := dd, data := .seq xs n, slots := sl }) (hb1 : s.heap.get? b = some { cls := .type "tuple", dict := dd2, data := .seq ys n2, slots := sl2 }) (h : J s) :
    wpAny (model prog w) A.in1 (Builtin.«tuple.__eq__» ⟨[.ref l, .ref b], []⟩) (GQ.FinOf prog w A R) (fun e s' => R (.error e) s') s := by
  have f2 := AutoSeq1.sub_tuple_tuple
  have hZ : (xs.toList.zip ys.toList).length = min xs.size ys.size := by simp
  have h0 := h
  obtain ⟨hp, g, d, tk, os⟩ := s
  wp_walk using wpAny_loadPart' hl1, wpAny_loadPart' hb1, wpAny_forIn_list _ (fun rest b s' => b.1 = none ∧ (∃ i, rest = (xs.toList.zip ys.toList).drop i ∧ ∀ k, k < i → k < xs.size → k < ys.size → ρ k = true) ∧ J s') _
  case turn =>
    rintro ⟨y, x⟩ rest b s' ⟨hb', ⟨i, hz, hp'⟩, hI⟩
    have hlt : i < (xs.toList.zip ys.toList).length := by
      rcases Nat.lt_or_ge i (xs.toList.zip ys.toList).length with q | q
      · exact q
      · rw [List.drop_of_length_le q] at hz; cases hz
    have h1 : i < xs.size := by omega
    have h2 : i < ys.size := by omega
    rw [List.drop_eq_getElem_cons hlt] at hz
    injection hz with hyx hrest
    obtain rfl : y = xs[i] := by simpa using congrArg Prod.fst hyx
    obtain rfl : x = ys[i] := by simpa using congrArg Prod.snd hyx
    refine wpAny_bind (wpAny_mono (turn i h1 h2 s' hI) (fun r s2 q2 => ?_) fun _ _ x => x)
    obtain ⟨hr, q2⟩ := q2
    cases hρ : ρ i
    · rw [hρ] at hr; subst hr
      have hR := finF i h1 h2 hρ s2 q2
      wp_walk
      exact hR
    · rw [hρ] at hr; subst hr
      wp_walk
      exact ⟨rfl, ⟨i + 1, hrest, fun k hk k1 k2 => (Nat.lt_succ_iff_lt_or_eq.mp hk).elim (fun z => hp' k z k1 k2) (fun z => z ▸ hρ)⟩, q2⟩
  case fin =>
    rintro ⟨b1, b2⟩ s' ⟨hb', ⟨i, hz, hp'⟩, hI⟩
    simp only at hb'
    subst hb'
    have hi : (xs.toList.zip ys.toList).length ≤ i := by
      rcases Nat.lt_or_ge i (xs.toList.zip ys.toList).length with q | q
      · rw [List.drop_eq_getElem_cons q] at hz; cases hz
      · exact q
    have hR := finT (fun k k1 k2 => hp' k (by omega) k1 k2) s' hI
    wp_walk
    simpa [Builtin.Tuple.tupleCompareSizes] using hR
  case h =>
    exact ⟨rfl, ⟨0, rfl, fun k hk => absurd hk (Nat.not_lt_zero k)⟩, h0⟩
end
section
variable {prog : Program} {w : World} {A : Around} {E : Value → Shared → Prop} {s : Shared}
theorem rc_tupEq {l b : Addr} {xs ys : Array Value} {Q : Value → Shared → Prop} (hu : A.units < cLine) (ρ : Nat → Bool) (J : Shared → Prop) (hl : s.heap.IsTuple l xs) (hb : s.heap.IsTuple b ys)
    (turn : ∀ i (h1 : i < xs.size) (h2 : i < ys.size) s, J s → wpAny (model prog w) A.in1 (eqBool xs[i] ys[i]) (fun r s' => r = ρ i ∧ J s') E s) (finF : ∀ i, i < xs.size → i < ys.size → ρ i = false → ∀ s, J s → Q (.bool false) s)
    (finT : (∀ i, i < xs.size → i < ys.size → ρ i = true) → ∀ s, J s → Q (.bool (xs.size == ys.size)) s) (h : J s) : wpAny (model prog w) A (richCompare .Eq (.ref l) (.ref b)) Q E s := by
  obtain ⟨⟨cls, dd, data, sl⟩, ho, hc, n, hd⟩ := id hl
  obtain ⟨⟨cls2, dd2, data2, sl2⟩, ho2, hc2, n2, hd2⟩ := id hb
  simp only at hc hd hc2 hd2
  subst hc hd hc2 hd2
  refine wpAny_richCompare_same_room (op := .Eq) ⟨_, ho, rfl⟩ ⟨_, ho2, rfl⟩ F.slot_tuple_eq (GQ.call_here F.slot_tuple_eq ⟨_, ho, rfl⟩ F.entry_tuple_eq (F.args_tuple_eq_2 _ _) ?_) hu
  exact tuple_eqA (R := wants (fun v s' => v ≠ .notImplemented ∧ Q v s') E) l b xs ys n n2 dd dd2 sl sl2 ρ J turn (fun i h1 h2 hr s' q => ⟨(fun x => nomatch x), finF i h1 h2 hr s' q⟩) (fun hr s' q => ⟨(fun x => nomatch x), finT hr s' q⟩) ho ho2 h
end
end EvTQ
namespace Ev
open PySem PySem.Spec PyProof.Rows L2 ClX
theorem vD_inj {d e : D} (h1 : flatD d = true) (h2 : flatD e = true) (h : vD d = vD e) : d = e := by
  cases d <;> cases e <;> simp_all [flatD, vD]
theorem repF_inj {u : U} {H : Hp} : ∀ {fs gs : List (Str × D)} {us : List (Str × V)}, fs.all (fun p => flatD p.2) = true → gs.all (fun p => flatD p.2) = true → RepF u H fs us → RepF u H gs us → fs = gs
  | [], [], us, _, _, _, _ => rfl
  | [], (k, d) :: gs, us, _, _, r1, ⟨v, r, e, _⟩ => by rw [show us = [] from r1] at e; cases e
  | (k, d) :: fs, [], us, _, _, ⟨v, r, e, _⟩, r2 => by rw [show us = [] from r2] at e; cases e
  | (k, d) :: fs, (k', e) :: gs, us, h1, h2, ⟨v, r, e1, a1, b1⟩, ⟨v2, r2, e2, a2, b2⟩ => by
    rw [e1] at e2
    cases e2
    simp only [List.all_cons, Bool.and_eq_true] at h1 h2
    have x1 := (flat_rep h1.1 a1).1
    have x2 := (flat_rep h2.1 a2).1
    rw [vD_inj h1.1 h2.1 (x1.symm.trans x2), repF_inj h1.2 h2.2 b1 b2]
/-- an instance whose fields are numbers and texts -/
def flatO (nc : Nat) (d : D) : Prop := ∃ a fs, d = .obj a nc fs ∧ fs.all (fun p => flatD p.2) = true
def eqTs (ρ : D → D → Bool) (ds es : List D) : Bool := ds.length == es.length && (ds.zip es).all fun q => ρ q.1 q.2
/-- == of tuples of instances of one class with an own == -/
def tEqT (nc : Nat) (S : SpX) : Tf2 := fun d1 d2 M post xp => ∃ (ds es : List D) (ρ : D → D → Bool), d1 = .tup ds ∧ d2 = .tup es ∧ (∀ d ∈ ds, flatO nc d ∧ ρ d d = true) ∧ (∀ e ∈ es, flatO nc e) ∧ (∀ d ∈ ds, ∀ e ∈ es, ∀ p : DP, p (.bl (ρ d e)) M → S [d, e] M p xp) ∧ post (.bl (eqTs ρ ds es)) M
theorem eqTs_f {ρ : D → D → Bool} {ds es : List D} {i : Nat} {d e : D} (h1 : ds[i]? = some d) (h2 : es[i]? = some e) (h : ρ d e = false) : eqTs ρ ds es = false := by
  unfold eqTs
  rw [Bool.and_eq_false_iff]
  refine .inr ?_
  rw [List.all_eq_false]
  have l1 := List.getElem?_eq_some_iff.mp h1
  have l2 := List.getElem?_eq_some_iff.mp h2
  obtain ⟨k1, g1⟩ := l1
  obtain ⟨k2, g2⟩ := l2
  refine ⟨(d, e), ?_, by simp [h]⟩
  rw [List.mem_iff_getElem]
  exact ⟨i, by simp; omega, by simp [g1, g2]⟩
theorem eqTs_t {ρ : D → D → Bool} {ds es : List D} (h : ∀ (i : Nat) (d e : D), ds[i]? = some d → es[i]? = some e → ρ d e = true) : eqTs ρ ds es = (ds.length == es.length) := by
  unfold eqTs
  have : (ds.zip es).all (fun q => ρ q.1 q.2) = true := by
    rw [List.all_eq_true]
    intro q hq
    obtain ⟨i, hi, e⟩ := List.mem_iff_getElem.mp hq
    simp at hi
    have : q = (ds[i], es[i]) := by rw [← e]; simp
    subst this
    exact h i _ _ (List.getElem?_eq_getElem (by omega)) (List.getElem?_eq_getElem (by omega))
  rw [this, Bool.and_true]
section
variable {cs : CS} {X : Cx} {W : WX} {k j nc : Nat} {S : SpX}
theorem po_eqT (F : MtD X.prog X.w X.K X.mg X.base cs k nc (cmpInfo CmpOp.Eq).2.1 2 0 S) (hr : RoomG j X.A) (tk : Takes X W) (hk : k + 1 ≤ j := by decide) : PO2 cs X W 0 (compareOp .Eq) (tEqT nc S) := ⟨fun u n H σ d1 d2 x y post xp Q A hn rx ry ⟨ds, es, ρ, e1, e2, h1, h2, hS, q⟩ kn kx => TO.mk fun pins s v w I rv rw' => by
  subst e1; subst e2
  obtain ⟨C, f, fd, ps, hC, cl, hme, F, hb⟩ := F.ex
  obtain ⟨a, xs, ea, _, ga, ra⟩ := rx.tupE
  obtain ⟨b, ys, eb, _, gb, rb⟩ := ry.tupE
  subst ea; subst eb
  cases rv
  cases rw'
  obtain ⟨its, r, e, z⟩ := I.tuple (SqT.of ga)
  obtain ⟨its2, r2, e2, z2⟩ := I.tuple (SqT.of gb)
  have un : X.A.units + 1 < cLine := by have := hr.room.un; omega
  have l1 : its.length = ds.length := by rw [← r.length, ra.length]
  have l2 : its2.length = es.length := by rw [← r2.length, rb.length]
  show wpAny _ _ (richCompare .Eq _ _) _ _ _
  refine EvTQ.rc_tupEq (by omega) (fun i => match ds[i]?, es[i]? with | some d, some e => ρ d e | _, _ => true) (fun s' => ∃ u' H', Inv X pins σ H' s' ∧ Nx u H u' H' ∧ Wd cs u' n H' ∧ u'.M = u.M) e e2 (fun i k1 k2 s' ⟨u', H', I', x', B', em⟩ => ?_) (fun i k1 k2 hf s' ⟨u', H', I', x', B', em⟩ => ?_) (fun ht s' ⟨u', H', I', x', B', em⟩ => ?_) ⟨u, H, I, Nx.refl, A, rfl⟩
  · have k1' : i < its.length := by simpa using k1
    have k2' : i < its2.length := by simpa using k2
    have m1 : i < ds.length := by omega
    have m2 : i < es.length := by omega
    have g1 : ds[i]? = some ds[i] := List.getElem?_eq_getElem m1
    have g2 : es[i]? = some es[i] := List.getElem?_eq_getElem m2
    generalize hd : ds[i] = d at g1
    generalize he : es[i] = e' at g2
    have md : d ∈ ds := hd ▸ List.getElem_mem m1
    have me : e' ∈ es := he ▸ List.getElem_mem m2
    have hρ : (match ds[i]?, es[i]? with | some d, some e => ρ d e | _, _ => true) = ρ d e' := by rw [g1, g2]
    obtain ⟨x1, hx1, rd⟩ := ra.get g1
    obtain ⟨x2, hx2, re⟩ := rb.get g2
    obtain ⟨w1, hw1, rv1⟩ := r.get hx1
    obtain ⟨w2, hw2, rv2⟩ := r2.get hx2
    have v1 : its.toArray[i] = w1 := by have : its[i]? = some its[i] := List.getElem?_eq_getElem k1'; rw [hw1] at this; simpa using (Option.some.inj this).symm
    have v2 : its2.toArray[i] = w2 := by have : its2[i]? = some its2[i] := List.getElem?_eq_getElem k2'; rw [hw2] at this; simpa using (Option.some.inj this).symm
    rw [v1, v2, hρ]
    obtain ⟨⟨aa, fs, ed, hf1⟩, hself⟩ := h1 d md
    obtain ⟨bb, gs, ee, hf2⟩ := h2 e' me
    have rd' := rd.go A x'
    have re' := re.go A x'
    subst ed; subst ee
    obtain ⟨C1, dx1, us1, ev1, nf1, hC1, gg1, rf1⟩ := rd.objE
    obtain ⟨C2, dx2, us2, ev2, nf2, hC2, gg2, rf2⟩ := re.objE
    subst ev1; subst ev2
    obtain rfl : w1 = Value.ref aa := rv1
    obtain rfl : w2 = Value.ref bb := rv2
    by_cases hab : aa = bb
    · subst hab
      rw [gg1] at gg2
      cases gg2
      have : fs = gs := repF_inj hf1 hf2 rf1 rf2
      subst this
      exact SeqAt.EqAt.same (A := X.A.in1) (s := s') (.ref aa) X.prog X.w X.xe _ ⟨hself.symm, u', H', I', x', B', em⟩
    · obtain ⟨a1, C1', ox, od, m, ex1, ev1, hC1', J1, hF⟩ := ins_st (nc := nc) B' I' (d := .obj aa nc fs) rfl rd' rfl
      rw [hC] at hC1'; cases hC1'
      cases ev1
      obtain ⟨a2, C2', ox2, od2, m2, ex2, ev2, hC2', J2, hF2⟩ := ins_st (nc := nc) B' I' (d := .obj bb nc gs) rfl re' rfl
      rw [hC] at hC2'; cases hC2'
      cases ev2
      refine GQ.eqBool_refG hab ?_
      refine PySem.W.cmp_K (op := .Eq) (tb := .ref C) (by show X.A.units + 1 < cLine; exact un) hF I'.ok.mod.kin J1 J2.type (by simp [PySem.W.notFirst]) hme.at_ hme.fn ?_
      refine thn (run_in (post := fun v M' => v = .bl (ρ (.obj aa nc fs) (.obj bb nc gs)) ∧ M' = u.M) (xp := xp) (Q := fun v H2 => v = .bl (ρ (.obj aa nc fs) (.obj bb nc gs)) ∧ ∃ u2, Nx u H u2 H2 ∧ Wd cs u2 n H2 ∧ u2.M = u.M) F hb (hr.mono hk).in1 I'.env0.in1 tk B' (by omega) I' (RepL.cons rd' (RepL.cons re' RepL.nil)) (.cons rfl (.cons rfl .nil)) rfl (by rw [em]; exact hS _ md _ me _ ⟨rfl, rfl⟩) (fun v d u2 H2 e B r ⟨ed, em2⟩ => ⟨by subst ed; exact r, u2, x'.trans A e, B, em2⟩) (kx.go A x' (Nat.le_refl _))) fun v s2 ⟨v', H2, I2, rv', ev', u2, x2, B2, em2⟩ => ?_
      subst ev'
      obtain rfl : v = .bool _ := rv'
      exact cmpBack_ok (by simp) ⟨_, rfl, rfl, u2, H2, I2, x2, B2, em2⟩
  · have k1' : i < its.length := by simpa using k1
    have k2' : i < its2.length := by simpa using k2
    have g1 : ds[i]? = some ds[i] := List.getElem?_eq_getElem (by omega)
    have g2 : es[i]? = some es[i] := List.getElem?_eq_getElem (by omega)
    simp only [g1, g2] at hf
    rw [eqTs_f g1 g2 hf] at q
    exact ⟨.bl false, H', I', rfl, kn (.bl false) (.bl false) u' H' x' (B'.up (by omega)) rfl (by rw [em]; exact q)⟩
  · rw [eqTs_t fun i d e h1 h2 => ?_] at q
    · have : (its.toArray.size == its2.toArray.size) = (ds.length == es.length) := by simp [l1, l2]
      rw [this]
      exact ⟨.bl _, H', I', rfl, kn (.bl _) (.bl _) u' H' x' (B'.up (by omega)) rfl (by rw [em]; exact q)⟩
    · have k1 := (List.getElem?_eq_some_iff.mp h1).1
      have k2 := (List.getElem?_eq_some_iff.mp h2).1
      have := ht i (by simpa [l1] using k1) (by simpa [l2] using k2)
      simpa [h1, h2] using this⟩
end
end Ev
-- EvAQ
/-! list(range(i, j)) -/
namespace Ev
open PySem PySem.Spec PyProof.Rows L2 ClX
def rgL (i j : Int) : List D := (List.range (j - i).toNat).map fun (k : Nat) => D.int (i + (k : Int))
def rgV (i j : Int) : List V := (List.range (j - i).toNat).map fun (k : Nat) => V.int (i + (k : Int))
def tLRg2 (ta : TfA) : TfE := fun Γ M post xp => ta Γ M (fun ds M1 => ∃ i j : Int, ds = [.int i, .int j] ∧ (-(2 ^ 62) ≤ i ∧ i < 2 ^ 62 ∧ -(2 ^ 62) ≤ j ∧ j < 2 ^ 62) ∧ j - i ≤ 1000 ∧ post (.lst (rgL i j)) M1) xp
theorem rep_rg {u : U} {H : Hp} (i : Int) : ∀ l : List Nat, RepL u H (l.map fun (k : Nat) => D.int (i + (k : Int))) (l.map fun (k : Nat) => V.int (i + (k : Int)))
  | [] => RepL.nil
  | k :: l => RepL.cons rfl (rep_rg i l)
section
variable {cs : CS} {X : Cx} {W : WX} {c : Nat} {a b : Expr} {pos : Pos}
theorem call_lrg {pins : List (Addr × Obj)} {σ : L2.St} {H : Hp} {s : Shared} {i j : Int} {t t' : Tok} {Q : VK} (hc : X.calm = true) (I : Inv X pins σ H s) (h1 : -(2 ^ 62) ≤ i) (h2 : i < 2 ^ 62) (h3 : -(2 ^ 62) ≤ j) (h4 : j < 2 ^ 62) (h5 : j - i ≤ 1000)
    (q : ∀ l, H l = none → Q (.ref l) (upd H l (.lst (rgV i j)))) : wpAny (model X.prog X.w) X.A (call (.type "range") [.int i t, .int j t']) (fun v s2 => wpAny (model X.prog X.w) X.A (call (.type "list") [v]) (EP X pins σ Q) X.xe s2) X.xe s := by
  refine call_range_2 ?_
  refine call_list_range (n := (j - i).toNat) (I.ok.hd hc) (Heap.get?_push_size _ rfl) ?_ (by rw [rangeSize_one]; split <;> omega) (by omega) fun h' tk acc c' kp e hi => ?_
  · have e0 : Builtin.Range.rangeSize i j 1 = ((j - i).toNat : Int) := by rw [rangeSize_one]; split <;> omega
    unfold Builtin.Range.small
    rw [e0]
    simp [Builtin.Range.rangeFitsLong]
    omega
  have rv : Vals (rgV i j) acc.toList := by
    refine vals_at (by unfold rgV; simp [hi.1]) fun k v u hv hu => ?_
    unfold rgV at hv
    rw [List.getElem?_map] at hv
    have hk : k < (j - i).toNat := by
      rcases Nat.lt_or_ge k (j - i).toNat with z | z
      · exact z
      · rw [List.getElem?_eq_none (by simpa using z)] at hv; cases hv
    rw [List.getElem?_range hk] at hv
    cases hv
    obtain ⟨t2, ht⟩ := hi.2 k u (by simpa using hu)
    exact ⟨t2, by rw [ht]; simp⟩
  have hle : s.heap.objs.size ≤ (s.heap.push ({ cls := .type "range", data := .fields #[.int i t, .int j t', .int 1 s.toks] } : Obj)).objs.size := by rw [Heap.size_push]; exact Nat.le_succ _
  have ok : ObjOk X.prog X.w (upd H (s.heap.push ({ cls := .type "range", data := .fields #[.int i t, .int j t', .int 1 s.toks] } : Obj)).objs.size (.lst (rgV i j))) h' (s.heap.push ({ cls := .type "range", data := .fields #[.int i t, .int j t', .int 1 s.toks] } : Obj)).objs.size (.lst (rgV i j)) :=
    ⟨by unfold rgV; rw [List.length_map, List.length_range, sizeLine_eq]; omega, acc.toList, c', rv, by simpa using e⟩
  exact ⟨.ref _, _, I.laid (t' := tk) (fun b o z => kp b o (Heap.get?_push_of_some _ z)) hle ok, rfl, q _ (I.hok.fresh hle)⟩
theorem px_listRg2 {p p2 pos2 : Pos} {ta : TfA} (hl : X.mg "list" = none) (hm : X.mg "range" = none) (ha : PXA cs X W c [a, b] ta) (hc : X.calm = true := by rfl) (hgl : Gl X "list" := by rfl) (hg : Gl X "range" := by rfl)
    (hs : starEach [a, b] X.env = [(false, eval a X.env), (false, eval b X.env)] := by rfl) (hs2 : starEach [b] X.env = [(false, eval b X.env)] := by rfl) :
    PX cs X W c (.Call (.Name "list" p) [.Call (.Name "range" p2) [a, b] [] pos2] [] pos) (tLRg2 ta) := ⟨fun u n H σ Γ post xp Q A hn q kn kx => TW.mk fun pins s I => by
  refine wpAny_Call_Name_kw (ld_blt I hgl hl (u := .type "list") (by decide +kernel) ?_)
  refine PySem.callWith_type1 ?_
  refine wpAny_Call_Name_kw (ld_blt I hg hm (u := .type "range") (by decide +kernel) ?_)
  refine PyProof.Rows.callWith_type1 (thn (ha.run u n H σ Γ _ xp (fun vs H1 => ∀ s1 us, Inv X pins σ H1 s1 → Vals vs us → wpAny (model X.prog X.w) X.A (call (.type "range") us) (fun v s2 => wpAny (model X.prog X.w) X.A (call (.type "list") [v]) (EP X pins σ Q) X.xe s2) X.xe s1) A hn q (fun vs ds u1 H1 e1 B1 r1 q1 s1 us I1 ru => ?_) kx pos2 pins s I) fun us s1 ⟨vs, H1, I1, r1, q1⟩ => q1 s1 us I1 r1) (by rw [hs, hs2]) (by rw [hs2]; rfl)
  obtain ⟨i, j, ed, ⟨h1, h2, h3, h4⟩, h5, q1⟩ := q1
  subst ed
  obtain ⟨x, y, ev, rx, ry⟩ := r1.two
  subst ev
  obtain rfl : x = V.int i := rx
  obtain rfl : y = V.int j := ry
  cases ru with
  | cons ra rr =>
    cases rr with
    | cons rb rr =>
      cases rr
      obtain ⟨t, rfl⟩ := ra
      obtain ⟨t', rfl⟩ := rb
      exact call_lrg hc I1 h1 h2 h3 h4 h5 fun l hl => kn.go A.toWd e1 (Nat.le_refl _) |>.lst B1 (rep_rg i _) q1 hl⟩
end
section
variable {Γ : Gm} {M : Store} {post : DP} {xp : XP} {ta : TfA}
theorem r_lrg2 (q : ta Γ M (fun ds M1 => ∃ i j : Int, ds = [.int i, .int j] ∧ (-(2 ^ 62) ≤ i ∧ i < 2 ^ 62 ∧ -(2 ^ 62) ≤ j ∧ j < 2 ^ 62) ∧ j - i ≤ 1000 ∧ post (.lst (rgL i j)) M1) xp) : tLRg2 ta Γ M post xp := q
def enK (d : D) (M1 : Store) (p : TfIP) : Prop := match d with
  | .lst ds => p (enD 0 ds) STrue M1
  | .tup ds => p (enD 0 ds) STrue M1
  | _ => False
theorem r_en {te : TfE} {p : TfIP} (q : te Γ M (fun d M1 => enK d M1 p) xp) : tEn te Γ M p xp := q
theorem r_en_l {ds : List D} {p : TfIP} (q : p (enD 0 ds) STrue M) : enK (.lst ds) M p := q
theorem r_en_t {ds : List D} {p : TfIP} (q : p (enD 0 ds) STrue M) : enK (.tup ds) M p := q
theorem r_mkS {nc : Nat} {S : SpX} (q : ta Γ M (fun ds M1 => mkSK nc S post xp ds M1) xp) : tMkS nc S ta Γ M post xp := q
def sprK (p : List D → Store → Prop) (d : D) (M1 : Store) : Prop := ∃ ds, sprd d = some ds ∧ p ds M1
theorem r_spr {te : TfE} {p : List D → Store → Prop} (q : te Γ M (fun d M1 => sprK p d M1) xp) : tSpr te Γ M p xp := q
theorem r_spr_l {ds : List D} {p : List D → Store → Prop} (q : p ds M) : sprK p (.lst ds) M := ⟨ds, rfl, q⟩
theorem r_spr_t {ds : List D} {p : List D → Store → Prop} (q : p ds M) : sprK p (.tup ds) M := ⟨ds, rfl, q⟩
theorem r_starA {te : TfE} {p : List D → Store → Prop} (q : te Γ M (fun d M1 => sprK (fun xs M1 => ta Γ M1 (fun ys M2 => p (xs ++ ys) M2) xp) d M1) xp) : tStarA te ta Γ M p xp := q
theorem r_ownIx {nc : Nat} {S : SpX} {d1 d2 : D} {fs} (h : insOf M d1 = some (nc, fs)) (q : S [d1, d2] M post xp) : tOwnIx nc S d1 d2 M post xp := ⟨fs, h, q⟩
theorem r_eqT {nc : Nat} {S : SpX} {ds es : List D} (ρ : D → D → Bool) (h1 : ∀ d ∈ ds, flatO nc d ∧ ρ d d = true) (h2 : ∀ e ∈ es, flatO nc e) (h3 : ∀ d ∈ ds, ∀ e ∈ es, ∀ p : DP, p (.bl (ρ d e)) M → S [d, e] M p xp) (q : post (.bl (eqTs ρ ds es)) M) : tEqT nc S (.tup ds) (.tup es) M post xp := ⟨ds, es, ρ, rfl, rfl, h1, h2, h3, q⟩
end
end Ev
-- EvAR
/-! != of a list that changes with another list -/
namespace Ev
open PySem PySem.Spec PyProof.Rows L2 ClX
def tNeL : Tf2 := fun d1 d2 M post _ => ∃ n ds ps y2, d1 = .loc n ∧ M[n]? = some (.li ds) ∧ pyL ds = some ps ∧ pyD d2 = some y2 ∧ SeqAt.shaped (.list ps) = true ∧ SeqAt.shaped y2 = true ∧ post (.bl (!PyData.eqv (.list ps) y2)) M
section
variable {cs : CS} {X : Cx} {W : WX}
theorem po_neL (hu : X.A.units + 64 < cLine) : PO2 cs X W 0 (compareOp .NotEq) tNeL := ⟨fun u n H σ d1 d2 x y post xp Q A hn rx ry ⟨m, ds, ps, y2, e1, hm, hp, h2, s1, s2, q⟩ kn kx => by
  subst e1
  obtain ⟨a, ex, hmu⟩ := rx.locE
  obtain ⟨vs, g, rl⟩ := A.cell m a _ hmu hm
  subst ex
  exact to_of (op_neD hu) ⟨.list ps, y2, .lst (SqL.of g) (dp_repL ds vs ps rl hp), dp_rep _ _ _ ry h2, s1, s2, kn.here (d := .bl (!PyData.eqv (.list ps) y2)) A rfl q⟩⟩
theorem r_neL {M ex : Store} {ds : List D} {d2 : D} {ps : List PyData} {y2 : PyData} {post : DP} {xp : XP} (hp : pyL ds = some ps) (h2 : pyD d2 = some y2) (s1 : SeqAt.shaped (.list ps) = true) (s2 : SeqAt.shaped y2 = true) (q : post (.bl (!PyData.eqv (.list ps) y2)) (M ++ Cell.li ds :: ex)) : tNeL (.loc M.length) d2 (M ++ Cell.li ds :: ex) post xp :=
  ⟨M.length, ds, ps, y2, rfl, by simp, hp, h2, s1, s2, q⟩
end
end Ev
-- EvAS
namespace Ev
open PySem PySem.Spec PyProof.Rows L2 ClX
/-! ### f'{x}', x an instance with an own __str__ -/
structure FmF (K : PySem.W.Frag) (cs : CS) (nc : Nat) : Prop where
  ex : ∃ C, cs.cls[nc]? = some (.ref C) ∧ PySem.W.findIn K (.ref C) "__format__" = some (some (.builtin "object.__format__")) ∧ PySem.W.mroIn K C (.type "object") = some true
def tFmO (nc : Nat) (S : SpX) (te : TfE) : TfE := fun Γ M post xp => te Γ M (fun d M1 => ∃ fs, insOf M1 d = some (nc, fs) ∧ S [d] M1 (fun r M2 => ∃ z : Str, r = .str z ∧ post (.str z) M2) xp) xp
/-- c(..), c a variable that holds the class of the number nc, of whatever number of values -/
def tMkSV (i nc : Nat) (S : SpX) (ta : TfA) : TfE := fun Γ M post xp => Γ[i]? = some (some (.cls nc)) ∧ tMkS nc S ta Γ M post xp
section
variable {cs : CS} {X : Cx} {W : WX} {c c1 c2 c3 : Nat} {a b e : Expr} {es : List Expr} {p pos p2 p3 : Pos} {k j nc : Nat} {S : SpX}
theorem px_fmO {te : TfE} (G : FmF X.K cs nc) (F : MtD X.prog X.w X.K X.mg X.base cs k nc "__str__" 1 c2 S) (hr : RoomG j X.A) (tk : Takes X W) (he : PX cs X W c1 e te) (hk : k + 2 ≤ j := by decide) : PX cs X W (c1 + c2) (.FormattedValue e (-1) none pos) (tFmO nc S te) := ⟨fun u n H σ Γ post xp Q A hn q kn kx => by
  obtain ⟨C, f, fd, ps, hC, cl, hme, F, hb⟩ := F.ex
  obtain ⟨C', hC', g1, g2⟩ := G.ex
  rw [hC] at hC'; cases hC'
  refine TW.mk fun pins s I => ?_
  refine wpAny_FormattedValue_plain (thn (he.run u n H σ Γ _ xp (fun x H1 => ∀ s1 v, Inv X pins σ H1 s1 → RelV x v → wpAny (model X.prog X.w) X.A (formatField v Str.empty) (EP X pins σ Q) X.xe s1) A (by omega) q (fun x d u1 H1 e1 B1 r1 ⟨fs, hi, hS⟩ s1 v I1 rv => ?_) (kx.le (by omega)) pins s I) fun v s1 ⟨x, H1, I1, rx, q⟩ => q s1 v I1 rx)
  obtain ⟨a', C', ox, od, m, ex, ev, hC', J, hF⟩ := ins_st B1 I1 hi r1 rv
  rw [hC] at hC'; cases hC'
  subst ev
  have I2 := I1.tok (s1.toks + 1)
  refine PySem.W.kfo_fieldS (by have := (RoomG.in1 (hr.mono hk)).room.un; omega) I1.kIn J g1 g2 hme.at_ hme.fn (thn (run_in (Q := fun v H' => ∃ z : Str, v = .str z ∧ Q (.str z) H') F hb (RoomG.in1 (hr.mono (Nat.le_trans (Nat.le_succ _) hk))) I2.env0.in1 tk B1 (by omega) I2 (RepL.cons r1 RepL.nil) (.cons rv .nil) rfl hS (fun v d u' H' e B r ⟨i, ed, hq⟩ => by subst ed; exact ⟨i, r, kn (.str i) (.str i) u' H' (e1.trans A.toWd e) (B.up (by omega)) rfl hq⟩) (kx.go A.toWd e1 (by omega))) fun v s' h => ?_)
  obtain ⟨v', H', I', rv', i, ei, q⟩ := h
  subst ei
  obtain ⟨t, rfl⟩ := rv'
  exact ⟨.str i, H', I', ⟨_, rfl⟩, q⟩⟩
/-- c() -/
theorem px_mkSV0 (i : Nat) {x y : Str} (F : MkS X.prog X.w X.K X.mg X.base cs k y nc c2 S) (hr : RoomG j X.A) (tk : Takes X W) (hk : k + 1 ≤ j := by decide) (hN : X.N[i]? = some x := by rfl) (hv : Vis X.env.scope x := by first | exact Or.inl rfl | exact Or.inr (Or.inl rfl) | exact Or.inr (Or.inr rfl))
    (hdb : (x == ("__debug__" : Str)) = false := by decide) (hcd : (x == ("__classdict__" : Str)) = false := by decide) : PX cs X W c2 (.Call (.Name x p) [] [] pos) (tMkSV i nc S tNil) := ⟨fun u n H σ Γ post xp Q A hn ⟨hi, q⟩ kn kx => by
  obtain ⟨C, f, hC, M, F, hm⟩ := F.ex
  obtain ⟨v0, h0, r0⟩ := A.sl i _ hi
  have r0 : u.k.cls[nc]? = some v0 ∧ v0 ≠ .non := r0
  rw [A.ks.1, hC] at r0
  cases r0.1
  refine TW.mk fun pins s I => ?_
  refine wpAny_Call_Name_kw (thn ((pe_var (pos := p) (i := i) hN hv hdb hcd).run pins s σ H (fun v H1 => v = .ref C ∧ H1 = H) I ⟨.ref C, h0, rfl, rfl⟩) fun w s2 ⟨v, H2, I2, r2, ev, eH⟩ => ?_)
  subst ev
  rw [eH] at I2
  obtain rfl : w = Value.ref C := r2
  exact PySem.W.callWith_K0 I2.kIn M.kp (makeS_run (vs := []) (us := []) F (hr.mono hk) tk M I2 .nil fun x' dx hx hdx hne => mkS_sp (vs := []) A.toWd hn RepL.nil hC q kn kx hx hdx hne)⟩
/-- c(*e) -/
theorem px_mkStV (i : Nat) {x y : Str} {te : TfE} (F : MkS X.prog X.w X.K X.mg X.base cs k y nc c2 S) (hr : RoomG j X.A) (tk : Takes X W) (he : PX cs X W c1 e te) (hk : k + 1 ≤ j := by decide) (hN : X.N[i]? = some x := by rfl) (hv : Vis X.env.scope x := by first | exact Or.inl rfl | exact Or.inr (Or.inl rfl) | exact Or.inr (Or.inr rfl))
    (hdb : (x == ("__debug__" : Str)) = false := by decide) (hcd : (x == ("__classdict__" : Str)) = false := by decide)
    (hst : starEach [.Starred e p2] X.env = [(true, eval e X.env)] := by rfl) : PX cs X W (c1 + c2) (.Call (.Name x p) [.Starred e p2] [] pos) (tMkSV i nc S (tSpr te)) := ⟨fun u n H σ Γ post xp Q A hn ⟨hi, q⟩ kn kx => by
  obtain ⟨C, f, hC, M, F, hm⟩ := F.ex
  obtain ⟨v0, h0, r0⟩ := A.sl i _ hi
  have r0 : u.k.cls[nc]? = some v0 ∧ v0 ≠ .non := r0
  rw [A.ks.1, hC] at r0
  cases r0.1
  refine TW.mk fun pins s I => ?_
  refine wpAny_Call_Name_kw (thn ((pe_var (pos := p) (i := i) hN hv hdb hcd).run pins s σ H (fun v H1 => v = .ref C ∧ H1 = H) I ⟨.ref C, h0, rfl, rfl⟩) fun w s2 ⟨v, H2, I2, r2, ev, eH⟩ => ?_)
  subst ev
  rw [eH] at I2
  obtain rfl : w = Value.ref C := r2
  refine PySem.W.callWith_S (h₀ := X.base) I2.ok.mod.kin M.kp (thn (he.run u n H σ Γ _ xp (fun v H1 => ∃ q xs, v = .ref q ∧ (SqT X.K H1 q xs ∨ SqL X.K H1 q xs) ∧ ∀ x' dx, H1 x' = none → H1 dx = none → dx ≠ x' → spS cs c2 S (.ref x' :: xs) (upd (upd H1 dx (.own x')) x' (.ins C dx [])) (fun v H2 => v = .non ∧ Q (.ref x') H2) (fun cls d H' => W cls d σ H')) A (by omega) q (fun v d u1 H1 e1 B1 r1 ⟨ds, hd, hS⟩ => ?_) (kx.le (by omega)) pins s2 I2) fun v s1 ⟨y, H1, I1, ry, a, xs, ey, hxs, q⟩ => ?_) hst
  · obtain ⟨a, xs, ev, hxs, rl⟩ := sprd_rep (X := X) B1 hd r1
    exact ⟨a, xs, ev, hxs, fun x' dx hx hdx hne => mkS_sp B1 (by omega) rl hC hS (kn.go A.toWd e1 (by omega)) (kx.go A.toWd e1 (by omega)) hx hdx hne⟩
  · subst ey
    obtain rfl : v = Value.ref a := ry
    exact StX.star_any I1 hxs fun us s2 I2 rv => ⟨I2.kIn, makeS_run F (hr.mono hk) tk M I2 rv q⟩⟩
end
theorem r_mkSV {i nc : Nat} {S : SpX} {ta : TfA} {Γ : Gm} {M : Store} {post : DP} {xp : XP} (h : Γ[i]? = some (some (.cls nc))) (q : tMkS nc S ta Γ M post xp) : tMkSV i nc S ta Γ M post xp := ⟨h, q⟩
theorem r_fmO {nc : Nat} {S : SpX} {te : TfE} {Γ : Gm} {M : Store} {post : DP} {xp : XP} (q : te Γ M (fun d M1 => ∃ fs, insOf M1 d = some (nc, fs) ∧ S [d] M1 (fun r M2 => ∃ z : Str, r = .str z ∧ post (.str z) M2) xp) xp) : tFmO nc S te Γ M post xp := q
end Ev
-- k14f0
namespace K14
open PySem L2 Ev
local macro_rules | `(tactic| walk_at "e1") => `(tactic| with_reducible first
  | refine r_seq ?_ | refine r_bin ?_ | refine r_skip ?_ | refine r_asg ?_ | refine r_ret ?_ | refine r_ifs ?_ | refine r_con ?_
  | refine r_cons ?_ | refine r_nil ?_ | refine r_exb ?_ | refine r_exi ?_ | refine r_exs ?_ | refine r_tt ?_ | refine r_ff ?_ | refine r_nt ?_ | refine r_sw ?_
  | refine r_un ?_ | refine r_call ?_ | refine r_fn ?_ | refine r_test ?_ | refine r_notT ?_ | refine r_andT ?_ | refine r_orT ?_ | refine r_and ?_ | refine r_or ?_ | refine r_not ?_ | refine r_ifx ?_
  | refine r_tup ?_ | refine r_lst ?_ | refine r_tru_b ?_ | refine r_tru_i ?_ | refine r_tru_n ?_ | refine r_tru_l ?_ | refine r_tru_t ?_
  | refine r_add_ii ?_ | refine r_add_ib ?_ | refine r_sub ?_ | refine r_lt ?_ | refine r_le_ii ?_ | refine r_gt ?_ | refine r_ge ?_ | refine r_eq_i ?_ | refine r_eq_s ?_ | refine r_eq_b ?_ | refine r_eq_n ?_ | refine r_ne_i ?_ | refine r_ne_s ?_ | refine r_ne_b ?_ | refine r_in_s ?_ | refine r_nin_s ?_ | refine r_neg ?_ | refine r_lt_s ?_
  | refine r_sl ?_ | refine r_sl_l ?_ | refine r_sl_t ?_ | refine r_no ?_ | refine r_some ?_
  | refine r_len_l ?_ | refine r_len_t ?_ | refine r_len_d ?_ | refine r_int_i ?_ | refine r_int_b ?_ | refine r_abs ?_ | refine r_bool_i ?_ | refine r_bool_b ?_ | refine r_str_s ?_ | refine r_list_l ?_ | refine r_list_t ?_ | refine r_tuple_l ?_ | refine r_tuple_t ?_ | refine r_all ?_ | refine r_any ?_ | refine r_sum ?_ | refine r_max2 ?_ | refine r_min2 ?_
  | refine r_bm ?_ | refine r_tyS ?_ | refine r_tyL ?_ | refine r_tyD ?_ | refine r_count ?_ | refine r_meth ?_ | refine r_stat ?_ | refine r_cm ?_ | refine r_iscls ?_ | refine r_mk ?_ | refine r_mkE ?_ | refine r_mkM ?_ | refine r_hear ?_ | refine r_statK ?_ | refine r_methK ?_ | refine r_cmK ?_ | refine r_mkKw ?_
  | refine r_pass ?_ | refine r_break ?_ | refine r_cont ?_ | refine r_retN ?_ | refine r_drop ?_ | refine r_par ?_ | refine r_ex2 ?_ | refine r_raise1 ?_ | refine r_raise2 ?_ | refine r_try ?_ | refine r_unp ?_ | refine r_addI_i ?_ | refine r_isB ?_ | refine r_notB ?_ | refine r_rev ?_ | refine r_rev_l ?_ | refine r_fst ?_
  | refine r_gNm ?_ | refine r_gNil ?_ | refine r_gCons ?_ | refine r_for ?_ | refine r_it ?_ | refine r_it_l ?_ | refine r_it_t ?_ | refine r_it_s ?_ | refine r_rg1 ?_ | refine r_rg2 ?_ | refine r_lc ?_ | refine r_yes ?_ | refine r_chain0 ?_ | refine r_fstr ?_ | refine r_lc0 ?_ | refine r_lc1 ?_ | refine r_for0 ?_ | refine r_for1 ?_ | refine r_j0 ?_ | refine r_j1 ?_ | refine r_fm ?_)
local macro_rules | `(tactic| walk_at "e2") => `(tactic| first
  | ((with_reducible apply r_var); exact rfl)
  | ((with_reducible apply r_ar); exact rfl)
  | ((with_reducible apply r_ar1); exact rfl)
  | ((with_reducible apply r_le); focus (first | decide | (simp only [List.length_cons, List.length_nil]; decide)))
  | ((with_reducible apply r_is_t); exact rfl)
  | ((with_reducible apply r_is_f); exact rfl)
  | ((with_reducible apply r_isnt_t); exact rfl)
  | ((with_reducible apply r_isnt_f); exact rfl)
  | ((with_reducible apply r_isi_t); exact rfl; exact rfl)
  | ((with_reducible apply r_isi_f); exact rfl; exact rfl)
  | ((with_reducible apply r_fld); exact rfl; exact rfl; focus decide)
  | ((with_reducible apply r_recv); exact rfl; exact rfl)
  | ((with_reducible apply r_prop); exact rfl)
  | ((with_reducible apply r_ownS); exact rfl; exact rfl)
  | ((with_reducible apply r_own); exact rfl; exact rfl; focus decide)
  | ((with_reducible apply Or.inl); (with_reducible apply r_ownS); exact rfl; exact rfl)
  | ((with_reducible apply Or.inr); (with_reducible apply r_own); exact rfl; exact rfl; focus decide)
  | ((with_reducible apply r_ownC_o); exact rfl; exact rfl; focus decide)
  | ((with_reducible apply r_ownC_t); exact rfl; exact rfl; (focus decide); (focus decide))
  | ((with_reducible apply r_aug); exact rfl)
  | ((with_reducible apply r_ownRS); exact rfl)
  | ((with_reducible apply r_cval); focus (exact List.mem_cons_self))
  | ((with_reducible apply r_ownD_o); exact rfl; exact rfl; focus decide)
  | ((with_reducible apply r_ownD_t); exact rfl; exact rfl; (focus decide))
  | ((with_reducible apply r_ownNeD_o); exact rfl; exact rfl; focus decide)
  | ((with_reducible apply r_ownNeD_t); exact rfl; exact rfl; (focus decide))
  | ((with_reducible apply r_own1); exact rfl)
  | ((with_reducible apply r_ownB); exact rfl)
  | ((with_reducible apply r_ownN); exact rfl)
  | ((with_reducible apply r_ownA); exact rfl)
  | ((with_reducible apply r_ownStr); exact rfl)
  | ((with_reducible apply r_ownIn); exact rfl)
  | ((with_reducible apply r_ownR); exact rfl)
  | ((with_reducible apply r_mkV); exact rfl)
  | ((with_reducible apply r_fd); exact rfl)
  | ((with_reducible apply r_xf); exact rfl; focus decide)
  | ((with_reducible apply r_isx (b := true)); (focus decide); (focus decide); exact rfl)
  | ((with_reducible apply r_isx (b := false)); (focus decide); (focus decide); exact rfl)
  | ((with_reducible apply r_ar); exact rfl)
  | ((with_reducible apply r_gTup); exact rfl)
  | ((with_reducible apply r_gLs); exact rfl)
  | ((with_reducible apply r_ix_l); exact rfl)
  | ((with_reducible apply r_ix_t); exact rfl)
  | ((with_reducible apply r_fstI); (focus decide); (focus exact Nat.le_of_ble_eq_true rfl))
  | ((with_reducible apply r_dt); (first | assumption | exact rfl | focus decide))
  | ((with_reducible apply r_df); (first | assumption | focus decide))
  | ((with_reducible apply r_partE); assumption; (focus (try walk_at "es")); (focus (try walk_at "es")))
  | ((with_reducible apply r_ct); assumption)
  | ((with_reducible apply r_cf); assumption)
  | ((with_reducible apply r_yes)))
local macro_rules | `(tactic| walk_at "e") => `(tactic| repeat' (first | walk_at "e1" | walk_at "ec" | walk_at "e2" | walk_at "e3"))
local macro_rules | `(tactic| walk_at "e0") => `(tactic| simp only [G0, List.map_cons, List.map_nil, List.length_cons, List.length_nil, List.replicate, List.cons_append, List.nil_append, Nat.reduceAdd, Nat.reduceSub, Nat.sub_zero, Nat.zero_add])
local macro_rules | `(tactic| walk_at "e3") => `(tactic| first
  | ((with_reducible apply r_fdiv); focus (try walk_at "es"))
  | ((with_reducible apply r_mod); focus (try walk_at "es"))
  | ((with_reducible apply r_mul_ii); focus (try walk_at "es"))
  | ((with_reducible apply r_mul_si); focus (try walk_at "es"))
  | ((with_reducible apply r_mul_li); focus (try walk_at "es"))
  | ((with_reducible apply r_pow); focus (try walk_at "es"))
  | ((with_reducible apply r_add_ss); focus (try walk_at "es"))
  | ((with_reducible apply r_add_ll); focus (try walk_at "es"))
  | ((with_reducible apply r_add_tt); focus (try walk_at "es"))
  | ((with_reducible apply r_tru_s); focus (try walk_at "es"))
  | ((with_reducible apply r_sl_s); focus (try walk_at "es"))
  | ((with_reducible apply r_len_s); focus (try walk_at "es"))
  | ((with_reducible apply r_part); (focus (try walk_at "es")); (focus (try walk_at "es")))
  | ((with_reducible apply r_split); (focus (try walk_at "es")); (focus (try walk_at "es")))
  | ((with_reducible apply r_join); focus (try walk_at "es"))
  | ((with_reducible apply r_exh); focus (try walk_at "es"))
  | ((with_reducible apply r_str_i); focus (try walk_at "es"))
  | ((with_reducible apply r_le); focus (try walk_at "es"))
  | ((with_reducible apply r_fm_i); focus (try walk_at "es"))
  | ((with_reducible apply r_fm_s); focus (try walk_at "es"))
  | ((with_reducible apply r_jS); focus (try walk_at "es"))
  | ((with_reducible apply r_addI_s); focus (try walk_at "es"))
  | ((with_reducible apply r_rev_s); focus (try walk_at "es"))
  | ((with_reducible apply r_listS); focus (try walk_at "es"))
  | (with_reducible apply r_is; exact rfl)
  | (with_reducible apply r_isnt; exact rfl)
  | (with_reducible refine' r_dc (fun _ => ?_) (fun _ => ?_))
  | (with_reducible refine' r_cc (fun _ => ?_) (fun _ => ?_))
  | (with_reducible intro _))
local macro_rules | `(tactic| walk_at "en") => `(tactic| simp only [List.nil_append, List.cons_append, List.append_assoc])
def top (i : Nat) : Stmt := PySem.Challenge.pw_everystop_k14_rows_written_and_read.main.body.getD i (.Pass ⟨0, 0, 0, 0⟩)
structure TX (mg : Str → Option Value) (cs : CS) : Prop where
  abs : mg "abs" = none
  all : mg "all" = none
  enumerate : mg "enumerate" = none
  int : mg "int" = none
  isinstance : mg "isinstance" = none
  len : mg "len" = none
  range : mg "range" = none
  repr : mg "repr" = none
  sorted : mg "sorted" = none
  str : mg "str" = none
  tuple : mg "tuple" = none
  c_BadText : ∃ C, mg "BadText" = some (.ref C) ∧ cs.cls[2]? = some (.ref C)
  c_Word : ∃ C, mg "Word" = some (.ref C) ∧ cs.cls[7]? = some (.ref C)
  c_Row : ∃ C, mg "Row" = some (.ref C) ∧ cs.cls[10]? = some (.ref C)
  v_LETTERS_words : ∃ t, mg "LETTERS_words" = some (.str "abc" t)
  v_MOST_LETTERS : ∃ t, mg "MOST_LETTERS" = some (.int 8 t)
  v_MOST_WORDS : ∃ t, mg "MOST_WORDS" = some (.int 12 t)
  v_TAB : ∃ t, mg "TAB" = some (.str "|" t)
  v_EMPTY : ∃ t, mg "EMPTY" = some (.str "-" t)
  list : mg "list" = none
open SX PyProof.Rows PySem.Spec
abbrev isiO : List Nat := [7, 10]
abbrev isiS : Nat → Nat → Bool := fun a b => a == b
abbrev cpT_Word : List Bt := [.none, .bool, .int, .str, .tuple, .list, .dict]
abbrev cpO_Word : List Nat := [7]
abbrev abc : List Nat := [97, 98, 99]
/-- a word by its letters, ascending -/
abbrev wdD (a : Addr) (w : List Nat) : D := .obj a 7 [("text", .str (S w))]
def isTxt (l : List Nat) : Bool := decide (1 ≤ l.length) && decide (l.length ≤ 8) && l.all fun c => decide (c ∈ abc)
def canon (l : List Nat) : List Nat := (abc.map fun c => List.replicate (l.count c) c).flatten
def isTxtD : D → Bool | .str z => isTxt z.cps.toList | _ => false
theorem S_of (z : Str) : z = S z.cps.toList := (S_tl z).symm
theorem tl_S (l : List Nat) : (S l).cps.toList = l := by simp [S]
theorem isTxtD_S {l : List Nat} : isTxtD (.str (S l)) = isTxt l := by show isTxt (S l).cps.toList = _; rw [tl_S]
/-- isinstance of this data may be asked -/
def isiOk (os : List Nat) (M : Store) (d : D) : Prop := ∃ kd, kdOf M d = some kd ∧ ∀ c, kd = .ob c → c ∈ os
def isT (M : Store) (d : D) (T : Bt) : Bool := match kdOf M d with | some (.ty n) => n == T || (n == .bool && T == .int) | _ => false
def isC (M : Store) (d : D) (k : Nat) : Bool := match kdOf M d with | some (.ob c) => c == k | _ => false
theorem r_isiT {os : List Nat} {sub : Nat → Nat → Bool} {M : Store} {d : D} {T : Bt} {post : DP} {xp : XP} (h : isiOk os M d) (hT : T ∈ tysB) (q : post (.bl (isT M d T)) M) : tIsi os sub [d, .ty T] M post xp := by
  obtain ⟨kd, h1, h2⟩ := h
  cases kd with
  | ty n => exact ⟨d, _, _, _, rfl, h1, if_pos hT, by unfold isT at q; rw [h1] at q; exact q⟩
  | ob c => exact ⟨d, _, _, _, rfl, h1, if_pos ⟨h2 c rfl, hT⟩, by unfold isT at q; rw [h1] at q; exact q⟩
theorem r_isiC {os : List Nat} {sub : Nat → Nat → Bool} {M : Store} {d : D} {k : Nat} {post : DP} {xp : XP} (h : isiOk os M d) (hc : k ∈ os) (hs : ∀ c ∈ os, sub c k = (c == k)) (q : post (.bl (isC M d k)) M) : tIsi os sub [d, .cls k] M post xp := by
  obtain ⟨kd, h1, h2⟩ := h
  cases kd with
  | ty n => exact ⟨d, _, _, false, rfl, h1, if_pos hc, by unfold isC at q; rw [h1] at q; exact q⟩
  | ob c => exact ⟨d, _, _, c == k, rfl, h1, by show (if c ∈ os ∧ k ∈ os then some (sub c k) else none) = _; rw [if_pos ⟨h2 c rfl, hc⟩, hs c (h2 c rfl)], by unfold isC at q; rw [h1] at q; exact q⟩
theorem isT_str {M : Store} {d : D} : isT M d .str = true → ∃ z, d = .str z := by
  intro h
  unfold isT at h
  cases d with
  | str z => exact ⟨z, rfl⟩
  | loc n =>
    unfold kdOf at h
    dsimp only at h
    split at h
    · rename_i n' hk
      split at hk <;> first | (cases hk; done) | (injection hk with hk; injection hk with hk; subst hk; cases h; done)
    · cases h
  | _ => cases h
/-- data that stands still, of texts that are not long -/
structure Still (d : D) : Prop where
  isi : ∀ M, isiOk isiO M d
  lt : ∀ n, D.lt n d
  sz : ∀ l, d = .str (S l) → l.length ≤ 100000
  asc : ∀ l, d = .str (S l) → ∀ c ∈ l, c < 128
theorem Still.str {l : List Nat} (h : l.length ≤ 100000) (hc : ∀ c ∈ l, c < 128) : Still (.str (S l)) := ⟨fun M => ⟨_, rfl, nofun⟩, fun n => trivial, fun z e => by cases S_inj (D.str.inj e); exact h, fun z e => by cases S_inj (D.str.inj e); exact hc⟩
theorem Still.wd {a : Addr} {w : List Nat} : Still (wdD a w) := ⟨fun M => ⟨_, rfl, by intro c hc; cases hc; decide⟩, fun n => ⟨trivial, trivial⟩, nofun, nofun⟩
theorem Still.mk0 {d : D} (h1 : ∀ M, isiOk isiO M d) (h2 : ∀ n, D.lt n d) (h3 : ∀ z, d ≠ .str z) : Still d := ⟨h1, h2, fun l e => absurd e (h3 _), fun l e => absurd e (h3 _)⟩
theorem ltL_signs {n : Nat} (l : List Nat) : D.ltL n (signs (S l)) := by
  rw [signs_S]
  induction l with
  | nil => trivial
  | cons c l ih => exact ⟨trivial, ih⟩
local macro_rules | `(tactic| walk_at "still") => `(tactic| first
  | (exact Still.wd)
  | (exact Still.str (by assumption) (by assumption))
  | (exact Still.str (by first | decide | omega) (by first | decide | assumption))
  | (exact Still.mk0 (fun M => ⟨_, rfl, by intro c hc; cases hc⟩) (fun n => by simp [D.lt, D.ltL, D.ltF, D.ltK, ltL_signs]) nofun))
theorem abc_asc {l : List Nat} (h : ∀ c ∈ l, c ∈ abc) : ∀ c ∈ l, c < 128 := fun c hc => by
  have := h c hc
  simp only [List.mem_cons, List.not_mem_nil, or_false] at this
  omega
theorem isTxt_iff {l : List Nat} : isTxt l = true ↔ 1 ≤ l.length ∧ l.length ≤ 8 ∧ ∀ c ∈ l, c ∈ abc := by
  unfold isTxt
  rw [Bool.and_eq_true, Bool.and_eq_true, decide_eq_true_eq, decide_eq_true_eq, List.all_eq_true, and_assoc]
  exact and_congr_right fun _ => and_congr_right fun _ => ⟨fun h c hc => of_decide_eq_true (h c hc), fun h c hc => decide_eq_true (h c hc)⟩
theorem canon_perm {l : List Nat} (h : ∀ c ∈ l, c ∈ abc) : (canon l).Perm l := by
  rw [List.perm_iff_count]
  intro c
  unfold canon
  by_cases hc : c ∈ l
  · have := h c hc
    simp only [List.mem_cons, List.not_mem_nil, or_false] at this
    rcases this with rfl | rfl | rfl <;> simp [List.count_replicate]
  · rw [List.count_eq_zero.mpr hc]
    rw [List.count_eq_zero]
    intro hm
    rw [List.mem_flatten] at hm
    obtain ⟨r, hr, hcr⟩ := hm
    rw [List.mem_map] at hr
    obtain ⟨x, _, rfl⟩ := hr
    have e := List.mem_replicate.mp hcr
    rw [e.2] at hc
    exact e.1 (List.count_eq_zero.mpr hc)
theorem canon_len {l : List Nat} (h : ∀ c ∈ l, c ∈ abc) : (canon l).length = l.length := (canon_perm h).length_eq
theorem canon_mem {l : List Nat} : ∀ c ∈ canon l, c ∈ abc := by
  intro c hc
  unfold canon at hc
  rw [List.mem_flatten] at hc
  obtain ⟨r, hr, hcr⟩ := hc
  rw [List.mem_map] at hr
  obtain ⟨x, hx, rfl⟩ := hr
  rw [(List.mem_replicate.mp hcr).2]; exact hx
theorem canon_txt {l : List Nat} (h : isTxt l = true) : isTxt (canon l) = true := by
  rw [isTxt_iff] at h ⊢
  rw [canon_len h.2.2]
  exact ⟨h.1, h.2.1, canon_mem⟩
theorem canon_congr {l m : List Nat} (h : l.Perm m) : canon l = canon m := by
  unfold canon
  have e : (fun c => List.replicate (l.count c) c) = fun c => List.replicate (m.count c) c := by
    funext c
    rw [List.perm_iff_count.mp h c]
  rw [e]
theorem canon_idem {l : List Nat} (h : ∀ c ∈ l, c ∈ abc) : canon (canon l) = canon l := canon_congr (canon_perm h)
theorem joinL_nil : ∀ ys : List (List Nat), TL.joinL [] ys = ys.flatten
  | [] => rfl
  | [x] => by simp [TL.joinL]
  | x :: y :: r => by
    have ih := joinL_nil (y :: r)
    unfold TL.joinL
    rw [ih]; simp
theorem join_cat {α : Type} (xs : List α) (g : α → List Nat) : Txt.join (S []) (xs.map fun x => S (g x)) = S ((xs.map g).flatten) := by
  have e : (xs.map fun x => S (g x)) = (xs.map g).map S := by rw [List.map_map]; rfl
  rw [e, join_S, joinL_nil]
theorem count_S (c : Nat) (l : List Nat) : Txt.count (S l) (S [c]) = (l.count c : Int) := by
  have := count_cN c (S l)
  unfold cN at this
  rw [tl_S] at this
  exact this
theorem rep_S (l : List Nat) (n : Int) : repS (S l) n = S ((List.replicate n.toNat l).flatten) := by
  apply str_ext
  unfold repS
  rw [tl_S, tl_S, cp_ofL]
theorem rep1 (c : Nat) (n : Nat) : (List.replicate n [c]).flatten = List.replicate n c := by
  induction n with
  | zero => rfl
  | succ n ih => rw [List.replicate_succ, List.flatten_cons, ih]; rfl
theorem len_small {l : List Nat} (h : l.length ≤ 100000) : (S l).length ≤ sizeLine := by rw [S_len]; exact Nat.le_trans h (by decide)
local macro_rules | `(tactic| walk_at "es") => `(tactic| first | assumption | decide | omega | (exact len_small ‹_›) | (simp only [List.length_cons, List.length_nil, List.length_append]; decide))
local macro_rules | `(tactic| walk_at "rd") => `(tactic| first
  | assumption | exact Rd.non | exact Rd.bl | exact RdL.nil | exact RdK.nil
  | ((with_reducible apply Rd.tup); walk_at "rd") | ((with_reducible apply Rd.lst); walk_at "rd") | ((with_reducible apply Rd.dic); walk_at "rd")
  | ((with_reducible apply RdL.cons); (focus walk_at "rd"); (focus walk_at "rd"))
  | ((with_reducible apply RdK.str); (focus (exact Nat.le_refl _)); (focus decide); (focus walk_at "rd"); (focus walk_at "rd"))
  | ((with_reducible apply Rd.str); (focus assumption); (focus assumption))
  | ((with_reducible apply Rd.str); (focus (exact Nat.le_refl _)); (focus decide))
  | ((with_reducible apply Rd.int); (focus (first | assumption | decide)))
  | ((with_reducible apply Rd.int); (focus (simp only [Int.natAbs_natCast]; exact lt_of_lt_log ‹_›)))
  | ((simp only [List.nil_append, List.cons_append, Int.reduceToNat, List.reduceReplicate, List.flatten_cons, List.flatten_nil, Int.toNat_natCast, List.length_cons, List.length_nil, Nat.reduceAdd]); walk_at "rd"))
theorem lt_of_lt_log {n m : Nat} (h : n ≤ m) (hm : m.log2 < 1920 := by decide) : n.log2 < 1920 := by
  by_cases e : n = 0
  · subst e; decide
  · have h2 := Nat.log2_lt (n := n) (k := 1920) e
    rw [h2]
    by_cases e2 : m = 0
    · omega
    · exact Nat.lt_of_le_of_lt h ((Nat.log2_lt e2).mp hm)
theorem eqT {post : DP} {M : Store} {p : Prop} [Decidable p] (h : p) (hp : post (.bl true) M) : post (.bl (decide p)) M := by rw [decide_eq_true h]; exact hp
local macro_rules | `(tactic| walk_at "ec") => `(tactic| fail "none")
abbrev cpT_Row : List Bt := [.none, .bool, .int, .str, .tuple, .list, .dict]
abbrev cpO_Row : List Nat := [10]
/-- the words of a row: an address and the letters of each -/
abbrev Wds : Type := List (Addr × List Nat)
abbrev wdsD (ps : Wds) : List D := ps.map fun p => wdD p.1 p.2
abbrev rwD (a : Addr) (ps : Wds) : D := .obj a 10 [("words", .tup (wdsD ps))]
theorem ltL_wds {n : Nat} : ∀ ps : Wds, D.ltL n (wdsD ps)
  | [] => trivial
  | p :: ps => ⟨⟨trivial, trivial⟩, ltL_wds ps⟩
theorem Still.rw {a : Addr} {ps : Wds} : Still (rwD a ps) := ⟨fun M => ⟨_, rfl, by intro c hc; cases hc; decide⟩, fun n => ⟨ltL_wds ps, trivial⟩, nofun, nofun⟩
local macro_rules | `(tactic| walk_at "ec") => `(tactic| first
  | (with_reducible apply r_en) | (with_reducible apply r_en_l) | (with_reducible apply r_en_t) | (with_reducible apply r_mkS) | (with_reducible apply r_spr) | (with_reducible apply r_spr_l) | (with_reducible apply r_spr_t) | (with_reducible apply r_starA) | (with_reducible apply r_lrg2)
  | ((with_reducible apply r_ownIx); (focus exact rfl)))
def isIntD : D → Bool | .int _ => true | _ => false
theorem Still.nl {d : D} (h : Still d) : ∀ n, d ≠ .loc n := fun n e => by
  subst e
  exact absurd (h.lt 0) (by simp [D.lt])
def isWdD : D → Bool | .obj _ c _ => c == 7 | .str z => isTxt z.cps.toList | _ => false
def clsD : D → Option Nat | .obj _ c _ => some c | _ => none
theorem Still.isc {d : D} (h : Still d) (M : Store) (k : Nat) : isC M d k = (clsD d == some k) := by
  cases d with
  | loc n => exact absurd rfl (h.nl n)
  | _ => rfl
theorem Still.int2 {d : D} (h : Still d) (M : Store) : (isT M d .int && !isT M d .bool) = isIntD d := by
  cases d with
  | loc n => exact absurd rfl (h.nl n)
  | _ => rfl
/-- what is an instance of Word is a word -/
def WdOk (d : D) : Prop := ∀ a fs, d = .obj a 7 fs → ∃ w, fs = [(("text" : Str), D.str (S w))] ∧ isTxt w = true
/-- the letters of a word or its text -/
def asW : D → List Nat
  | .obj _ _ [(_, .str z)] => z.cps.toList
  | .str z => canon z.cps.toList
  | _ => []
theorem asW_wd {a : Addr} {w : List Nat} : asW (wdD a w) = w := by show (S w).cps.toList = w; rw [tl_S]
theorem asW_S {l : List Nat} : asW (.str (S l)) = canon l := by show canon (S l).cps.toList = _; rw [tl_S]
theorem isWdD_S {l : List Nat} : isWdD (.str (S l)) = isTxt l := by show isTxt (S l).cps.toList = _; rw [tl_S]
theorem isWd_cases {d : D} (h : isWdD d = true) (hw : WdOk d) : (∃ a w, d = wdD a w ∧ isTxt w = true) ∨ ∃ l, d = .str (S l) ∧ isTxt l = true := by
  cases d with
  | obj a c fs =>
    have : c = 7 := by simpa [isWdD] using h
    subst this
    obtain ⟨w, rfl, hw'⟩ := hw a fs rfl
    exact .inl ⟨a, w, rfl, hw'⟩
  | str z => exact .inr ⟨z.cps.toList, by rw [← S_of z], h⟩
  | _ => cases h
theorem asW_txt {d : D} (h : isWdD d = true) (hw : WdOk d) : isTxt (asW d) = true := by
  rcases isWd_cases h hw with ⟨a, w, rfl, h'⟩ | ⟨l, rfl, h'⟩
  · rw [asW_wd]; exact h'
  · rw [asW_S]; exact canon_txt h'
theorem WdOk.str {z : Str} : WdOk (.str z) := nofun
theorem WdOk.wd {a : Addr} {w : List Nat} (h : isTxt w = true) : WdOk (wdD a w) := fun b fs e => by cases e; exact ⟨w, rfl, h⟩
abbrev strsD (ts : List (List Nat)) : List D := ts.map fun t => .str (S t)
theorem strs_map {α : Type} (f : α → List Nat) (xs : List α) : strsD (xs.map f) = xs.map fun x => D.str (S (f x)) := List.map_map
/-- a comprehension of words -/
theorem lcL_wds {tg : TfG} {te : TfE} {Γ0 : Gm} {post : DP} {M : Store} (f : D → List Nat) : ∀ (ds acc : List D), (∀ d ∈ ds, ∀ p : DP, (∀ a, p (wdD a (f d)) M) → tg d Γ0 (fun Γ' => te Γ' M p XNo)) → (∀ ps : Wds, ps.map (·.2) = ds.map f → post (.lst (acc ++ wdsD ps)) M) → lcL tg tYesT te Γ0 post ds acc M
  | [], acc, _, q => by
    have q : post (.lst (acc ++ [])) M := q [] rfl
    rw [List.append_nil] at q; exact q
  | x :: xs, acc, h, q => by
    have e : ∀ p : DP, (fun Γ' => tYesT Γ' M (fun b M2 => (b = true → te Γ' M2 p XNo) ∧ (b = false → lcL tg tYesT te Γ0 post xs acc M2)) XNo) = fun Γ' => te Γ' M p XNo := fun p => by
      funext Γ'
      exact propext ⟨fun z => z.1 rfl, fun z => ⟨fun _ => z, nofun⟩⟩
    show tg x Γ0 (fun Γ' => tYesT Γ' M (fun b M2 => (b = true → te Γ' M2 _ XNo) ∧ (b = false → lcL tg tYesT te Γ0 post xs acc M2)) XNo)
    rw [e]
    refine h x List.mem_cons_self _ fun a => ?_
    refine lcL_wds f xs (acc ++ [wdD a (f x)]) (fun d hd => h d (List.mem_cons_of_mem _ hd)) fun ps hps => ?_
    rw [List.append_assoc]
    exact q ((a, f x) :: ps) (by rw [List.map_cons, List.map_cons, hps])
theorem r_lcW {tg : TfG} {js : List Nat} {te : TfE} {Γ : Gm} {post : DP} {M : Store} {ds : List D} (f : D → List Nat) (hl : ds.length ≤ 100000) (h : ∀ d ∈ ds, ∀ p : DP, (∀ a, p (wdD a (f d)) M) → tg d (wG Γ js) (fun Γ' => te Γ' M p XNo)) (q : ∀ ps : Wds, ps.map (·.2) = ds.map f → post (.lst (wdsD ps)) M) : lcK tg js tYesT te Γ post ds STrue M := r_lcL hl (lcL_wds f ds [] h (by simpa using q))
theorem S_eqP' {a b : List Nat} : (S a = S b) ↔ a = b := ⟨fun h => S_inj h, fun h => by rw [h]⟩
theorem inV_strs {w : List Nat} (ts : List (List Nat)) : inV (V.str (S w)) ((strsD ts).map vD) = decide (w ∈ ts) := by
  induction ts with
  | nil => rfl
  | cons t ts ih =>
    show (eqV (V.str (S t)) (V.str (S w)) || inV (V.str (S w)) ((strsD ts).map vD)) = _
    rw [ih, Bool.eq_iff_iff]
    simp [eqV, S_eqP']
    exact or_congr_left eq_comm
theorem r_inL {w : List Nat} {ts : List (List Nat)} {M : Store} {post : DP} {xp : XP} (q : post (.bl (decide (w ∈ ts))) M) : tIn false (.str (S w)) (.lst (strsD ts)) M post xp := by
  refine ⟨rfl, ?_, ?_⟩
  · rw [List.all_map]; exact List.all_eq_true.mpr fun _ _ => rfl
  · rw [if_neg (by decide)]
    show post (.bl (inV (V.str (S w)) ((strsD ts).map vD))) M
    rw [inV_strs]; exact q
/-- a comprehension of things of one kind -/
theorem lcL_any {tg : TfG} {te : TfE} {Γ0 : Gm} {post : DP} {M : Store} (Y : D → Prop) : ∀ (ds acc : List D), (∀ d ∈ ds, ∀ p : DP, (∀ y, Y y → p y M) → tg d Γ0 (fun Γ' => te Γ' M p XNo)) → (∀ ys : List D, ys.length = ds.length → (∀ y ∈ ys, Y y) → post (.lst (acc ++ ys)) M) → lcL tg tYesT te Γ0 post ds acc M
  | [], acc, _, q => by
    have q := q [] rfl (fun _ h => (List.not_mem_nil h).elim)
    rw [List.append_nil] at q; exact q
  | x :: xs, acc, h, q => by
    have e : ∀ p : DP, (fun Γ' => tYesT Γ' M (fun b M2 => (b = true → te Γ' M2 p XNo) ∧ (b = false → lcL tg tYesT te Γ0 post xs acc M2)) XNo) = fun Γ' => te Γ' M p XNo := fun p => by
      funext Γ'
      exact propext ⟨fun z => z.1 rfl, fun z => ⟨fun _ => z, nofun⟩⟩
    show tg x Γ0 (fun Γ' => tYesT Γ' M (fun b M2 => (b = true → te Γ' M2 _ XNo) ∧ (b = false → lcL tg tYesT te Γ0 post xs acc M2)) XNo)
    rw [e]
    refine h x List.mem_cons_self _ fun y hy => ?_
    refine lcL_any Y xs (acc ++ [y]) (fun d hd => h d (List.mem_cons_of_mem _ hd)) fun ys hl hys => ?_
    rw [List.append_assoc]
    exact q (y :: ys) (by rw [List.length_cons, hl]; rfl) fun z hz => (List.mem_cons.mp hz).elim (fun e => e ▸ hy) (hys z)
theorem r_lcA {tg : TfG} {js : List Nat} {te : TfE} {Γ : Gm} {post : DP} {M : Store} {ds : List D} (Y : D → Prop) (hl : ds.length ≤ 100000) (h : ∀ d ∈ ds, ∀ p : DP, (∀ y, Y y → p y M) → tg d (wG Γ js) (fun Γ' => te Γ' M p XNo)) (q : ∀ ys : List D, ys.length = ds.length → (∀ y ∈ ys, Y y) → post (.lst ys) M) : lcK tg js tYesT te Γ post ds STrue M := r_lcL hl (lcL_any Y ds [] h (by simpa using q))
theorem lcL_none {tg : TfG} {tt : TfT} {te : TfE} {Γ0 : Gm} {post : DP} {M : Store} : ∀ (ds acc : List D), (∀ d ∈ ds, ∀ (p : DP) (p2 : Store → Prop), p2 M → tg d Γ0 (fun Γ' => tt Γ' M (fun b M2 => (b = true → te Γ' M2 p XNo) ∧ (b = false → p2 M2)) XNo)) → post (.lst acc) M → lcL tg tt te Γ0 post ds acc M
  | [], acc, _, q => q
  | x :: xs, acc, h, q => h x List.mem_cons_self _ _ (lcL_none xs acc (fun d hd => h d (List.mem_cons_of_mem _ hd)) q)
theorem r_lcNone {tg : TfG} {js : List Nat} {tt : TfT} {te : TfE} {Γ : Gm} {post : DP} {M : Store} {ds : List D} (hl : ds.length ≤ 100000) (h : ∀ d ∈ ds, ∀ (p : DP) (p2 : Store → Prop), p2 M → tg d (wG Γ js) (fun Γ' => tt Γ' M (fun b M2 => (b = true → te Γ' M2 p XNo) ∧ (b = false → p2 M2)) XNo)) (q : post (.lst []) M) : lcK tg js tt te Γ post ds STrue M := r_lcL hl (lcL_none ds [] h q)
theorem dec_comm {α : Type} [DecidableEq α] {a b : α} : decide (a = b) = decide (b = a) := by
  by_cases h : a = b
  · subst h; rfl
  · rw [decide_eq_false h, decide_eq_false fun z => h z.symm]
theorem signs_any {ys : List D} (h : ∀ y ∈ ys, ∃ c ∈ abc, y = .str (S [c])) : ∃ l : List Nat, ys = l.map (fun c => .str (S [c])) ∧ ∀ c ∈ l, c ∈ abc := by
  induction ys with
  | nil => exact ⟨[], rfl, fun _ h => (List.not_mem_nil h).elim⟩
  | cons y ys ih =>
    obtain ⟨c, hc, rfl⟩ := h y List.mem_cons_self
    obtain ⟨l, rfl, hl⟩ := ih fun z hz => h z (List.mem_cons_of_mem _ hz)
    exact ⟨c :: l, rfl, fun z hz => (List.mem_cons.mp hz).elim (fun e => e ▸ hc) (hl z)⟩
theorem sing_strs (l : List Nat) : (l.map fun c => D.str (S [c])) = (l.map fun c => S [c]).map D.str := by rw [List.map_map]; rfl
theorem map_sing (l : List Nat) : (l.map fun c => [c]).flatten = l := by
  induction l with
  | nil => rfl
  | cons c l ih => rw [List.map_cons, List.flatten_cons, ih]; rfl
theorem sum_sing (m : List Nat) : ((m.map fun c => S [c]).map (·.length)).sum = m.length := by
  induction m with
  | nil => rfl
  | cons c m ih =>
    rw [List.map_cons, List.map_cons, List.sum_cons, ih, S_len]
    simp only [List.length_cons, List.length_nil]
    omega
theorem canon_sorted (l : List Nat) : (canon l).Pairwise (· ≤ ·) := by
  unfold canon
  simp only [List.map_cons, List.map_nil, List.flatten_cons, List.flatten_nil, List.append_nil, List.pairwise_append, List.pairwise_replicate, List.mem_replicate, List.mem_append]
  refine ⟨.inr (Nat.le_refl _), ⟨.inr (Nat.le_refl _), .inr (Nat.le_refl _), ?_⟩, ?_⟩
  · rintro a ⟨_, rfl⟩ b ⟨_, rfl⟩; decide
  · rintro a ⟨_, rfl⟩ b (⟨_, rfl⟩ | ⟨_, rfl⟩) <;> decide
theorem rising_S : ∀ (l : List Nat) (c : Nat), (c :: l).Pairwise (· ≤ ·) → risingS (S [c]) (l.map fun c => S [c]) = true
  | [], _, _ => rfl
  | d :: l, c, h => by
    obtain ⟨h1, h2⟩ := List.pairwise_cons.mp h
    have h3 := h1 d List.mem_cons_self
    rw [List.map_cons]
    unfold risingS
    rw [Bool.and_eq_true, ltCps_eq]
    refine ⟨?_, rising_S l d h2⟩
    rw [tl_S, tl_S]
    simp only [Bool.not_eq_true', decide_eq_false_iff_not]
    intro z
    rw [List.cons_lt_cons_iff] at z
    rcases z with z | ⟨_, z⟩
    · omega
    · exact absurd z (List.not_lt_nil _)
theorem sortedS_canon (l : List Nat) : sortedS ((canon l).map fun c => S [c]) = true := by
  have h := canon_sorted l
  cases e : canon l with
  | nil => rfl
  | cons c r => rw [e] at h; exact rising_S r c h
theorem lay_strs : ∀ (ws : List Str), (∀ w ∈ ws, PyData.strOk w = true) → PyData.canLayAll0 (ws.map PyData.str) = true
  | [], _ => rfl
  | w :: ws, h => by
    have ih := lay_strs ws (fun x hx => h x (List.mem_cons_of_mem _ hx))
    simp [PyData.canLayAll0, PyData.canLay0, ih, h w List.mem_cons_self]
theorem dep_strs (ws : List Str) : PyData.depthAll (ws.map PyData.str) ≤ 1 := by
  induction ws with
  | nil => simp [PyData.depthAll]
  | cons w ws ih => simp [PyData.depthAll, PyData.depth]; omega
theorem pyL_strs (ws : List Str) : pyL (ws.map D.str) = some (ws.map PyData.str) := by
  induction ws with
  | nil => rfl
  | cons w ws ih => rw [List.map_cons, List.map_cons]; unfold pyL; rw [ih]; rfl
theorem ok_asc {c : Nat} (h : c < 128) : PyData.strOk (S [c]) = true := by
  simp [PyData.strOk, S]
  omega
theorem r_eq_nil {ws : List Str} {M : Store} {post : DP} {xp : XP} (hok : ∀ w ∈ ws, PyData.strOk w = true) (q : post (.bl ws.isEmpty) M) : tEq (.lst (ws.map D.str)) (.lst []) M post xp := by
  have h := lay_strs ws hok
  have h2 := dep_strs ws
  refine .inr ⟨.list (ws.map PyData.str), .list [], by show (pyL _).map _ = _; rw [pyL_strs]; rfl, rfl, by simp [SeqAt.shaped, PyData.canLay0, PyData.depth, h]; omega, rfl, ?_⟩
  have e : PyData.eqv (.list (ws.map PyData.str)) (.list []) = ws.isEmpty := by
    cases ws <;> simp [PyData.eqv, PyData.eqvAll]
  rw [if_neg (by decide), e]; exact q
theorem tyM_li {M : Store} {es : List D} : tyM (M ++ [Cell.li es]) "list" (.loc M.length) := by simp [tyM]
theorem r_append {M : Store} {es : List D} {x : D} {post : DP} (h : es.length < sizeLine) (q : post .non (M ++ [Cell.li (es ++ [x])])) : tAppend (.loc M.length) [x] (M ++ [Cell.li es]) post := ⟨M.length, es, x, ⟨rfl, by simp⟩, rfl, h, by simpa using q⟩
theorem r_frzL {Γ : Gm} {M : Store} {O : Out} {i : Nat} {ds : List D} {t : TfS} (g : Γ[i]? = some (some (.loc M.length))) (q : t (Γ.set i (some (.lst ds))) (M ++ [Cell.dead]) O) : tFrzS i t Γ (M ++ [Cell.li ds]) O := ⟨M.length, ds, g, by simp, by simpa using q⟩
theorem r_appendC {M ex : Store} {es : List D} {x : D} {post : DP} (h : es.length < sizeLine) (q : post .non (M ++ Cell.li (es ++ [x]) :: ex)) : tAppend (.loc M.length) [x] (M ++ Cell.li es :: ex) post := ⟨M.length, es, x, ⟨rfl, by simp⟩, rfl, h, by simpa using q⟩
theorem r_frzC {Γ : Gm} {M ex : Store} {O : Out} {i : Nat} {ds : List D} {t : TfS} (g : Γ[i]? = some (some (.loc M.length))) (q : t (Γ.set i (some (.lst ds))) (M ++ Cell.dead :: ex) O) : tFrzS i t Γ (M ++ Cell.li ds :: ex) O := ⟨M.length, ds, g, by simp, by simpa using q⟩
theorem tyM_liC {M ex : Store} {es : List D} : tyM (M ++ Cell.li es :: ex) "list" (.loc M.length) := by simp [tyM]
local macro_rules | `(tactic| walk_at "ec") => `(tactic| first
  | (with_reducible refine ⟨tyM_liC, ?_⟩)
  | ((with_reducible apply r_appendC); (focus (simp only [List.length_cons, List.length_nil, List.length_append]; decide)))
  | ((with_reducible apply r_frzC); (focus rfl); walk_at "en")
  | (with_reducible refine ⟨tyM_li, ?_⟩)
  | (with_reducible apply r_lstM)
  | ((with_reducible apply r_append); (focus (simp only [List.length_cons, List.length_nil, List.length_append]; decide)))
  | ((with_reducible apply r_frzL); (focus rfl); walk_at "en"))
theorem strs_str (ts : List (List Nat)) : strsD ts = (ts.map S).map D.str := by rw [List.map_map]; rfl
theorem strs_snoc (ts : List (List Nat)) (t : List Nat) : strsD (ts ++ [t]) = strsD ts ++ [.str (S t)] := List.map_append
theorem shaped_strs (ws : List Str) (hs : ∀ w ∈ ws, PyData.strOk w = true) : SeqAt.shaped (.list (ws.map PyData.str)) = true := by
  have h := lay_strs ws hs
  have h2 := dep_strs ws
  simp [SeqAt.shaped, PyData.canLay0, PyData.depth, h]; omega
theorem r_neE {M : Store} {ts : List (List Nat)} {post : DP} {xp : XP} (hok : ∀ t ∈ ts, ∀ c ∈ t, c < 128) (q : post (.bl (!ts.isEmpty)) (M ++ [Cell.li (strsD ts)])) : tNeL (.loc M.length) (.lst []) (M ++ [Cell.li (strsD ts)]) post xp := by
  have hs : ∀ w ∈ ts.map S, PyData.strOk w = true := fun w hw => by
    obtain ⟨t, ht, rfl⟩ := List.mem_map.mp hw
    have := hok t ht
    simp [PyData.strOk, S]
    intro c hc
    have := this c hc
    omega
  refine r_neL (ps := (ts.map S).map PyData.str) (y2 := .list []) (by rw [strs_str]; exact pyL_strs _) rfl (shaped_strs _ hs) rfl ?_
  have e : PyData.eqv (.list ((ts.map S).map PyData.str)) (.list []) = ts.isEmpty := by
    cases ts <;> simp [PyData.eqv, PyData.eqvAll]
  rw [e]; exact q
/-- rows of at most twelve words -/
def TxO (ts : List (List Nat)) : Prop := ts.length ≤ 12 ∧ ∀ t ∈ ts, isTxt t = true
abbrev isxO : List Nat := [2]
abbrev isxK : List Nat := [2]
abbrev isxB : Nat → Nat → Bool := fun a b => a == b
abbrev textX (a b : D) : D := .tup [.str (S [116, 101, 120, 116]), a, b]
local macro_rules | `(tactic| walk_at "ec") => `(tactic| first
  | ((with_reducible apply r_mkSV); (focus exact rfl))
  | (with_reducible apply r_fmO)
  | ((with_reducible apply r_splitP); (focus assumption))
  | ((with_reducible apply r_slLast); (focus assumption)))
theorem wds_len {ps : Wds} : (wdsD ps).length = ps.length := List.length_map _
/-- the parts of a text between bars -/
def prt (l : List Nat) : List (List Nat) := TL.spl [124] 0 [] l
theorem spl_all : ∀ (l acc : List Nat), TL.spl [124] 0 acc l ≠ [] ∧ (TL.spl [124] 0 acc l).length ≤ l.length + 1 ∧ ∀ p ∈ TL.spl [124] 0 acc l, p.length ≤ acc.length + l.length ∧ ∀ c ∈ p, c ∈ acc ∨ c ∈ l
  | [], acc => by
    rw [TL.spl_nil]
    refine ⟨by simp, by simp, fun p hp => ?_⟩
    rw [List.mem_singleton.mp hp]
    exact ⟨by simp, fun c hc => .inl hc⟩
  | c :: r, acc => by
    cases h : TL.pre [124] (c :: r) with
    | true =>
      have e : TL.spl [124] 0 acc (c :: r) = acc :: TL.spl [124] 0 [] r := by rw [TL.spl_hit h]; rfl
      obtain ⟨h1, h2, h3⟩ := spl_all r []
      rw [e]
      refine ⟨by simp, by simp only [List.length_cons]; omega, fun p hp => ?_⟩
      rcases List.mem_cons.mp hp with rfl | hp
      · exact ⟨by omega, fun x hx => .inl hx⟩
      · obtain ⟨k1, k2⟩ := h3 p hp
        exact ⟨by simp only [List.length_nil, List.length_cons] at k1 ⊢; omega, fun x hx => .inr ((k2 x hx).elim (fun z => absurd z List.not_mem_nil) (List.mem_cons_of_mem _))⟩
    | false =>
      obtain ⟨h1, h2, h3⟩ := spl_all r (acc ++ [c])
      rw [TL.spl_miss h]
      refine ⟨h1, by simp only [List.length_cons]; omega, fun p hp => ?_⟩
      obtain ⟨k1, k2⟩ := h3 p hp
      refine ⟨by simp only [List.length_append, List.length_cons, List.length_nil] at k1 ⊢; omega, fun x hx => ?_⟩
      rcases k2 x hx with z | z
      · rcases List.mem_append.mp z with z | z
        · exact .inl z
        · rw [List.mem_singleton.mp z]; exact .inr List.mem_cons_self
      · exact .inr (List.mem_cons_of_mem _ z)
theorem prt_ne (l : List Nat) : prt l ≠ [] := (spl_all l []).1
theorem prt_len (l : List Nat) : (prt l).length ≤ l.length + 1 := (spl_all l []).2.1
theorem prt_mem {l p : List Nat} (h : p ∈ prt l) : p.length ≤ l.length ∧ ∀ c ∈ p, c ∈ l := by
  obtain ⟨h1, h2⟩ := (spl_all l []).2.2 p h
  exact ⟨by simpa using h1, fun c hc => (h2 c hc).elim (fun z => absurd z List.not_mem_nil) id⟩
theorem split_prt (l : List Nat) : (Txt.split (S l) (S [124])).map D.str = strsD (prt l) := by
  rw [split_S (by simp) (by decide), List.map_map]; rfl
theorem r_splitP {l : List Nat} {M : Store} {post : DP} (h : (S l).length + 2 ≤ sizeLine) (q : post (.lst (strsD (prt l))) M) : tSplit (.str (S l)) [.str (S [124])] M post := r_split (by rw [S_len]; rfl) h (by rw [split_prt]; exact q)
def isEnd (qs : List (List Nat)) : Bool := decide (1 < qs.length) && decide (qs.getLast? = some [])
def txs (l : List Nat) : List (List Nat) := if isEnd (prt l) then (prt l).dropLast else prt l
theorem txs_sub (l : List Nat) : ∀ p ∈ txs l, p ∈ prt l := fun p hp => by
  unfold txs at hp
  split at hp
  · exact List.dropLast_subset _ hp
  · exact hp
theorem txs_len (l : List Nat) : (txs l).length ≤ l.length + 1 := by
  have := prt_len l
  unfold txs
  split
  · rw [List.length_dropLast]; omega
  · exact this
theorem cut_last {qs : List (List Nat)} (h : qs ≠ []) : Ev.cutD (strsD qs) none (some (-1)) = strsD qs.dropLast := by
  unfold Ev.cutD
  simp only [HT.sIx]
  have : 0 < qs.length := List.length_pos_iff.mpr h
  rw [if_pos (by decide), List.drop_zero, List.length_map, Nat.sub_zero, show ((-1 : Int) + (qs.length : Int)).toNat = qs.length - 1 by omega, ← List.map_take, List.dropLast_eq_take]
theorem r_slLast {qs : List (List Nat)} {M : Store} {post : DP} (h : qs ≠ []) (q : post (.lst (strsD qs.dropLast)) M) : slK (.lst (strsD qs)) none (some (-1)) post M := r_sl_l (by rw [cut_last h]; exact q)
theorem at_last {qs : List (List Nat)} {q : List Nat} (h : qs.getLast? = some q) : atI (strsD qs) (-1) = some (.str (S q)) := by
  obtain ⟨init, rfl⟩ : ∃ init, qs = init ++ [q] := List.getLast?_eq_some_iff.mp h
  unfold atI ixN
  rw [if_neg (by decide), if_pos (by rw [List.length_map, List.length_append]; simp only [List.length_cons, List.length_nil]; omega)]
  simp
  rw [show (-1 + ((init.length : Int) + 1)).toNat = init.length by omega]
  simp
/-- a word that cannot stand -/
def wr (qs : List (List Nat)) (k : Nat) : Bool := decide (k = 12) || !isTxt (qs.getD k [])
def wrongAt (qs : List (List Nat)) : Option Nat := (List.range qs.length).find? (wr qs)
theorem wrong_at {qs done todo : List (List Nat)} {t : List Nat} (e : qs = done ++ t :: todo) (h1 : done.length ≤ 12) (h2 : ∀ u ∈ done, isTxt u = true) (h3 : done.length = 12 ∨ isTxt t = false) : wrongAt qs = some done.length := by
  subst e
  unfold wrongAt
  rw [List.find?_range_eq_some]
  refine ⟨?_, by rw [List.mem_range, List.length_append, List.length_cons]; omega, fun j hj => ?_⟩
  · unfold wr
    rcases h3 with h3 | h3
    · rw [decide_eq_true h3]; rfl
    · rw [show (done ++ t :: todo).getD done.length [] = t by simp [List.getD_eq_getElem?_getD], h3]; simp
  · unfold wr
    have e : (done ++ t :: todo).getD j [] = done[j] := by simp [List.getD_eq_getElem?_getD, List.getElem?_append_left hj, hj]
    rw [e, h2 _ (List.getElem_mem hj), decide_eq_false (by omega)]
    rfl
theorem wrong_none {qs : List (List Nat)} (h1 : qs.length ≤ 12) (h2 : ∀ u ∈ qs, isTxt u = true) : wrongAt qs = none := by
  unfold wrongAt
  rw [List.find?_eq_none]
  intro j hj
  have hj := List.mem_range.mp hj
  unfold wr
  have e : qs.getD j [] = qs[j] := by simp [List.getD_eq_getElem?_getD, hj]
  rw [e, h2 _ (List.getElem_mem hj), decide_eq_false (by omega)]
  decide
theorem of_wrong_none {qs : List (List Nat)} (h : wrongAt qs = none) : TxO qs := by
  unfold wrongAt at h
  rw [List.find?_eq_none] at h
  have hk : ∀ k, k < qs.length → k ≠ 12 ∧ isTxt (qs.getD k []) = true := fun k hk => by
    have := h k (List.mem_range.mpr hk)
    unfold wr at this
    simpa using this
  refine ⟨?_, fun t ht => ?_⟩
  · refine Nat.le_of_not_lt fun z => (hk 12 z).1 rfl
  · obtain ⟨i, hi, rfl⟩ := List.getElem_of_mem ht
    have := (hk i hi).2
    rwa [show qs.getD i [] = qs[i] by simp [List.getD_eq_getElem?_getD, hi]] at this
/-- what is wanted of reading a text -/
def rdP (l : List Nat) (okP : List (List Nat) → Prop) (xP : Nat → Prop) : Prop := (l = [45] → okP []) ∧ (l ≠ [45] → (∀ k, wrongAt (txs l) = some k → xP k) ∧ (wrongAt (txs l) = none → isEnd (prt l) = true → okP (txs l)) ∧ (wrongAt (txs l) = none → isEnd (prt l) = false → xP (txs l).length))
structure KFX (K : PySem.W.Frag) (cs : CS) : Prop where
  f_text : FldF K cs "text" [7]
  f_words : FldF K cs "words" [10]
  cp_Row : CpF K cs 10 cpT_Row cpO_Row
  fm_Row : FmF K cs 10
  ne_Row : NeF K cs 10
  o_Row_BitOr : OpF K cs 10 Operator.BitOr [.str]
  isx : IsxK K cs isxO isxK isxB
  x_line : XfK K cs "line" [2]
  x_word : XfK K cs "word" [2]
  isi : KitF K cs isiO isiS
structure KRX (P : Program) (w : World) (K : PySem.W.Frag) (mg : Str → Option Value) (base : Heap) (cs : CS) : Prop where
  r_BadRow : Ra1 P w K mg base cs "BadRow" 8 "at"
  r_BadText : Ra2 P w K mg base cs "BadText" 2 "line" "word"
  r_BadWord : Ra1 P w K mg base cs "BadWord" 5 "value"
  r_TooMany : Ra2 P w K mg base cs "TooMany" 6 "what" "most"
section
variable {P : Program} {w : World} {K : PySem.W.Frag} {mg : Str → Option Value} {base : Heap} {cs : CS}
/-! ### is_text -/
abbrev s_is_text : Stmt := top 15
abbrev n_is_text : List Str := ["value", "sign"]
theorem sc_is_text : FnScope n_is_text ["value"] (defScope s_is_text) := ⟨rfl, rfl, rfl, by decide +kernel, rfl, by decide +kernel, by decide +kernel⟩
def S_is_text : SpX := fun ds M post _ => ∃ d, ds = [d] ∧ Still d ∧ post (.bl (isTxtD d)) M
theorem c_is_text {d : D} {M : Store} {post : DP} {xp : XP} (h : Still d) (q : post (.bl (isTxtD d)) M) : S_is_text [d] M post xp := ⟨d, rfl, h, q⟩
def tf_is_text : TfS := (tSeq (tIf (tOrT (tNotT (tTest (tCall (tCons (tVar 0) (tCons (tCon (.ty .str)) tNil)) (tIsi isiO isiS)) tTru)) (tNotT ((tChain (tCon (.int 1)) (tCall (tCons (tVar 0) tNil) tLen) (tCon (.int 8)) tLe tLe).bl)))
    (tSeq (tRet (tCon (.bl false)))
    tSkip)
    tSkip)
    (tSeq (tRet (tCall (tCons (tLc (gNm 1) [1] (tIt (tVar 0)) tYesT (tBin (tVar 1) (tCon (.str (SX.S [97, 98, 99]))) (tIn false))) tNil) tAll))
    tSkip))
theorem f_is_text : ∀ (ds : List D) (M : Store) (post : DP) (xp : XP), ds.length = 1 → S_is_text ds M post xp → tf_is_text (G0 n_is_text ds) M { nx := fun _ M' => post .non M', rt := post, xx := fun _ => xp } := by
  rintro ds M post xp - ⟨d, rfl, hd, hp⟩ <;> unfold tf_is_text n_is_text <;> walk_at "e0"
  walk_at "e"
  refine r_isiT (hd.isi M) (by decide) ?_
  cases hs : isT M d .str with
  | true =>
    obtain ⟨z, rfl⟩ := isT_str hs
    obtain ⟨l, rfl⟩ : ∃ l, z = S l := ⟨_, S_of z⟩
    have hl := hd.sz _ rfl
    rw [isTxtD_S] at hp
    have hls := len_small hl
    walk_at "e"
    · rename_i h1 h2
      rw [S_len] at h1 h2
      rw [signs_S]
      refine r_lcM (fun c => .bl (decide (c ∈ abc))) hl (fun c hc p hp => ?_) ?_
      · walk_at "e"
        exact pbl in_S.symm hp
      · walk_at "e"
        refine pbl ?_ hp
        unfold isTxt
        rw [decide_eq_true (show 1 ≤ l.length by omega), decide_eq_true (show l.length ≤ 8 by omega)]
        rfl
    · rename_i h1 h2
      rw [S_len] at h1 h2
      have e : isTxt l = false := by unfold isTxt; rw [decide_eq_false (show ¬ l.length ≤ 8 by omega), Bool.and_false]; rfl
      rw [e] at hp; exact hp
    · rename_i h1
      rw [S_len] at h1
      have e : isTxt l = false := by unfold isTxt; rw [decide_eq_false (show ¬ 1 ≤ l.length by omega)]; rfl
      rw [e] at hp; exact hp
  | false =>
    have : isTxtD d = false := by cases d <;> first | rfl | (cases hs; done)
    rw [this] at hp
    walk_at "e"
    exact hp
theorem ok_is_text {f : Addr} {fd : FuncData} (F : Fun K "is_text" "is_text" s_is_text f fd) (T : TX mg cs) (KF : KFX K cs) : FnG P w K mg base (L2.CX P w) 1 f fd ["value"] (spN cs 1 0 S_is_text) :=
  Ev.fn_of F sc_is_text rfl (by decide) (fun cdv A outer s H E hr => (su_cons (st_if (pw_or (pt_not (pt_val (px_callB T.isinstance (pa_cons (px_var 0) (pa_cons (px_gty .str T.str) pa_nil)) (po_isi KF.isi)) pob_std)) (pw_one (pt_not (pt_chain px_int (px_callB T.len (pa_cons (px_var 0) pa_nil) po_len) po_le (px_gint T.v_MOST_LETTERS) po_le)))).pt
    (su_cons (st_ret px_bl) su_nil)
    su_nil) (su_cons (st_ret (px_callB T.all (pa_cons (px_lc sc_is_text.nd (plc (c2 := 0) (own := [("sign", 1)]) (is := [1]) (blkOk_by (by rfl)) (by decide) (xi_std (px_var 0)) (fun s H C cl fp => (xg_name 1 sc_is_text.nd)) (.inl ⟨rfl, rfl⟩) (fun s H C cl fp => (px_cmp (px_var 1) (px_gstr T.v_LETTERS_words) po_in)))) pa_nil) (po_all))) su_nil))) (by decide +kernel) f_is_text
/-! ### Word.__init__ -/
abbrev s_Word_init : Stmt := inClass (top 16) 2
abbrev n_Word_init : List Str := ["self", "text", "letter"]
theorem sc_Word_init : FnScope n_Word_init ["self", "text"] (defScope s_Word_init) := ⟨rfl, rfl, rfl, by decide +kernel, rfl, by decide +kernel, by decide +kernel⟩
abbrev xBW (xp : XP) (d : D) (M : Store) : Prop := xp 5 [("value", d)] M
def S_Word_init : SpX := fun ds M post xp => ∃ M0 d, ds = [.loc M0.length, d] ∧ M = M0 ++ [.ins 7 []] ∧ Still d ∧ (isTxtD d = false → xBW xp d M) ∧ ∀ l, d = .str (S l) → isTxt l = true → post .non (M0 ++ [.ins 7 [("text", .str (S (canon l)))]])
theorem c_mkWd {M : Store} {post : DP} {xp : XP} {l : List Nat} (h : isTxt l = true) (hp : ∀ a, post (wdD a (canon l)) M) : mkK 7 2 S_Word_init post xp [.str (S l)] M :=
  ⟨rfl, M, _, rfl, rfl, Still.str (by have := (isTxt_iff.mp h).2.1; omega) (abc_asc (isTxt_iff.mp h).2.2), fun z => by (rw [isTxtD_S, h] at z; cases z), fun l' e _ => by
    cases S_inj (D.str.inj e)
    exact ⟨rfl, _, rfl, ⟨trivial, trivial⟩, hp⟩⟩
theorem c_mkWdX {M : Store} {post : DP} {xp : XP} {d : D} (hs : Still d) (h : isTxtD d = false) (hx : xBW xp d M) : mkK 7 2 S_Word_init post xp [d] M :=
  ⟨rfl, M, _, rfl, rfl, hs, fun _ => ⟨⟨_, rfl⟩, ⟨hs.lt _, trivial⟩, hx⟩, fun l e h' => by (subst e; rw [isTxtD_S, h'] at h; cases h)⟩
def tf_Word_init : TfS := (tSeq (tIf (tNotT (tTest (tFn 1 S_is_text (tCons (tVar 1) tNil)) tTru))
    (tSeq (tRaise1 5 "value" (tVar 1))
    tSkip)
    tSkip)
    (tSeq (tFst "text" [7] (tBm "str" (tCon (.str (SX.S []))) (tCons (tLc (gNm 2) [2] (tIt (tCon (.str (SX.S [97, 98, 99])))) tYesT (tBin (tVar 2) (tBm "str" (tVar 1) (tCons (tVar 2) tNil) tCountS) tMul)) tNil) tJoin) (tVar 0))
    tSkip))
theorem f_Word_init : ∀ (ds : List D) (M : Store) (post : DP) (xp : XP), ds.length = 2 → S_Word_init ds M post xp → tf_Word_init (G0 n_Word_init ds) M { nx := fun _ M' => post .non M', rt := post, xx := fun _ => xp } := by
  rintro ds M post xp - ⟨M0, d, rfl, rfl, hd, hx, hp⟩ <;> unfold tf_Word_init n_Word_init <;> walk_at "e0"
  walk_at "e"
  refine c_is_text hd ?_
  cases h : isTxtD d with
  | false =>
    walk_at "e"
    exact hx h
  | true =>
    obtain ⟨z, rfl⟩ : ∃ z, d = .str z := by cases d <;> first | exact ⟨_, rfl⟩ | (cases h; done)
    obtain ⟨l, rfl⟩ : ∃ l, z = S l := ⟨_, S_of z⟩
    rw [isTxtD_S] at h
    have hp := hp l rfl h
    walk_at "e"
    rw [signs_S]
    refine r_lcM (xs := abc) (fun c => .str (S (List.replicate (l.count c) c))) (by decide) (fun c hc p hp => ?_) ?_
    · have hl := (isTxt_iff.mp h).2.1
      have hc := List.count_le_length (a := c) (l := l)
      walk_at "e"
      · rw [count_S]
        refine ⟨by omega, ?_, by rw [S_len]; simp only [List.length_singleton]; have : (16777216 : Nat) = sizeLine := by decide
                                 omega⟩
        have : (9 : Int) < 2 ^ 62 := by decide
        omega
      · rw [count_S, rep_S, Int.toNat_natCast, rep1]; exact hp
    · walk_at "e"
      · have hl := (isTxt_iff.mp h).2.1
        have h1 := List.count_le_length (a := 97) (l := l)
        have h2 := List.count_le_length (a := 98) (l := l)
        have h3 := List.count_le_length (a := 99) (l := l)
        simp [S_len]
        omega
      · rw [join_cat abc fun c => List.replicate (l.count c) c]
        exact hp
theorem ok_Word_init {f : Addr} {fd : FuncData} (F : Fun K "__init__" "Word.__init__" s_Word_init f fd) (T : TX mg cs) (KF : KFX K cs) (KR : KRX P w K mg base cs)
    (D_is_text : FnD P w K mg base cs 1 "is_text" 1 0 S_is_text) : FnG P w K mg base (L2.CX P w) 3 f fd ["self", "text"] (spN cs 2 0 S_Word_init) :=
  Ev.fn_of F sc_Word_init rfl (by decide) (fun cdv A outer s H E hr => (su_cons (st_if (pt_not (pt_val (px_call D_is_text hr takesB (pa_cons (px_var 1) pa_nil)) pob_std))
    (su_cons (st_raise1 KR.r_BadWord hr takesB (px_var 1)) su_nil)
    su_nil) (su_cons (st_fld KF.f_text (px_var 0) (px_bm PySem.F.plainAttrs_str PySem.F.slot_str_join (by first | rfl | kernel_rfl) pom_join px_str (pa_cons (px_lc sc_Word_init.nd (plc (c2 := 0) (own := [("letter", 2)]) (is := [2]) (blkOk_by (by rfl)) (by decide) (xi_std (px_gstr T.v_LETTERS_words)) (fun s H C cl fp => (xg_name 2 sc_Word_init.nd)) (.inl ⟨rfl, rfl⟩) (fun s H C cl fp => (px_bin (px_var 2) (px_bm PySem.F.plainAttrs_str PySem.F.slot_str_count (by first | rfl | kernel_rfl) pom_count (px_var 1) (pa_cons (px_var 2) pa_nil)) po_mul)))) pa_nil))) su_nil))) (by decide +kernel) f_Word_init
/-! ### Word.of -/
abbrev s_Word_of : Stmt := inClass (top 16) 3
abbrev n_Word_of : List Str := ["value"]
theorem sc_Word_of : FnScope n_Word_of ["value"] (defScope s_Word_of) := ⟨rfl, rfl, rfl, by decide +kernel, rfl, by decide +kernel, by decide +kernel⟩
def S_Word_of : SpX := fun ds M post xp => ∃ d, ds = [d] ∧ ((∃ a w, d = wdD a w ∧ post d M) ∨ (∃ l, d = .str (S l) ∧ isTxt l = true ∧ ∀ a, post (wdD a (canon l)) M) ∨ (Still d ∧ isTxtD d = false ∧ (∀ M, isC M d 7 = false) ∧ xBW xp d M))
theorem c_of_w {a : Addr} {w : List Nat} {M : Store} {post : DP} {xp : XP} (hp : post (wdD a w) M) : S_Word_of [wdD a w] M post xp := ⟨_, rfl, .inl ⟨a, w, rfl, hp⟩⟩
theorem c_of_t {l : List Nat} {M : Store} {post : DP} {xp : XP} (h : isTxt l = true) (hp : ∀ a, post (wdD a (canon l)) M) : S_Word_of [.str (S l)] M post xp := ⟨_, rfl, .inr (.inl ⟨l, rfl, h, hp⟩)⟩
theorem c_of_x {d : D} {M : Store} {post : DP} {xp : XP} (h : Still d) (h1 : isTxtD d = false) (h2 : ∀ M, isC M d 7 = false) (hx : xBW xp d M) : S_Word_of [d] M post xp := ⟨_, rfl, .inr (.inr ⟨h, h1, h2, hx⟩)⟩
theorem isC_str {z : Str} {M : Store} {k : Nat} : isC M (.str z) k = false := rfl
def tf_Word_of : TfS := (tSeq (tIf (tTest (tCall (tCons (tVar 0) (tCons (tCon (.cls 7)) tNil)) (tIsi isiO isiS)) tTru)
    (tSeq (tRet (tVar 0))
    tSkip)
    tSkip)
    (tSeq (tRet (tMk 7 2 S_Word_init (tCons (tVar 0) tNil)))
    tSkip))
theorem f_Word_of : ∀ (ds : List D) (M : Store) (post : DP) (xp : XP), ds.length = 1 → S_Word_of ds M post xp → tf_Word_of (G0 n_Word_of ds) M { nx := fun _ M' => post .non M', rt := post, xx := fun _ => xp } := by
  rintro ds M post xp - ⟨d, rfl, ⟨a, w, rfl, hp⟩ | ⟨l, rfl, h, hp⟩ | ⟨h, h1, h2, hx⟩⟩ <;> unfold tf_Word_of n_Word_of <;> walk_at "e0"
  · walk_at "e"
    exact hp
  · walk_at "e"
    exact c_mkWd h hp
  · walk_at "e"
    refine r_isiC (h.isi M) (by decide) (by decide) ?_
    rw [h2 M]
    walk_at "e"
    exact c_mkWdX h h1 hx
theorem ok_Word_of {f : Addr} {fd : FuncData} (F : Fun K "of" "Word.of" s_Word_of f fd) (T : TX mg cs) (KF : KFX K cs)
    (D_Word_init : MkD P w K mg base cs 3 "Word" 7 2 0 S_Word_init) : FnG P w K mg base (L2.CX P w) 5 f fd ["value"] (spN cs 1 0 S_Word_of) :=
  Ev.fn_of F sc_Word_of rfl (by decide) (fun cdv A outer s H E hr => (su_cons (st_if (pt_val (px_callB T.isinstance (pa_cons (px_var 0) (pa_cons (px_gcls 7 T.c_Word) pa_nil)) (po_isi KF.isi)) pob_std)
    (su_cons (st_ret (px_var 0)) su_nil)
    su_nil) (su_cons (st_ret (px_mk D_Word_init hr takesB (pa_cons (px_var 0) pa_nil))) su_nil))) (by decide +kernel) f_Word_of
/-! ### Word.__eq__ -/
abbrev s_Word_eq : Stmt := inClass (top 16) 14
abbrev n_Word_eq : List Str := ["self", "other"]
theorem sc_Word_eq : FnScope n_Word_eq ["self", "other"] (defScope s_Word_eq) := ⟨rfl, rfl, rfl, by decide +kernel, rfl, by decide +kernel, by decide +kernel⟩
def S_Word_eq : SpX := fun ds M post _ => ∃ a w d, ds = [wdD a w, d] ∧ ((∃ b v, d = wdD b v ∧ post (.bl (decide (w = v))) M) ∨ (Still d ∧ (∀ M, isC M d 7 = false) ∧ post (.bl false) M))
theorem c_weq {a b : Addr} {w v : List Nat} {M : Store} {post : DP} {xp : XP} (hp : post (.bl (decide (w = v))) M) : S_Word_eq [wdD a w, wdD b v] M post xp := ⟨a, w, _, rfl, .inl ⟨b, v, rfl, hp⟩⟩
theorem c_weq_x {a : Addr} {w : List Nat} {d : D} {M : Store} {post : DP} {xp : XP} (h : Still d) (h2 : ∀ M, isC M d 7 = false) (hp : post (.bl false) M) : S_Word_eq [wdD a w, d] M post xp := ⟨a, w, _, rfl, .inr ⟨h, h2, hp⟩⟩
theorem S_eqd {a b : List Nat} : decide (S a = S b) = decide (a = b) := by
  by_cases h : a = b
  · rw [h]; simp
  · rw [decide_eq_false h, decide_eq_false fun z => h (S_inj z)]
def tf_Word_eq : TfS := (tSeq (tRet (tAnd (tCall (tCons (tVar 1) (tCons (tCon (.cls 7)) tNil)) (tIsi isiO isiS)) tTru (tBin (tUn (tVar 0) (tFld "text" [7])) (tUn (tVar 1) (tFld "text" [7])) tEq)))
    tSkip)
theorem f_Word_eq : ∀ (ds : List D) (M : Store) (post : DP) (xp : XP), ds.length = 2 → S_Word_eq ds M post xp → tf_Word_eq (G0 n_Word_eq ds) M { nx := fun _ M' => post .non M', rt := post, xx := fun _ => xp } := by
  rintro ds M post xp - ⟨a, w, d, rfl, ⟨b, v, rfl, hp⟩ | ⟨h, h2, hp⟩⟩ <;> unfold tf_Word_eq n_Word_eq <;> walk_at "e0"
  · walk_at "e"
    rw [S_eqd]; exact hp
  · walk_at "e"
    refine r_isiC (h.isi M) (by decide) (by decide) ?_
    rw [h2 M]
    walk_at "e"
    exact hp
theorem ok_Word_eq {f : Addr} {fd : FuncData} (F : Fun K "__eq__" "Word.__eq__" s_Word_eq f fd) (T : TX mg cs) (KF : KFX K cs) : FnG P w K mg base (L2.CX P w) 1 f fd ["self", "other"] (spN cs 2 0 S_Word_eq) :=
  Ev.fn_of F sc_Word_eq rfl (by decide) (fun cdv A outer s H E hr => (su_cons (st_ret (px_and (px_callB T.isinstance (pa_cons (px_var 1) (pa_cons (px_gcls 7 T.c_Word) pa_nil)) (po_isi KF.isi)) pob_std (px_one (px_cmp (px_attr (px_var 0) (pat_fld KF.f_text)) (px_attr (px_var 1) (pat_fld KF.f_text)) (po_eq hr.hu))))) su_nil)) (by decide +kernel) f_Word_eq
end
end K14
-- k14f1
namespace K14
open PySem L2 Ev
local macro_rules | `(tactic| walk_at "e1") => `(tactic| with_reducible first
  | refine r_seq ?_ | refine r_bin ?_ | refine r_skip ?_ | refine r_asg ?_ | refine r_ret ?_ | refine r_ifs ?_ | refine r_con ?_
  | refine r_cons ?_ | refine r_nil ?_ | refine r_exb ?_ | refine r_exi ?_ | refine r_exs ?_ | refine r_tt ?_ | refine r_ff ?_ | refine r_nt ?_ | refine r_sw ?_
  | refine r_un ?_ | refine r_call ?_ | refine r_fn ?_ | refine r_test ?_ | refine r_notT ?_ | refine r_andT ?_ | refine r_orT ?_ | refine r_and ?_ | refine r_or ?_ | refine r_not ?_ | refine r_ifx ?_
  | refine r_tup ?_ | refine r_lst ?_ | refine r_tru_b ?_ | refine r_tru_i ?_ | refine r_tru_n ?_ | refine r_tru_l ?_ | refine r_tru_t ?_
  | refine r_add_ii ?_ | refine r_add_ib ?_ | refine r_sub ?_ | refine r_lt ?_ | refine r_le_ii ?_ | refine r_gt ?_ | refine r_ge ?_ | refine r_eq_i ?_ | refine r_eq_s ?_ | refine r_eq_b ?_ | refine r_eq_n ?_ | refine r_ne_i ?_ | refine r_ne_s ?_ | refine r_ne_b ?_ | refine r_in_s ?_ | refine r_nin_s ?_ | refine r_neg ?_ | refine r_lt_s ?_
  | refine r_sl ?_ | refine r_sl_l ?_ | refine r_sl_t ?_ | refine r_no ?_ | refine r_some ?_
  | refine r_len_l ?_ | refine r_len_t ?_ | refine r_len_d ?_ | refine r_int_i ?_ | refine r_int_b ?_ | refine r_abs ?_ | refine r_bool_i ?_ | refine r_bool_b ?_ | refine r_str_s ?_ | refine r_list_l ?_ | refine r_list_t ?_ | refine r_tuple_l ?_ | refine r_tuple_t ?_ | refine r_all ?_ | refine r_any ?_ | refine r_sum ?_ | refine r_max2 ?_ | refine r_min2 ?_
  | refine r_bm ?_ | refine r_tyS ?_ | refine r_tyL ?_ | refine r_tyD ?_ | refine r_count ?_ | refine r_meth ?_ | refine r_stat ?_ | refine r_cm ?_ | refine r_iscls ?_ | refine r_mk ?_ | refine r_mkE ?_ | refine r_mkM ?_ | refine r_hear ?_ | refine r_statK ?_ | refine r_methK ?_ | refine r_cmK ?_ | refine r_mkKw ?_
  | refine r_pass ?_ | refine r_break ?_ | refine r_cont ?_ | refine r_retN ?_ | refine r_drop ?_ | refine r_par ?_ | refine r_ex2 ?_ | refine r_raise1 ?_ | refine r_raise2 ?_ | refine r_try ?_ | refine r_unp ?_ | refine r_addI_i ?_ | refine r_isB ?_ | refine r_notB ?_ | refine r_rev ?_ | refine r_rev_l ?_ | refine r_fst ?_
  | refine r_gNm ?_ | refine r_gNil ?_ | refine r_gCons ?_ | refine r_for ?_ | refine r_it ?_ | refine r_it_l ?_ | refine r_it_t ?_ | refine r_it_s ?_ | refine r_rg1 ?_ | refine r_rg2 ?_ | refine r_lc ?_ | refine r_yes ?_ | refine r_chain0 ?_ | refine r_fstr ?_ | refine r_lc0 ?_ | refine r_lc1 ?_ | refine r_for0 ?_ | refine r_for1 ?_ | refine r_j0 ?_ | refine r_j1 ?_ | refine r_fm ?_)
local macro_rules | `(tactic| walk_at "e2") => `(tactic| first
  | ((with_reducible apply r_var); exact rfl)
  | ((with_reducible apply r_ar); exact rfl)
  | ((with_reducible apply r_ar1); exact rfl)
  | ((with_reducible apply r_le); focus (first | decide | (simp only [List.length_cons, List.length_nil]; decide)))
  | ((with_reducible apply r_is_t); exact rfl)
  | ((with_reducible apply r_is_f); exact rfl)
  | ((with_reducible apply r_isnt_t); exact rfl)
  | ((with_reducible apply r_isnt_f); exact rfl)
  | ((with_reducible apply r_isi_t); exact rfl; exact rfl)
  | ((with_reducible apply r_isi_f); exact rfl; exact rfl)
  | ((with_reducible apply r_fld); exact rfl; exact rfl; focus decide)
  | ((with_reducible apply r_recv); exact rfl; exact rfl)
  | ((with_reducible apply r_prop); exact rfl)
  | ((with_reducible apply r_ownS); exact rfl; exact rfl)
  | ((with_reducible apply r_own); exact rfl; exact rfl; focus decide)
  | ((with_reducible apply Or.inl); (with_reducible apply r_ownS); exact rfl; exact rfl)
  | ((with_reducible apply Or.inr); (with_reducible apply r_own); exact rfl; exact rfl; focus decide)
  | ((with_reducible apply r_ownC_o); exact rfl; exact rfl; focus decide)
  | ((with_reducible apply r_ownC_t); exact rfl; exact rfl; (focus decide); (focus decide))
  | ((with_reducible apply r_aug); exact rfl)
  | ((with_reducible apply r_ownRS); exact rfl)
  | ((with_reducible apply r_cval); focus (exact List.mem_cons_self))
  | ((with_reducible apply r_ownD_o); exact rfl; exact rfl; focus decide)
  | ((with_reducible apply r_ownD_t); exact rfl; exact rfl; (focus decide))
  | ((with_reducible apply r_ownNeD_o); exact rfl; exact rfl; focus decide)
  | ((with_reducible apply r_ownNeD_t); exact rfl; exact rfl; (focus decide))
  | ((with_reducible apply r_own1); exact rfl)
  | ((with_reducible apply r_ownB); exact rfl)
  | ((with_reducible apply r_ownN); exact rfl)
  | ((with_reducible apply r_ownA); exact rfl)
  | ((with_reducible apply r_ownStr); exact rfl)
  | ((with_reducible apply r_ownIn); exact rfl)
  | ((with_reducible apply r_ownR); exact rfl)
  | ((with_reducible apply r_mkV); exact rfl)
  | ((with_reducible apply r_fd); exact rfl)
  | ((with_reducible apply r_xf); exact rfl; focus decide)
  | ((with_reducible apply r_isx (b := true)); (focus decide); (focus decide); exact rfl)
  | ((with_reducible apply r_isx (b := false)); (focus decide); (focus decide); exact rfl)
  | ((with_reducible apply r_ar); exact rfl)
  | ((with_reducible apply r_gTup); exact rfl)
  | ((with_reducible apply r_gLs); exact rfl)
  | ((with_reducible apply r_ix_l); exact rfl)
  | ((with_reducible apply r_ix_t); exact rfl)
  | ((with_reducible apply r_fstI); (focus decide); (focus exact Nat.le_of_ble_eq_true rfl))
  | ((with_reducible apply r_dt); (first | assumption | exact rfl | focus decide))
  | ((with_reducible apply r_df); (first | assumption | focus decide))
  | ((with_reducible apply r_partE); assumption; (focus (try walk_at "es")); (focus (try walk_at "es")))
  | ((with_reducible apply r_ct); assumption)
  | ((with_reducible apply r_cf); assumption)
  | ((with_reducible apply r_yes)))
local macro_rules | `(tactic| walk_at "e") => `(tactic| repeat' (first | walk_at "e1" | walk_at "ec" | walk_at "e2" | walk_at "e3"))
local macro_rules | `(tactic| walk_at "e0") => `(tactic| simp only [G0, List.map_cons, List.map_nil, List.length_cons, List.length_nil, List.replicate, List.cons_append, List.nil_append, Nat.reduceAdd, Nat.reduceSub, Nat.sub_zero, Nat.zero_add])
local macro_rules | `(tactic| walk_at "e3") => `(tactic| first
  | ((with_reducible apply r_fdiv); focus (try walk_at "es"))
  | ((with_reducible apply r_mod); focus (try walk_at "es"))
  | ((with_reducible apply r_mul_ii); focus (try walk_at "es"))
  | ((with_reducible apply r_mul_si); focus (try walk_at "es"))
  | ((with_reducible apply r_mul_li); focus (try walk_at "es"))
  | ((with_reducible apply r_pow); focus (try walk_at "es"))
  | ((with_reducible apply r_add_ss); focus (try walk_at "es"))
  | ((with_reducible apply r_add_ll); focus (try walk_at "es"))
  | ((with_reducible apply r_add_tt); focus (try walk_at "es"))
  | ((with_reducible apply r_tru_s); focus (try walk_at "es"))
  | ((with_reducible apply r_sl_s); focus (try walk_at "es"))
  | ((with_reducible apply r_len_s); focus (try walk_at "es"))
  | ((with_reducible apply r_part); (focus (try walk_at "es")); (focus (try walk_at "es")))
  | ((with_reducible apply r_split); (focus (try walk_at "es")); (focus (try walk_at "es")))
  | ((with_reducible apply r_join); focus (try walk_at "es"))
  | ((with_reducible apply r_exh); focus (try walk_at "es"))
  | ((with_reducible apply r_str_i); focus (try walk_at "es"))
  | ((with_reducible apply r_le); focus (try walk_at "es"))
  | ((with_reducible apply r_fm_i); focus (try walk_at "es"))
  | ((with_reducible apply r_fm_s); focus (try walk_at "es"))
  | ((with_reducible apply r_jS); focus (try walk_at "es"))
  | ((with_reducible apply r_addI_s); focus (try walk_at "es"))
  | ((with_reducible apply r_rev_s); focus (try walk_at "es"))
  | ((with_reducible apply r_listS); focus (try walk_at "es"))
  | (with_reducible apply r_is; exact rfl)
  | (with_reducible apply r_isnt; exact rfl)
  | (with_reducible refine' r_dc (fun _ => ?_) (fun _ => ?_))
  | (with_reducible refine' r_cc (fun _ => ?_) (fun _ => ?_))
  | (with_reducible intro _))
local macro_rules | `(tactic| walk_at "en") => `(tactic| simp only [List.nil_append, List.cons_append, List.append_assoc])
open SX PyProof.Rows PySem.Spec
local macro_rules | `(tactic| walk_at "still") => `(tactic| first
  | (exact Still.wd)
  | (exact Still.str (by assumption) (by assumption))
  | (exact Still.str (by first | decide | omega) (by first | decide | assumption))
  | (exact Still.mk0 (fun M => ⟨_, rfl, by intro c hc; cases hc⟩) (fun n => by simp [D.lt, D.ltL, D.ltF, D.ltK, ltL_signs]) nofun))
local macro_rules | `(tactic| walk_at "es") => `(tactic| first | assumption | decide | omega | (exact len_small ‹_›) | (simp only [List.length_cons, List.length_nil, List.length_append]; decide))
local macro_rules | `(tactic| walk_at "rd") => `(tactic| first
  | assumption | exact Rd.non | exact Rd.bl | exact RdL.nil | exact RdK.nil
  | ((with_reducible apply Rd.tup); walk_at "rd") | ((with_reducible apply Rd.lst); walk_at "rd") | ((with_reducible apply Rd.dic); walk_at "rd")
  | ((with_reducible apply RdL.cons); (focus walk_at "rd"); (focus walk_at "rd"))
  | ((with_reducible apply RdK.str); (focus (exact Nat.le_refl _)); (focus decide); (focus walk_at "rd"); (focus walk_at "rd"))
  | ((with_reducible apply Rd.str); (focus assumption); (focus assumption))
  | ((with_reducible apply Rd.str); (focus (exact Nat.le_refl _)); (focus decide))
  | ((with_reducible apply Rd.int); (focus (first | assumption | decide)))
  | ((with_reducible apply Rd.int); (focus (simp only [Int.natAbs_natCast]; exact lt_of_lt_log ‹_›)))
  | ((simp only [List.nil_append, List.cons_append, Int.reduceToNat, List.reduceReplicate, List.flatten_cons, List.flatten_nil, Int.toNat_natCast, List.length_cons, List.length_nil, Nat.reduceAdd]); walk_at "rd"))
local macro_rules | `(tactic| walk_at "ec") => `(tactic| fail "none")
local macro_rules | `(tactic| walk_at "ec") => `(tactic| first
  | (with_reducible apply r_en) | (with_reducible apply r_en_l) | (with_reducible apply r_en_t) | (with_reducible apply r_mkS) | (with_reducible apply r_spr) | (with_reducible apply r_spr_l) | (with_reducible apply r_spr_t) | (with_reducible apply r_starA) | (with_reducible apply r_lrg2)
  | ((with_reducible apply r_ownIx); (focus exact rfl)))
local macro_rules | `(tactic| walk_at "ec") => `(tactic| first
  | (with_reducible refine ⟨tyM_liC, ?_⟩)
  | ((with_reducible apply r_appendC); (focus (simp only [List.length_cons, List.length_nil, List.length_append]; decide)))
  | ((with_reducible apply r_frzC); (focus rfl); walk_at "en")
  | (with_reducible refine ⟨tyM_li, ?_⟩)
  | (with_reducible apply r_lstM)
  | ((with_reducible apply r_append); (focus (simp only [List.length_cons, List.length_nil, List.length_append]; decide)))
  | ((with_reducible apply r_frzL); (focus rfl); walk_at "en"))
local macro_rules | `(tactic| walk_at "ec") => `(tactic| first
  | ((with_reducible apply r_mkSV); (focus exact rfl))
  | (with_reducible apply r_fmO)
  | ((with_reducible apply r_splitP); (focus assumption))
  | ((with_reducible apply r_slLast); (focus assumption)))
section
variable {P : Program} {w : World} {K : PySem.W.Frag} {mg : Str → Option Value} {base : Heap} {cs : CS}
/-! ### is_word -/
abbrev s_is_word : Stmt := top 17
abbrev n_is_word : List Str := ["value"]
theorem sc_is_word : FnScope n_is_word ["value"] (defScope s_is_word) := ⟨rfl, rfl, rfl, by decide +kernel, rfl, by decide +kernel, by decide +kernel⟩
def S_is_word : SpX := fun ds M post _ => ∃ d, ds = [d] ∧ Still d ∧ post (.bl (isWdD d)) M
theorem c_is_word {d : D} {M : Store} {post : DP} {xp : XP} (h : Still d) (q : post (.bl (isWdD d)) M) : S_is_word [d] M post xp := ⟨d, rfl, h, q⟩
def tf_is_word : TfS := (tSeq (tRet (tOr (tCall (tCons (tVar 0) (tCons (tCon (.cls 7)) tNil)) (tIsi isiO isiS)) tTru (tFn 1 S_is_text (tCons (tVar 0) tNil))))
    tSkip)
theorem f_is_word : ∀ (ds : List D) (M : Store) (post : DP) (xp : XP), ds.length = 1 → S_is_word ds M post xp → tf_is_word (G0 n_is_word ds) M { nx := fun _ M' => post .non M', rt := post, xx := fun _ => xp } := by
  rintro ds M post xp - ⟨d, rfl, hd, hp⟩ <;> unfold tf_is_word n_is_word <;> walk_at "e0"
  walk_at "e"
  refine r_isiC (hd.isi M) (by decide) (by decide) ?_
  rw [hd.isc M 7]
  cases hc : clsD d == some 7 with
  | true =>
    have e : isWdD d = true := by cases d <;> first | (cases hc; done) | simpa [clsD, isWdD] using hc
    rw [e] at hp
    walk_at "e"
    exact hp
  | false =>
    have e : isWdD d = isTxtD d := by cases d <;> first | rfl | simpa [clsD, isWdD, isTxtD] using hc
    rw [e] at hp
    walk_at "e"
    exact c_is_text hd hp
theorem ok_is_word {f : Addr} {fd : FuncData} (F : Fun K "is_word" "is_word" s_is_word f fd) (T : TX mg cs) (KF : KFX K cs)
    (D_is_text : FnD P w K mg base cs 1 "is_text" 1 0 S_is_text) : FnG P w K mg base (L2.CX P w) 2 f fd ["value"] (spN cs 1 0 S_is_word) :=
  Ev.fn_of F sc_is_word rfl (by decide) (fun cdv A outer s H E hr => (su_cons (st_ret (px_or (px_callB T.isinstance (pa_cons (px_var 0) (pa_cons (px_gcls 7 T.c_Word) pa_nil)) (po_isi KF.isi)) pob_std (px_one (px_call D_is_text hr takesB (pa_cons (px_var 0) pa_nil))))) su_nil)) (by decide +kernel) f_is_word
end
end K14
-- k14f2
namespace K14
open PySem L2 Ev
local macro_rules | `(tactic| walk_at "e1") => `(tactic| with_reducible first
  | refine r_seq ?_ | refine r_bin ?_ | refine r_skip ?_ | refine r_asg ?_ | refine r_ret ?_ | refine r_ifs ?_ | refine r_con ?_
  | refine r_cons ?_ | refine r_nil ?_ | refine r_exb ?_ | refine r_exi ?_ | refine r_exs ?_ | refine r_tt ?_ | refine r_ff ?_ | refine r_nt ?_ | refine r_sw ?_
  | refine r_un ?_ | refine r_call ?_ | refine r_fn ?_ | refine r_test ?_ | refine r_notT ?_ | refine r_andT ?_ | refine r_orT ?_ | refine r_and ?_ | refine r_or ?_ | refine r_not ?_ | refine r_ifx ?_
  | refine r_tup ?_ | refine r_lst ?_ | refine r_tru_b ?_ | refine r_tru_i ?_ | refine r_tru_n ?_ | refine r_tru_l ?_ | refine r_tru_t ?_
  | refine r_add_ii ?_ | refine r_add_ib ?_ | refine r_sub ?_ | refine r_lt ?_ | refine r_le_ii ?_ | refine r_gt ?_ | refine r_ge ?_ | refine r_eq_i ?_ | refine r_eq_s ?_ | refine r_eq_b ?_ | refine r_eq_n ?_ | refine r_ne_i ?_ | refine r_ne_s ?_ | refine r_ne_b ?_ | refine r_in_s ?_ | refine r_nin_s ?_ | refine r_neg ?_ | refine r_lt_s ?_
  | refine r_sl ?_ | refine r_sl_l ?_ | refine r_sl_t ?_ | refine r_no ?_ | refine r_some ?_
  | refine r_len_l ?_ | refine r_len_t ?_ | refine r_len_d ?_ | refine r_int_i ?_ | refine r_int_b ?_ | refine r_abs ?_ | refine r_bool_i ?_ | refine r_bool_b ?_ | refine r_str_s ?_ | refine r_list_l ?_ | refine r_list_t ?_ | refine r_tuple_l ?_ | refine r_tuple_t ?_ | refine r_all ?_ | refine r_any ?_ | refine r_sum ?_ | refine r_max2 ?_ | refine r_min2 ?_
  | refine r_bm ?_ | refine r_tyS ?_ | refine r_tyL ?_ | refine r_tyD ?_ | refine r_count ?_ | refine r_meth ?_ | refine r_stat ?_ | refine r_cm ?_ | refine r_iscls ?_ | refine r_mk ?_ | refine r_mkE ?_ | refine r_mkM ?_ | refine r_hear ?_ | refine r_statK ?_ | refine r_methK ?_ | refine r_cmK ?_ | refine r_mkKw ?_
  | refine r_pass ?_ | refine r_break ?_ | refine r_cont ?_ | refine r_retN ?_ | refine r_drop ?_ | refine r_par ?_ | refine r_ex2 ?_ | refine r_raise1 ?_ | refine r_raise2 ?_ | refine r_try ?_ | refine r_unp ?_ | refine r_addI_i ?_ | refine r_isB ?_ | refine r_notB ?_ | refine r_rev ?_ | refine r_rev_l ?_ | refine r_fst ?_
  | refine r_gNm ?_ | refine r_gNil ?_ | refine r_gCons ?_ | refine r_for ?_ | refine r_it ?_ | refine r_it_l ?_ | refine r_it_t ?_ | refine r_it_s ?_ | refine r_rg1 ?_ | refine r_rg2 ?_ | refine r_lc ?_ | refine r_yes ?_ | refine r_chain0 ?_ | refine r_fstr ?_ | refine r_lc0 ?_ | refine r_lc1 ?_ | refine r_for0 ?_ | refine r_for1 ?_ | refine r_j0 ?_ | refine r_j1 ?_ | refine r_fm ?_)
local macro_rules | `(tactic| walk_at "e2") => `(tactic| first
  | ((with_reducible apply r_var); exact rfl)
  | ((with_reducible apply r_ar); exact rfl)
  | ((with_reducible apply r_ar1); exact rfl)
  | ((with_reducible apply r_le); focus (first | decide | (simp only [List.length_cons, List.length_nil]; decide)))
  | ((with_reducible apply r_is_t); exact rfl)
  | ((with_reducible apply r_is_f); exact rfl)
  | ((with_reducible apply r_isnt_t); exact rfl)
  | ((with_reducible apply r_isnt_f); exact rfl)
  | ((with_reducible apply r_isi_t); exact rfl; exact rfl)
  | ((with_reducible apply r_isi_f); exact rfl; exact rfl)
  | ((with_reducible apply r_fld); exact rfl; exact rfl; focus decide)
  | ((with_reducible apply r_recv); exact rfl; exact rfl)
  | ((with_reducible apply r_prop); exact rfl)
  | ((with_reducible apply r_ownS); exact rfl; exact rfl)
  | ((with_reducible apply r_own); exact rfl; exact rfl; focus decide)
  | ((with_reducible apply Or.inl); (with_reducible apply r_ownS); exact rfl; exact rfl)
  | ((with_reducible apply Or.inr); (with_reducible apply r_own); exact rfl; exact rfl; focus decide)
  | ((with_reducible apply r_ownC_o); exact rfl; exact rfl; focus decide)
  | ((with_reducible apply r_ownC_t); exact rfl; exact rfl; (focus decide); (focus decide))
  | ((with_reducible apply r_aug); exact rfl)
  | ((with_reducible apply r_ownRS); exact rfl)
  | ((with_reducible apply r_cval); focus (exact List.mem_cons_self))
  | ((with_reducible apply r_ownD_o); exact rfl; exact rfl; focus decide)
  | ((with_reducible apply r_ownD_t); exact rfl; exact rfl; (focus decide))
  | ((with_reducible apply r_ownNeD_o); exact rfl; exact rfl; focus decide)
  | ((with_reducible apply r_ownNeD_t); exact rfl; exact rfl; (focus decide))
  | ((with_reducible apply r_own1); exact rfl)
  | ((with_reducible apply r_ownB); exact rfl)
  | ((with_reducible apply r_ownN); exact rfl)
  | ((with_reducible apply r_ownA); exact rfl)
  | ((with_reducible apply r_ownStr); exact rfl)
  | ((with_reducible apply r_ownIn); exact rfl)
  | ((with_reducible apply r_ownR); exact rfl)
  | ((with_reducible apply r_mkV); exact rfl)
  | ((with_reducible apply r_fd); exact rfl)
  | ((with_reducible apply r_xf); exact rfl; focus decide)
  | ((with_reducible apply r_isx (b := true)); (focus decide); (focus decide); exact rfl)
  | ((with_reducible apply r_isx (b := false)); (focus decide); (focus decide); exact rfl)
  | ((with_reducible apply r_ar); exact rfl)
  | ((with_reducible apply r_gTup); exact rfl)
  | ((with_reducible apply r_gLs); exact rfl)
  | ((with_reducible apply r_ix_l); exact rfl)
  | ((with_reducible apply r_ix_t); exact rfl)
  | ((with_reducible apply r_fstI); (focus decide); (focus exact Nat.le_of_ble_eq_true rfl))
  | ((with_reducible apply r_dt); (first | assumption | exact rfl | focus decide))
  | ((with_reducible apply r_df); (first | assumption | focus decide))
  | ((with_reducible apply r_partE); assumption; (focus (try walk_at "es")); (focus (try walk_at "es")))
  | ((with_reducible apply r_ct); assumption)
  | ((with_reducible apply r_cf); assumption)
  | ((with_reducible apply r_yes)))
local macro_rules | `(tactic| walk_at "e") => `(tactic| repeat' (first | walk_at "e1" | walk_at "ec" | walk_at "e2" | walk_at "e3"))
local macro_rules | `(tactic| walk_at "e0") => `(tactic| simp only [G0, List.map_cons, List.map_nil, List.length_cons, List.length_nil, List.replicate, List.cons_append, List.nil_append, Nat.reduceAdd, Nat.reduceSub, Nat.sub_zero, Nat.zero_add])
local macro_rules | `(tactic| walk_at "e3") => `(tactic| first
  | ((with_reducible apply r_fdiv); focus (try walk_at "es"))
  | ((with_reducible apply r_mod); focus (try walk_at "es"))
  | ((with_reducible apply r_mul_ii); focus (try walk_at "es"))
  | ((with_reducible apply r_mul_si); focus (try walk_at "es"))
  | ((with_reducible apply r_mul_li); focus (try walk_at "es"))
  | ((with_reducible apply r_pow); focus (try walk_at "es"))
  | ((with_reducible apply r_add_ss); focus (try walk_at "es"))
  | ((with_reducible apply r_add_ll); focus (try walk_at "es"))
  | ((with_reducible apply r_add_tt); focus (try walk_at "es"))
  | ((with_reducible apply r_tru_s); focus (try walk_at "es"))
  | ((with_reducible apply r_sl_s); focus (try walk_at "es"))
  | ((with_reducible apply r_len_s); focus (try walk_at "es"))
  | ((with_reducible apply r_part); (focus (try walk_at "es")); (focus (try walk_at "es")))
  | ((with_reducible apply r_split); (focus (try walk_at "es")); (focus (try walk_at "es")))
  | ((with_reducible apply r_join); focus (try walk_at "es"))
  | ((with_reducible apply r_exh); focus (try walk_at "es"))
  | ((with_reducible apply r_str_i); focus (try walk_at "es"))
  | ((with_reducible apply r_le); focus (try walk_at "es"))
  | ((with_reducible apply r_fm_i); focus (try walk_at "es"))
  | ((with_reducible apply r_fm_s); focus (try walk_at "es"))
  | ((with_reducible apply r_jS); focus (try walk_at "es"))
  | ((with_reducible apply r_addI_s); focus (try walk_at "es"))
  | ((with_reducible apply r_rev_s); focus (try walk_at "es"))
  | ((with_reducible apply r_listS); focus (try walk_at "es"))
  | (with_reducible apply r_is; exact rfl)
  | (with_reducible apply r_isnt; exact rfl)
  | (with_reducible refine' r_dc (fun _ => ?_) (fun _ => ?_))
  | (with_reducible refine' r_cc (fun _ => ?_) (fun _ => ?_))
  | (with_reducible intro _))
local macro_rules | `(tactic| walk_at "en") => `(tactic| simp only [List.nil_append, List.cons_append, List.append_assoc])
open SX PyProof.Rows PySem.Spec
local macro_rules | `(tactic| walk_at "still") => `(tactic| first
  | (exact Still.wd)
  | (exact Still.str (by assumption) (by assumption))
  | (exact Still.str (by first | decide | omega) (by first | decide | assumption))
  | (exact Still.mk0 (fun M => ⟨_, rfl, by intro c hc; cases hc⟩) (fun n => by simp [D.lt, D.ltL, D.ltF, D.ltK, ltL_signs]) nofun))
local macro_rules | `(tactic| walk_at "es") => `(tactic| first | assumption | decide | omega | (exact len_small ‹_›) | (simp only [List.length_cons, List.length_nil, List.length_append]; decide))
local macro_rules | `(tactic| walk_at "rd") => `(tactic| first
  | assumption | exact Rd.non | exact Rd.bl | exact RdL.nil | exact RdK.nil
  | ((with_reducible apply Rd.tup); walk_at "rd") | ((with_reducible apply Rd.lst); walk_at "rd") | ((with_reducible apply Rd.dic); walk_at "rd")
  | ((with_reducible apply RdL.cons); (focus walk_at "rd"); (focus walk_at "rd"))
  | ((with_reducible apply RdK.str); (focus (exact Nat.le_refl _)); (focus decide); (focus walk_at "rd"); (focus walk_at "rd"))
  | ((with_reducible apply Rd.str); (focus assumption); (focus assumption))
  | ((with_reducible apply Rd.str); (focus (exact Nat.le_refl _)); (focus decide))
  | ((with_reducible apply Rd.int); (focus (first | assumption | decide)))
  | ((with_reducible apply Rd.int); (focus (simp only [Int.natAbs_natCast]; exact lt_of_lt_log ‹_›)))
  | ((simp only [List.nil_append, List.cons_append, Int.reduceToNat, List.reduceReplicate, List.flatten_cons, List.flatten_nil, Int.toNat_natCast, List.length_cons, List.length_nil, Nat.reduceAdd]); walk_at "rd"))
local macro_rules | `(tactic| walk_at "ec") => `(tactic| fail "none")
local macro_rules | `(tactic| walk_at "ec") => `(tactic| first
  | (with_reducible apply r_en) | (with_reducible apply r_en_l) | (with_reducible apply r_en_t) | (with_reducible apply r_mkS) | (with_reducible apply r_spr) | (with_reducible apply r_spr_l) | (with_reducible apply r_spr_t) | (with_reducible apply r_starA) | (with_reducible apply r_lrg2)
  | ((with_reducible apply r_ownIx); (focus exact rfl)))
local macro_rules | `(tactic| walk_at "ec") => `(tactic| first
  | (with_reducible refine ⟨tyM_liC, ?_⟩)
  | ((with_reducible apply r_appendC); (focus (simp only [List.length_cons, List.length_nil, List.length_append]; decide)))
  | ((with_reducible apply r_frzC); (focus rfl); walk_at "en")
  | (with_reducible refine ⟨tyM_li, ?_⟩)
  | (with_reducible apply r_lstM)
  | ((with_reducible apply r_append); (focus (simp only [List.length_cons, List.length_nil, List.length_append]; decide)))
  | ((with_reducible apply r_frzL); (focus rfl); walk_at "en"))
local macro_rules | `(tactic| walk_at "ec") => `(tactic| first
  | ((with_reducible apply r_mkSV); (focus exact rfl))
  | (with_reducible apply r_fmO)
  | ((with_reducible apply r_splitP); (focus assumption))
  | ((with_reducible apply r_slLast); (focus assumption)))
section
variable {P : Program} {w : World} {K : PySem.W.Frag} {mg : Str → Option Value} {base : Heap} {cs : CS}
/-! ### Row.__init__ -/
abbrev s_Row_init : Stmt := inClass (top 26) 1
abbrev n_Row_init : List Str := ["self", "words", "at", "word"]
theorem sc_Row_init : FnScope n_Row_init ["self", "words"] (defScope s_Row_init) := ⟨rfl, rfl, rfl, by decide +kernel, rfl, by decide +kernel, by decide +kernel⟩
abbrev xBR (xp : XP) (i : Nat) (M : Store) : Prop := xp 8 [("at", .int (i : Nat))] M
abbrev wordsL : List Nat := [119, 111, 114, 100, 115]
abbrev xMR (xp : XP) (M : Store) : Prop := xp 6 [("most", .int 12), ("what", .str (S wordsL))] M
/-- the first one that is no word -/
def badAt (es : List D) : Option Nat := es.findIdx? fun e => !isWdD e
def S_Row_init : SpX := fun ds M post xp => ∃ M0 es, ds = [.loc M0.length, .tup es] ∧ M = M0 ++ [.ins 10 []] ∧ (∀ e ∈ es, Still e ∧ WdOk e) ∧ es.length ≤ 1000 ∧ (∀ i, badAt es = some i → xBR xp i M) ∧ (badAt es = none → 12 < es.length → xMR xp M) ∧ (badAt es = none → es.length ≤ 12 → ∀ ps : Wds, ps.map (·.2) = es.map asW → post .non (M0 ++ [.ins 10 [("words", .tup (wdsD ps))]]))
/-- a row is made or refused -/
theorem c_mkR {M : Store} {post : DP} {xp : XP} {es : List D} (he : ∀ e ∈ es, Still e ∧ WdOk e) (hl : es.length ≤ 1000) (h1 : ∀ i, badAt es = some i → xBR xp i M) (h2 : badAt es = none → 12 < es.length → xMR xp M) (h3 : badAt es = none → es.length ≤ 12 → ∀ (a : Addr) (ps : Wds), ps.map (·.2) = es.map asW → post (rwD a ps) M) : mkSK 10 S_Row_init post xp es M :=
  ⟨hl, M, es, rfl, rfl, he, hl, fun i h => ⟨⟨_, rfl⟩, ⟨trivial, trivial⟩, h1 i h⟩, fun h h' => ⟨⟨_, rfl⟩, ⟨trivial, trivial, trivial⟩, h2 h h'⟩, fun h h' ps e => ⟨rfl, _, rfl, ⟨ltL_wds ps, trivial⟩, fun a => h3 h h' a ps e⟩⟩
theorem badAt_none {es : List D} : badAt es = none ↔ ∀ e ∈ es, isWdD e = true := by
  unfold badAt
  rw [List.findIdx?_eq_none_iff]
  simp
theorem badAt_at {es done todo : List D} {e : D} (h : es = done ++ e :: todo) (hd : ∀ x ∈ done, isWdD x = true) (he : isWdD e = false) : badAt es = some done.length := by
  subst h
  unfold badAt
  rw [List.findIdx?_append, List.findIdx?_eq_none_iff.mpr (fun x hx => by rw [hd x hx]; rfl), List.findIdx?_cons, he]
  simp
def tf_Row_init : TfS := (tSeq (tFor (gTup 2 (gCons (gNm 2) (gCons (gNm 3) gNil))) (tEn (tVar 1))
    (tSeq (tIf (tNotT (tTest (tFn 1 S_is_word (tCons (tVar 3) tNil)) tTru))
    (tSeq (tRaise1 8 "at" (tVar 2))
    tSkip)
    tSkip)
    tSkip))
    (tSeq (tIf ((tBin (tCall (tCons (tVar 1) tNil) tLen) (tCon (.int 12)) tGt).bl)
    (tSeq (tRaise2 6 "what" "most" (tCon (.str (SX.S [119, 111, 114, 100, 115]))) (tCon (.int 12)))
    tSkip)
    tSkip)
    (tSeq (tFst "words" [10] (tCall (tCons (tLc (gNm 3) [3] (tIt (tVar 1)) tYesT (tStat 7 1 S_Word_of (tCon (.cls 7)) (tCons (tVar 3) tNil))) tNil) tTuple) (tVar 0))
    tSkip)))
theorem f_Row_init : ∀ (ds : List D) (M : Store) (post : DP) (xp : XP), ds.length = 2 → S_Row_init ds M post xp → tf_Row_init (G0 n_Row_init ds) M { nx := fun _ M' => post .non M', rt := post, xx := fun _ => xp } := by
  rintro ds M post xp - ⟨M0, es, rfl, rfl, he, hl, h1, h2, h3⟩ <;> unfold tf_Row_init n_Row_init <;> walk_at "e0"
  have e1000 : (1000 : Nat) ≤ LL := by decide
  walk_at "e"
  refine r_forL (by rw [enD_len]; omega) ?_
  refine r_forI (fun rem Γ M => ∃ (done todo : List D) (x2 x3 : Option D), es = done ++ todo ∧ rem = enD done.length todo ∧ (∀ e ∈ done, isWdD e = true) ∧ M = M0 ++ [.ins 10 []] ∧ Γ = [some (.loc M0.length), some (.tup es), x2, x3]) ⟨[], es, _, _, rfl, rfl, nofun, rfl, rfl⟩ ?_ ?_
  · rintro Γ M ⟨done, todo, x2, x3, e1, e2, hd, rfl, rfl⟩
    have ht : todo = [] := by cases todo with | nil => rfl | cons => cases e2
    subst ht
    rw [List.append_nil] at e1
    subst e1
    have hb := badAt_none.mpr hd
    walk_at "e"
    · exact h2 hb (by omega)
    · refine r_lcW asW (by omega) (fun d hd' p hp => ?_) fun ps hps => ?_
      · walk_at "e"
        rcases isWd_cases (hd d hd') (he d hd').2 with ⟨a, w, rfl, hw⟩ | ⟨l, rfl, hw⟩
        · refine c_of_w ?_
          have := hp a
          rw [asW_wd] at this; exact this
        · refine c_of_t hw fun a => ?_
          have := hp a
          rw [asW_S] at this; exact this
      · walk_at "e"
        exact h3 hb (by omega) ps hps
  · rintro d ds Γ M N ⟨done, todo, x2, x3, e1, e2, hd, rfl, rfl⟩ hN
    cases todo with
    | nil => cases e2
    | cons e todo =>
      have e2 : d :: ds = .tup [.int (done.length : Nat), e] :: enD (done.length + 1) todo := e2
      cases e2
      have hes := he e (by rw [e1]; exact List.mem_append_right _ List.mem_cons_self)
      walk_at "e"
      refine c_is_word hes.1 ?_
      cases hw : isWdD e with
      | true =>
        walk_at "e"
        exact hN _ _ ⟨done ++ [e], todo, _, _, by rw [e1, List.append_assoc]; rfl, by rw [List.length_append]; rfl, fun x hx => (List.mem_append.mp hx).elim (hd x) fun z => by rw [List.mem_singleton.mp z]; exact hw, rfl, rfl⟩
      | false =>
        walk_at "e"
        exact h1 _ (badAt_at e1 hd hw)
theorem ok_Row_init {f : Addr} {fd : FuncData} (F : Fun K "__init__" "Row.__init__" s_Row_init f fd) (hbS : ∀ (u : Value) (rest : List Value), bindArgs fd ⟨u :: rest, []⟩ = (newTuple rest >>= fun t => pure [(("self" : Str), u), (("words" : Str), t)])) (T : TX mg cs) (KF : KFX K cs) (KR : KRX P w K mg base cs)
    (D_is_word : FnD P w K mg base cs 2 "is_word" 1 0 S_is_word)
    (D_Word_of : StD P w K mg base cs 5 7 "of" 1 0 S_Word_of) : FnS P w K mg base 6 f (spS cs 0 S_Row_init) :=
  Ev.fnS_of F sc_Row_init (by decide) hbS (fun cdv A outer s H E hr => (su_cons (st_for passB (xg_tup (n := 2) (xgs_cons (xg_name 2 sc_Row_init.nd) (xgs_cons (xg_name 3 sc_Row_init.nd) xgs_nil))) (xi_enum T.enumerate (px_var 1))
    (su_cons (st_if (pt_not (pt_val (px_call D_is_word hr takesB (pa_cons (px_var 3) pa_nil)) pob_std))
    (su_cons (st_raise1 KR.r_BadRow hr takesB (px_var 2)) su_nil)
    su_nil) su_nil)) (su_cons (st_if (pt_cmp (px_callB T.len (pa_cons (px_var 1) pa_nil) po_len) (px_gint T.v_MOST_WORDS) po_gt)
    (su_cons (st_raise2 KR.r_TooMany hr takesB px_str (px_gint T.v_MOST_WORDS)) su_nil)
    su_nil) (su_cons (st_fld KF.f_words (px_var 0) (px_callTy T.tuple (pa_cons (px_lc sc_Row_init.nd (plc (c2 := 0) (own := [("word", 3)]) (is := [3]) (blkOk_by (by rfl)) (by decide) (xi_std (px_var 1)) (fun s H C cl fp => (xg_name 3 sc_Row_init.nd)) (.inl ⟨rfl, rfl⟩) (fun s H C cl fp => (px_static D_Word_of hr Ev.takes0 (px_gcls 7 T.c_Word) (pa_cons (px_var 3) pa_nil))))) pa_nil) po_tuple)) su_nil)))) (by decide +kernel) (fun d ds M post xp h => f_Row_init [d, .tup ds] M post xp rfl h)
end
end K14
-- k14f3
namespace K14
open PySem L2 Ev
local macro_rules | `(tactic| walk_at "e1") => `(tactic| with_reducible first
  | refine r_seq ?_ | refine r_bin ?_ | refine r_skip ?_ | refine r_asg ?_ | refine r_ret ?_ | refine r_ifs ?_ | refine r_con ?_
  | refine r_cons ?_ | refine r_nil ?_ | refine r_exb ?_ | refine r_exi ?_ | refine r_exs ?_ | refine r_tt ?_ | refine r_ff ?_ | refine r_nt ?_ | refine r_sw ?_
  | refine r_un ?_ | refine r_call ?_ | refine r_fn ?_ | refine r_test ?_ | refine r_notT ?_ | refine r_andT ?_ | refine r_orT ?_ | refine r_and ?_ | refine r_or ?_ | refine r_not ?_ | refine r_ifx ?_
  | refine r_tup ?_ | refine r_lst ?_ | refine r_tru_b ?_ | refine r_tru_i ?_ | refine r_tru_n ?_ | refine r_tru_l ?_ | refine r_tru_t ?_
  | refine r_add_ii ?_ | refine r_add_ib ?_ | refine r_sub ?_ | refine r_lt ?_ | refine r_le_ii ?_ | refine r_gt ?_ | refine r_ge ?_ | refine r_eq_i ?_ | refine r_eq_s ?_ | refine r_eq_b ?_ | refine r_eq_n ?_ | refine r_ne_i ?_ | refine r_ne_s ?_ | refine r_ne_b ?_ | refine r_in_s ?_ | refine r_nin_s ?_ | refine r_neg ?_ | refine r_lt_s ?_
  | refine r_sl ?_ | refine r_sl_l ?_ | refine r_sl_t ?_ | refine r_no ?_ | refine r_some ?_
  | refine r_len_l ?_ | refine r_len_t ?_ | refine r_len_d ?_ | refine r_int_i ?_ | refine r_int_b ?_ | refine r_abs ?_ | refine r_bool_i ?_ | refine r_bool_b ?_ | refine r_str_s ?_ | refine r_list_l ?_ | refine r_list_t ?_ | refine r_tuple_l ?_ | refine r_tuple_t ?_ | refine r_all ?_ | refine r_any ?_ | refine r_sum ?_ | refine r_max2 ?_ | refine r_min2 ?_
  | refine r_bm ?_ | refine r_tyS ?_ | refine r_tyL ?_ | refine r_tyD ?_ | refine r_count ?_ | refine r_meth ?_ | refine r_stat ?_ | refine r_cm ?_ | refine r_iscls ?_ | refine r_mk ?_ | refine r_mkE ?_ | refine r_mkM ?_ | refine r_hear ?_ | refine r_statK ?_ | refine r_methK ?_ | refine r_cmK ?_ | refine r_mkKw ?_
  | refine r_pass ?_ | refine r_break ?_ | refine r_cont ?_ | refine r_retN ?_ | refine r_drop ?_ | refine r_par ?_ | refine r_ex2 ?_ | refine r_raise1 ?_ | refine r_raise2 ?_ | refine r_try ?_ | refine r_unp ?_ | refine r_addI_i ?_ | refine r_isB ?_ | refine r_notB ?_ | refine r_rev ?_ | refine r_rev_l ?_ | refine r_fst ?_
  | refine r_gNm ?_ | refine r_gNil ?_ | refine r_gCons ?_ | refine r_for ?_ | refine r_it ?_ | refine r_it_l ?_ | refine r_it_t ?_ | refine r_it_s ?_ | refine r_rg1 ?_ | refine r_rg2 ?_ | refine r_lc ?_ | refine r_yes ?_ | refine r_chain0 ?_ | refine r_fstr ?_ | refine r_lc0 ?_ | refine r_lc1 ?_ | refine r_for0 ?_ | refine r_for1 ?_ | refine r_j0 ?_ | refine r_j1 ?_ | refine r_fm ?_)
local macro_rules | `(tactic| walk_at "e2") => `(tactic| first
  | ((with_reducible apply r_var); exact rfl)
  | ((with_reducible apply r_ar); exact rfl)
  | ((with_reducible apply r_ar1); exact rfl)
  | ((with_reducible apply r_le); focus (first | decide | (simp only [List.length_cons, List.length_nil]; decide)))
  | ((with_reducible apply r_is_t); exact rfl)
  | ((with_reducible apply r_is_f); exact rfl)
  | ((with_reducible apply r_isnt_t); exact rfl)
  | ((with_reducible apply r_isnt_f); exact rfl)
  | ((with_reducible apply r_isi_t); exact rfl; exact rfl)
  | ((with_reducible apply r_isi_f); exact rfl; exact rfl)
  | ((with_reducible apply r_fld); exact rfl; exact rfl; focus decide)
  | ((with_reducible apply r_recv); exact rfl; exact rfl)
  | ((with_reducible apply r_prop); exact rfl)
  | ((with_reducible apply r_ownS); exact rfl; exact rfl)
  | ((with_reducible apply r_own); exact rfl; exact rfl; focus decide)
  | ((with_reducible apply Or.inl); (with_reducible apply r_ownS); exact rfl; exact rfl)
  | ((with_reducible apply Or.inr); (with_reducible apply r_own); exact rfl; exact rfl; focus decide)
  | ((with_reducible apply r_ownC_o); exact rfl; exact rfl; focus decide)
  | ((with_reducible apply r_ownC_t); exact rfl; exact rfl; (focus decide); (focus decide))
  | ((with_reducible apply r_aug); exact rfl)
  | ((with_reducible apply r_ownRS); exact rfl)
  | ((with_reducible apply r_cval); focus (exact List.mem_cons_self))
  | ((with_reducible apply r_ownD_o); exact rfl; exact rfl; focus decide)
  | ((with_reducible apply r_ownD_t); exact rfl; exact rfl; (focus decide))
  | ((with_reducible apply r_ownNeD_o); exact rfl; exact rfl; focus decide)
  | ((with_reducible apply r_ownNeD_t); exact rfl; exact rfl; (focus decide))
  | ((with_reducible apply r_own1); exact rfl)
  | ((with_reducible apply r_ownB); exact rfl)
  | ((with_reducible apply r_ownN); exact rfl)
  | ((with_reducible apply r_ownA); exact rfl)
  | ((with_reducible apply r_ownStr); exact rfl)
  | ((with_reducible apply r_ownIn); exact rfl)
  | ((with_reducible apply r_ownR); exact rfl)
  | ((with_reducible apply r_mkV); exact rfl)
  | ((with_reducible apply r_fd); exact rfl)
  | ((with_reducible apply r_xf); exact rfl; focus decide)
  | ((with_reducible apply r_isx (b := true)); (focus decide); (focus decide); exact rfl)
  | ((with_reducible apply r_isx (b := false)); (focus decide); (focus decide); exact rfl)
  | ((with_reducible apply r_ar); exact rfl)
  | ((with_reducible apply r_gTup); exact rfl)
  | ((with_reducible apply r_gLs); exact rfl)
  | ((with_reducible apply r_ix_l); exact rfl)
  | ((with_reducible apply r_ix_t); exact rfl)
  | ((with_reducible apply r_fstI); (focus decide); (focus exact Nat.le_of_ble_eq_true rfl))
  | ((with_reducible apply r_dt); (first | assumption | exact rfl | focus decide))
  | ((with_reducible apply r_df); (first | assumption | focus decide))
  | ((with_reducible apply r_partE); assumption; (focus (try walk_at "es")); (focus (try walk_at "es")))
  | ((with_reducible apply r_ct); assumption)
  | ((with_reducible apply r_cf); assumption)
  | ((with_reducible apply r_yes)))
local macro_rules | `(tactic| walk_at "e") => `(tactic| repeat' (first | walk_at "e1" | walk_at "ec" | walk_at "e2" | walk_at "e3"))
local macro_rules | `(tactic| walk_at "e0") => `(tactic| simp only [G0, List.map_cons, List.map_nil, List.length_cons, List.length_nil, List.replicate, List.cons_append, List.nil_append, Nat.reduceAdd, Nat.reduceSub, Nat.sub_zero, Nat.zero_add])
local macro_rules | `(tactic| walk_at "e3") => `(tactic| first
  | ((with_reducible apply r_fdiv); focus (try walk_at "es"))
  | ((with_reducible apply r_mod); focus (try walk_at "es"))
  | ((with_reducible apply r_mul_ii); focus (try walk_at "es"))
  | ((with_reducible apply r_mul_si); focus (try walk_at "es"))
  | ((with_reducible apply r_mul_li); focus (try walk_at "es"))
  | ((with_reducible apply r_pow); focus (try walk_at "es"))
  | ((with_reducible apply r_add_ss); focus (try walk_at "es"))
  | ((with_reducible apply r_add_ll); focus (try walk_at "es"))
  | ((with_reducible apply r_add_tt); focus (try walk_at "es"))
  | ((with_reducible apply r_tru_s); focus (try walk_at "es"))
  | ((with_reducible apply r_sl_s); focus (try walk_at "es"))
  | ((with_reducible apply r_len_s); focus (try walk_at "es"))
  | ((with_reducible apply r_part); (focus (try walk_at "es")); (focus (try walk_at "es")))
  | ((with_reducible apply r_split); (focus (try walk_at "es")); (focus (try walk_at "es")))
  | ((with_reducible apply r_join); focus (try walk_at "es"))
  | ((with_reducible apply r_exh); focus (try walk_at "es"))
  | ((with_reducible apply r_str_i); focus (try walk_at "es"))
  | ((with_reducible apply r_le); focus (try walk_at "es"))
  | ((with_reducible apply r_fm_i); focus (try walk_at "es"))
  | ((with_reducible apply r_fm_s); focus (try walk_at "es"))
  | ((with_reducible apply r_jS); focus (try walk_at "es"))
  | ((with_reducible apply r_addI_s); focus (try walk_at "es"))
  | ((with_reducible apply r_rev_s); focus (try walk_at "es"))
  | ((with_reducible apply r_listS); focus (try walk_at "es"))
  | (with_reducible apply r_is; exact rfl)
  | (with_reducible apply r_isnt; exact rfl)
  | (with_reducible refine' r_dc (fun _ => ?_) (fun _ => ?_))
  | (with_reducible refine' r_cc (fun _ => ?_) (fun _ => ?_))
  | (with_reducible intro _))
local macro_rules | `(tactic| walk_at "en") => `(tactic| simp only [List.nil_append, List.cons_append, List.append_assoc])
open SX PyProof.Rows PySem.Spec
local macro_rules | `(tactic| walk_at "still") => `(tactic| first
  | (exact Still.wd)
  | (exact Still.str (by assumption) (by assumption))
  | (exact Still.str (by first | decide | omega) (by first | decide | assumption))
  | (exact Still.mk0 (fun M => ⟨_, rfl, by intro c hc; cases hc⟩) (fun n => by simp [D.lt, D.ltL, D.ltF, D.ltK, ltL_signs]) nofun))
local macro_rules | `(tactic| walk_at "es") => `(tactic| first | assumption | decide | omega | (exact len_small ‹_›) | (simp only [List.length_cons, List.length_nil, List.length_append]; decide))
local macro_rules | `(tactic| walk_at "rd") => `(tactic| first
  | assumption | exact Rd.non | exact Rd.bl | exact RdL.nil | exact RdK.nil
  | ((with_reducible apply Rd.tup); walk_at "rd") | ((with_reducible apply Rd.lst); walk_at "rd") | ((with_reducible apply Rd.dic); walk_at "rd")
  | ((with_reducible apply RdL.cons); (focus walk_at "rd"); (focus walk_at "rd"))
  | ((with_reducible apply RdK.str); (focus (exact Nat.le_refl _)); (focus decide); (focus walk_at "rd"); (focus walk_at "rd"))
  | ((with_reducible apply Rd.str); (focus assumption); (focus assumption))
  | ((with_reducible apply Rd.str); (focus (exact Nat.le_refl _)); (focus decide))
  | ((with_reducible apply Rd.int); (focus (first | assumption | decide)))
  | ((with_reducible apply Rd.int); (focus (simp only [Int.natAbs_natCast]; exact lt_of_lt_log ‹_›)))
  | ((simp only [List.nil_append, List.cons_append, Int.reduceToNat, List.reduceReplicate, List.flatten_cons, List.flatten_nil, Int.toNat_natCast, List.length_cons, List.length_nil, Nat.reduceAdd]); walk_at "rd"))
local macro_rules | `(tactic| walk_at "ec") => `(tactic| fail "none")
local macro_rules | `(tactic| walk_at "ec") => `(tactic| first
  | (with_reducible apply r_en) | (with_reducible apply r_en_l) | (with_reducible apply r_en_t) | (with_reducible apply r_mkS) | (with_reducible apply r_spr) | (with_reducible apply r_spr_l) | (with_reducible apply r_spr_t) | (with_reducible apply r_starA) | (with_reducible apply r_lrg2)
  | ((with_reducible apply r_ownIx); (focus exact rfl)))
local macro_rules | `(tactic| walk_at "ec") => `(tactic| first
  | (with_reducible refine ⟨tyM_liC, ?_⟩)
  | ((with_reducible apply r_appendC); (focus (simp only [List.length_cons, List.length_nil, List.length_append]; decide)))
  | ((with_reducible apply r_frzC); (focus rfl); walk_at "en")
  | (with_reducible refine ⟨tyM_li, ?_⟩)
  | (with_reducible apply r_lstM)
  | ((with_reducible apply r_append); (focus (simp only [List.length_cons, List.length_nil, List.length_append]; decide)))
  | ((with_reducible apply r_frzL); (focus rfl); walk_at "en"))
local macro_rules | `(tactic| walk_at "ec") => `(tactic| first
  | ((with_reducible apply r_mkSV); (focus exact rfl))
  | (with_reducible apply r_fmO)
  | ((with_reducible apply r_splitP); (focus assumption))
  | ((with_reducible apply r_slLast); (focus assumption)))
section
variable {P : Program} {w : World} {K : PySem.W.Frag} {mg : Str → Option Value} {base : Heap} {cs : CS}
/-! ### Row.__or__ -/
abbrev s_Row_or : Stmt := inClass (top 26) 12
abbrev n_Row_or : List Str := ["self", "other", "words"]
theorem sc_Row_or : FnScope n_Row_or ["self", "other"] (defScope s_Row_or) := ⟨rfl, rfl, rfl, by decide +kernel, rfl, by decide +kernel, by decide +kernel⟩
/-- what may stand in a row's list -/
def Good (e : D) : Prop := Still e ∧ WdOk e ∧ isWdD e = isTxtD e
theorem Good.txt {t : List Nat} (h : isTxt t = true) : Good (.str (S t)) := ⟨Still.str (by have := (isTxt_iff.mp h).2.1; omega) (abc_asc (isTxt_iff.mp h).2.2), WdOk.str, rfl⟩
theorem all_good {us : List (List Nat)} (h : ∀ t ∈ us, isTxt t = true) : badAt (strsD us) = none ∧ (∀ e ∈ strsD us, Still e ∧ WdOk e) ∧ (strsD us).map asW = us.map canon := by
  refine ⟨badAt_none.mpr fun e he => ?_, fun e he => ?_, ?_⟩
  · obtain ⟨t, ht, rfl⟩ := List.mem_map.mp he
    rw [isWdD_S]; exact h t ht
  · obtain ⟨t, ht, rfl⟩ := List.mem_map.mp he
    exact ⟨(Good.txt (h t ht)).1, WdOk.str⟩
  · rw [List.map_map]
    exact List.map_congr_left fun t _ => asW_S
theorem Still.strs {ts : List (List Nat)} : Still (.lst (strsD ts)) := Still.mk0 (fun M => ⟨_, rfl, by intro c hc; cases hc⟩) (fun n => by show D.ltL n (strsD ts); induction ts with | nil => trivial | cons t ts ih => exact ⟨trivial, ih⟩) nofun
theorem eqvAll_strs : ∀ ws vs : List Str, PyData.eqvAll (ws.map PyData.str) (vs.map PyData.str) = decide (ws = vs)
  | [], [] => rfl
  | [], _ :: _ => by simp [PyData.eqvAll]
  | _ :: _, [] => by simp [PyData.eqvAll]
  | w :: ws, v :: vs => by
    have ih := eqvAll_strs ws vs
    rw [Bool.eq_iff_iff] at ih ⊢
    simp [PyData.eqvAll, PyData.eqv] at ih ⊢
    rw [ih]
    exact fun _ => Iff.rfl
theorem strs_inj {ts us : List (List Nat)} : (ts.map S = us.map S) ↔ ts = us := ⟨fun h => (List.map_inj_right fun a b h => S_inj h).mp h, fun h => by rw [h]⟩
theorem strs_ok {ts : List (List Nat)} (hok : ∀ t ∈ ts, ∀ c ∈ t, c < 128) : ∀ w ∈ ts.map S, PyData.strOk w = true := fun w hw => by
  obtain ⟨t, ht, rfl⟩ := List.mem_map.mp hw
  have := hok t ht
  simp [PyData.strOk, S]
  intro c hc
  have := this c hc
  omega
theorem r_neSS {ts us : List (List Nat)} {M : Store} {post : DP} {xp : XP} (h1 : ∀ t ∈ ts, ∀ c ∈ t, c < 128) (h2 : ∀ t ∈ us, ∀ c ∈ t, c < 128) (q : post (.bl (!decide (ts = us))) M) : tNe (.lst (strsD ts)) (.lst (strsD us)) M post xp := by
  refine .inr ⟨.list ((ts.map S).map PyData.str), .list ((us.map S).map PyData.str), by rw [strs_str]; show (pyL _).map _ = _; rw [pyL_strs]; rfl, by rw [strs_str]; show (pyL _).map _ = _; rw [pyL_strs]; rfl, shaped_strs _ (strs_ok h1), shaped_strs _ (strs_ok h2), ?_⟩
  have e : PyData.eqv (.list ((ts.map S).map PyData.str)) (.list ((us.map S).map PyData.str)) = decide (ts = us) := by
    show PyData.eqvAll _ _ = _
    rw [eqvAll_strs]
    by_cases h : ts = us
    · rw [decide_eq_true h, decide_eq_true (strs_inj.mpr h)]
    · rw [decide_eq_false h, decide_eq_false fun z => h (strs_inj.mp z)]
  rw [if_pos rfl, e]; exact q
theorem range_get {α : Type} (l : List α) (z : α) : (List.range l.length).map (fun k => l.getD k z) = l := by
  refine List.ext_getElem (by simp) fun i h1 h2 => ?_
  simp [h2]
theorem c_mk1 {t : List Nat} {M : Store} {post : DP} {xp : XP} (h : isTxt t = true) (hp : ∀ a ps, ps.map (·.2) = [canon t] → post (rwD a ps) M) : mkSK 10 S_Row_init post xp [.str (S t)] M := by
  have hb : badAt [D.str (S t)] = none := badAt_none.mpr fun e he => by rw [List.mem_singleton.mp he, isWdD_S]; exact h
  have hg := Good.txt h
  refine c_mkR (fun e he => by rw [List.mem_singleton.mp he]; exact ⟨hg.1, hg.2.1⟩) (by simp) (fun i z => by rw [hb] at z; cases z) (fun _ z => by simp at z) fun _ _ a ps hps => hp a ps (by rw [hps, List.map_cons, asW_S]; rfl)
theorem TxO.canon {ts : List (List Nat)} (h : TxO ts) : TxO (ts.map canon) := ⟨by rw [List.length_map]; exact h.1, fun t ht => by
  obtain ⟨u, hu, rfl⟩ := List.mem_map.mp ht
  exact canon_txt (h.2 u hu)⟩
theorem TxO.asc {ts : List (List Nat)} (h : TxO ts) : ∀ t ∈ ts, ∀ c ∈ t, c < 128 := fun t ht => abc_asc (isTxt_iff.mp (h.2 t ht)).2.2
theorem TxO.len8 {ts : List (List Nat)} (h : TxO ts) : ∀ t ∈ ts, t.length ≤ 8 := fun t ht => (isTxt_iff.mp (h.2 t ht)).2.1
theorem canon_map2 {ts : List (List Nat)} (h : ∀ t ∈ ts, isTxt t = true) : (ts.map canon).map canon = ts.map canon := by
  rw [List.map_map]
  exact List.map_congr_left fun t ht => canon_idem (isTxt_iff.mp (h t ht)).2.2
theorem wds_txt {ps : Wds} {ts : List (List Nat)} (h : TxO ts) (e : ps.map (·.2) = ts.map canon) : ps.length = ts.length ∧ ∀ p ∈ ps, isTxt p.2 = true := ⟨by simpa using congrArg List.length e, fun p hp => by
  have : p.2 ∈ ts.map canon := e ▸ List.mem_map_of_mem hp
  exact h.canon.2 _ this⟩
theorem wds_as (ps : Wds) : (wdsD ps).map asW = ps.map (·.2) := by
  rw [List.map_map]
  exact List.map_congr_left fun p _ => asW_wd
theorem wds_good {ps : Wds} (h : ∀ p ∈ ps, isTxt p.2 = true) : (∀ e ∈ wdsD ps, Still e ∧ WdOk e) ∧ ∀ e ∈ wdsD ps, isWdD e = true := ⟨fun e he => by
  obtain ⟨p, hp, rfl⟩ := List.mem_map.mp he
  exact ⟨Still.wd, WdOk.wd (h p hp)⟩, fun e he => by
  obtain ⟨p, hp, rfl⟩ := List.mem_map.mp he
  rfl⟩
theorem wds_len0 {ps : Wds} : (wdsD ps).length = ps.length := List.length_map _
/-- a row of words -/
theorem c_mkWs {ps : Wds} {M : Store} {post : DP} {xp : XP} (h : ∀ p ∈ ps, isTxt p.2 = true) (hl : ps.length ≤ 1000) (h2 : 12 < ps.length → xMR xp M) (h3 : ps.length ≤ 12 → ∀ (a : Addr) (qs : Wds), qs.map (·.2) = ps.map (·.2) → post (rwD a qs) M) : mkSK 10 S_Row_init post xp (wdsD ps) M := by
  obtain ⟨g1, g2⟩ := wds_good h
  have hb : badAt (wdsD ps) = none := badAt_none.mpr g2
  exact c_mkR g1 (by rw [wds_len0]; exact hl) (fun i z => by rw [hb] at z; cases z) (fun _ z => h2 (by rw [wds_len0] at z; exact z)) fun _ z a qs hq => h3 (by rw [wds_len0] at z; exact z) a qs (by rw [hq, wds_as])
theorem c_mk0 {M : Store} {post : DP} {xp : XP} (hp : ∀ (a : Addr), post (rwD a []) M) : mkSK 10 S_Row_init post xp [] M := c_mkWs (ps := []) nofun (by decide) (fun z => absurd z (by decide)) fun _ a qs hq => by
  have : qs = [] := List.map_eq_nil_iff.mp hq
  subst this
  exact hp a
def S_Row_or : SpX := fun ds M post xp => ∃ a ps d, ds = [rwD a ps, d] ∧ (∀ p ∈ ps, isTxt p.2 = true) ∧ ps.length ≤ 100 ∧ Still d ∧ WdOk d ∧ (isWdD d = false → xBW xp d M) ∧ (isWdD d = true → 12 ≤ ps.length → xMR xp M) ∧ (isWdD d = true → ps.length < 12 → ∀ (b : Addr) (qs : Wds), qs.map (·.2) = ps.map (·.2) ++ [asW d] → post (rwD b qs) M)
theorem c_or {a : Addr} {ps : Wds} {d : D} {M : Store} {post : DP} {xp : XP} (h : ∀ p ∈ ps, isTxt p.2 = true) (hl : ps.length ≤ 100) (hd : Still d) (hw : WdOk d) (h1 : isWdD d = false → xBW xp d M) (h2 : isWdD d = true → 12 ≤ ps.length → xMR xp M) (h3 : isWdD d = true → ps.length < 12 → ∀ (b : Addr) (qs : Wds), qs.map (·.2) = ps.map (·.2) ++ [asW d] → post (rwD b qs) M) : S_Row_or [rwD a ps, d] M post xp := ⟨a, ps, d, rfl, h, hl, hd, hw, h1, h2, h3⟩
theorem WdOk.isc {d : D} (hd : Still d) (h : isWdD d = false) : isTxtD d = false ∧ ∀ M, isC M d 7 = false := by
  refine ⟨?_, fun M => ?_⟩
  · cases d <;> first | rfl | exact h
  · rw [hd.isc M 7]
    cases d <;> first | rfl | simpa [isWdD, clsD] using h
def tf_Row_or : TfS := (tSeq (tAsg 2 (tLst (tStarA (tUn (tVar 0) (tFld "words" [10])) (tCons (tStat 7 1 S_Word_of (tCon (.cls 7)) (tCons (tVar 1) tNil)) tNil))))
    (tSeq (tRet (tMkS 10 S_Row_init (tSpr (tVar 2))))
    tSkip))
theorem f_Row_or : ∀ (ds : List D) (M : Store) (post : DP) (xp : XP), ds.length = 2 → S_Row_or ds M post xp → tf_Row_or (G0 n_Row_or ds) M { nx := fun _ M' => post .non M', rt := post, xx := fun _ => xp } := by
  rintro ds M post xp - ⟨a, ps, d, rfl, h, hl, hd, hw, h1, h2, h3⟩ <;> unfold tf_Row_or n_Row_or <;> walk_at "e0"
  have fin : isWdD d = true → ∀ b, mkSK 10 S_Row_init post xp (wdsD ps ++ [wdD b (asW d)]) M := fun hwd b => by
    have hg : ∀ p ∈ ps ++ [(b, asW d)], isTxt p.2 = true := fun p hp => (List.mem_append.mp hp).elim (h p) fun e => by rw [List.mem_singleton.mp e]; exact asW_txt hwd hw
    have e : wdsD ps ++ [wdD b (asW d)] = wdsD (ps ++ [(b, asW d)]) := by rw [wdsD, wdsD, List.map_append]; rfl
    rw [e]
    refine c_mkWs hg (by rw [List.length_append, List.length_singleton]; omega) (fun z => h2 hwd (by rw [List.length_append, List.length_singleton] at z; omega)) fun z c qs hq => h3 hwd (by rw [List.length_append, List.length_singleton] at z; omega) c qs (by rw [hq, List.map_append]; rfl)
  walk_at "e"
  cases hwd : isWdD d with
  | false =>
    obtain ⟨z1, z2⟩ := WdOk.isc hd hwd
    exact c_of_x hd z1 z2 (h1 hwd)
  | true =>
    have fin := fin hwd
    rcases isWd_cases hwd hw with ⟨b, w, rfl, hw'⟩ | ⟨l, rfl, hw'⟩
    · refine c_of_w ?_
      have fin := fin b
      rw [asW_wd] at fin
      walk_at "e"
      · rw [List.length_append, List.length_map, List.length_singleton, sizeLine_eq]; omega
      · exact fin
    · refine c_of_t hw' fun b => ?_
      have fin := fin b
      rw [asW_S] at fin
      walk_at "e"
      · rw [List.length_append, List.length_map, List.length_singleton, sizeLine_eq]; omega
      · exact fin
theorem ok_Row_or {f : Addr} {fd : FuncData} (F : Fun K "__or__" "Row.__or__" s_Row_or f fd) (T : TX mg cs) (KF : KFX K cs)
    (D_Word_of : StD P w K mg base cs 5 7 "of" 1 0 S_Word_of)
    (D_Row_init : MkS P w K mg base cs 6 "Row" 10 0 S_Row_init) : FnG P w K mg base (L2.CX P w) 8 f fd ["self", "other"] (spN cs 2 0 S_Row_or) :=
  Ev.fn_of F sc_Row_or rfl (by decide) (fun cdv A outer s H E hr => (su_cons (st_asg 2 sc_Row_or.nd (px_lst (pxa_star (px_attr (px_var 0) (pat_fld KF.f_words)) (pa_cons (px_static D_Word_of hr takesB (px_gcls 7 T.c_Word) (pa_cons (px_var 1) pa_nil)) pa_nil)))) (su_cons (st_ret (px_mkSt D_Row_init hr takesB (px_var 2))) su_nil))) (by decide +kernel) f_Row_or
/-! ### Row.read -/
abbrev s_Row_read : Stmt := inClass (top 26) 2
abbrev n_Row_read : List Str := ["cls", "text", "parts", "is_ended", "texts", "at", "part"]
theorem sc_Row_read : FnScope n_Row_read ["cls", "text"] (defScope s_Row_read) := ⟨rfl, rfl, rfl, by decide +kernel, rfl, by decide +kernel, by decide +kernel⟩
abbrev xBT (xp : XP) (k : Nat) (M : Store) : Prop := xp 2 [("word", .int (k : Nat)), ("line", .int 0)] M
abbrev okR (post : DP) (M : Store) (ts : List (List Nat)) : Prop := ∀ (a : Addr) (ps : Wds), ps.map (·.2) = ts.map canon → post (rwD a ps) M
def S_Row_read : SpX := fun ds M post xp => ∃ d, ds = [.cls 10, d] ∧ Still d ∧ ((∃ l, d = .str (S l) ∧ rdP l (okR post M) (fun k => xBT xp k M)) ∨ ((∀ z, d ≠ .str z) ∧ xBT xp 0 M))
theorem c_read {l : List Nat} {M : Store} {post : DP} {xp : XP} (h : l.length ≤ 100000) (hc : ∀ c ∈ l, c < 128) (hp : rdP l (okR post M) (fun k => xBT xp k M)) : S_Row_read [.cls 10, .str (S l)] M post xp := ⟨_, rfl, Still.str h hc, .inl ⟨l, rfl, hp⟩⟩
theorem c_readX {d : D} {M : Store} {post : DP} {xp : XP} (h : Still d) (hd : ∀ z, d ≠ .str z) (hx : xBT xp 0 M) : S_Row_read [.cls 10, d] M post xp := ⟨_, rfl, h, .inr ⟨hd, hx⟩⟩
def tf_Row_read : TfS := (tSeq (tIf (tNotT (tTest (tCall (tCons (tVar 1) (tCons (tCon (.ty .str)) tNil)) (tIsi isiO isiS)) tTru))
    (tSeq (tRaise2 2 "line" "word" (tCon (.int 0)) (tCon (.int 0)))
    tSkip)
    tSkip)
    (tSeq (tIf ((tBin (tVar 1) (tCon (.str (SX.S [45]))) tEq).bl)
    (tSeq (tRet (tMkSV 0 10 S_Row_init tNil))
    tSkip)
    tSkip)
    (tSeq (tAsg 2 (tBm "str" (tVar 1) (tCons (tCon (.str (SX.S [124]))) tNil) tSplit))
    (tSeq (tAsg 3 (tAnd (tBin (tCall (tCons (tVar 2) tNil) tLen) (tCon (.int 1)) tGt) tTru (tBin (tBin (tVar 2) (tUn (tCon (.int 1)) tNeg) tIx) (tCon (.str (SX.S []))) tEq)))
    (tSeq (tAsg 4 (tIfx (tTest (tVar 3) tTru) (tSl (tVar 2) tNo (tSome (tUn (tCon (.int 1)) tNeg))) (tVar 2)))
    (tSeq (tFor (gTup 2 (gCons (gNm 5) (gCons (gNm 6) gNil))) (tEn (tVar 4))
    (tSeq (tIf (tOrT ((tBin (tVar 5) (tCon (.int 12)) tEq).bl) (tNotT (tTest (tFn 1 S_is_text (tCons (tVar 6) tNil)) tTru)))
    (tSeq (tRaise2 2 "line" "word" (tCon (.int 0)) (tVar 5))
    tSkip)
    tSkip)
    tSkip))
    (tSeq (tIf (tNotT (tTest (tVar 3) tTru))
    (tSeq (tRaise2 2 "line" "word" (tCon (.int 0)) (tCall (tCons (tVar 4) tNil) tLen))
    tSkip)
    tSkip)
    (tSeq (tRet (tMkSV 0 10 S_Row_init (tSpr (tVar 4))))
    tSkip))))))))
abbrev readBody : TfS := tSeq (tIf (tOrT ((tBin (tVar 5) (tCon (.int 12)) tEq).bl) (tNotT (tTest (tFn 1 S_is_text (tCons (tVar 6) tNil)) tTru)))
    (tSeq (tRaise2 2 "line" "word" (tCon (.int 0)) (tVar 5)) tSkip) tSkip) tSkip
abbrev readAfter : TfS := tSeq (tIf (tNotT (tTest (tVar 3) tTru)) (tSeq (tRaise2 2 "line" "word" (tCon (.int 0)) (tCall (tCons (tVar 4) tNil) tLen)) tSkip) tSkip)
    (tSeq (tRet (tMkSV 0 10 S_Row_init (tSpr (tVar 4)))) tSkip)
theorem f_Row_read : ∀ (ds : List D) (M : Store) (post : DP) (xp : XP), ds.length = 2 → S_Row_read ds M post xp → tf_Row_read (G0 n_Row_read ds) M { nx := fun _ M' => post .non M', rt := post, xx := fun _ => xp } := by
  rintro ds M post xp - ⟨d, rfl, hd, ⟨l, rfl, h1, h2⟩ | ⟨hn, hx⟩⟩ <;> unfold tf_Row_read n_Row_read <;> walk_at "e0"
  · have hl := hd.sz _ rfl
    have hl2 : (S l).length + 2 ≤ sizeLine := by rw [S_len, sizeLine_eq]; omega
    have hne := prt_ne l
    by_cases h45 : S l = S [45]
    · walk_at "e"
      exact c_mk0 fun a => h1 (S_inj h45) a [] rfl
    · obtain ⟨k1, k2, k3⟩ := h2 fun z => h45 (by rw [z])
      have fin : ∀ (b : Bool), isEnd (prt l) = b → forK (Ev.gTup 2 (Ev.gCons (gNm 5) (Ev.gCons (gNm 6) Ev.gNil))) readBody [some (.cls 10), some (.str (S l)), some (.lst (strsD (prt l))), some (.bl b), some (.lst (strsD (txs l))), none, none] { nx := fun Γ' M' => readAfter Γ' M' { nx := fun _ M' => post .non M', rt := post, xx := fun _ => xp }, rt := post, xx := fun _ => xp } (enD 0 (strsD (txs l))) STrue M := fun b hb => by
        have e100 : (100001 : Nat) ≤ LL := by decide
        have htl := txs_len l
        generalize hqs : txs l = qs at *
        have hsub := txs_sub l
        rw [hqs] at hsub
        refine r_forL (by rw [enD_len, List.length_map]; omega) ?_
        refine r_forI (fun rem Γ M' => ∃ (done todo : List (List Nat)) (x5 x6 : Option D), qs = done ++ todo ∧ rem = enD done.length (strsD todo) ∧ done.length ≤ 12 ∧ (∀ u ∈ done, isTxt u = true) ∧ M' = M ∧ Γ = [some (.cls 10), some (.str (S l)), some (.lst (strsD (prt l))), some (.bl b), some (.lst (strsD qs)), x5, x6]) ⟨[], qs, _, _, rfl, rfl, by decide, nofun, rfl, rfl⟩ ?_ ?_
        · rintro Γ M' ⟨done, todo, x5, x6, e1, e2, hd1, hd2, rfl, rfl⟩
          have ht : todo = [] := by cases todo with | nil => rfl | cons => cases e2
          subst ht
          rw [List.append_nil] at e1
          subst e1
          have hw := wrong_none hd1 hd2
          cases b with
          | false =>
            walk_at "e"
            rw [List.length_map]
            exact k3 hw hb
          | true =>
            walk_at "e"
            obtain ⟨g1, g2, g3⟩ := all_good hd2
            refine c_mkR g2 (by rw [List.length_map]; omega) (fun i z => by rw [g1] at z; cases z) (fun _ z => by rw [List.length_map] at z; omega) fun _ _ a ps hps => ?_
            rw [g3] at hps
            exact k2 hw hb a ps hps
        · rintro d ds Γ M' N ⟨done, todo, x5, x6, e1, e2, hd1, hd2, rfl, rfl⟩ hN
          cases todo with
          | nil => cases e2
          | cons t todo =>
            have e2 : d :: ds = .tup [.int (done.length : Nat), .str (S t)] :: enD (done.length + 1) (strsD todo) := e2
            cases e2
            have htm := hsub t (by rw [e1]; exact List.mem_append_right _ List.mem_cons_self)
            have hts : Still (.str (S t)) := Still.str (by have := (prt_mem htm).1; omega) fun c hc => hd.asc _ rfl c ((prt_mem htm).2 c hc)
            by_cases h12 : ((done.length : Nat) : Int) = 12
            · walk_at "e"
              exact k1 _ (wrong_at e1 hd1 hd2 (.inl (by omega)))
            · walk_at "e"
              refine c_is_text hts ?_
              rw [isTxtD_S]
              cases hw : isTxt t with
              | true =>
                walk_at "e"
                exact hN _ _ ⟨done ++ [t], todo, _, _, by rw [e1, List.append_assoc]; rfl, by rw [List.length_append]; rfl, by rw [List.length_append, List.length_singleton]; omega, fun x hx => (List.mem_append.mp hx).elim (hd2 x) fun z => by rw [List.mem_singleton.mp z]; exact hw, rfl, rfl⟩
              | false =>
                walk_at "e"
                exact k1 _ (wrong_at e1 hd1 hd2 (.inr hw))
      by_cases hlen : (1 : Int) < ((strsD (prt l)).length : Nat)
      · obtain ⟨q, hq⟩ : ∃ q, (prt l).getLast? = some q := by
          cases h : (prt l).getLast? with
          | none => exact absurd (List.getLast?_eq_none_iff.mp h) hne
          | some q => exact ⟨q, rfl⟩
        have hat := at_last hq
        rw [List.length_map] at hlen
        have hlen' : 1 < (prt l).length := by omega
        by_cases hq0 : S q = S []
        · have hq0' := S_inj hq0
          have hE : isEnd (prt l) = true := by unfold isEnd; rw [hq, hq0', decide_eq_true hlen']; simp
          have hx : txs l = (prt l).dropLast := by unfold txs; rw [if_pos hE]
          have fin := fin true hE
          rw [hx] at fin
          have hd0 : decide (S q = S []) = true := decide_eq_true hq0
          rw [← List.length_map (as := prt l) (fun t => D.str (S t))] at hlen
          walk_at "e"
          refine r_ix_l hat ?_
          walk_at "e"
          all_goals first | exact absurd hq0 ‹_› | exact absurd ‹S q = S []› hq0 | (try rw [cut_last hne]); rw [hd0]; exact fin
        · have hE : isEnd (prt l) = false := by unfold isEnd; rw [hq, decide_eq_true hlen', decide_eq_false (fun z => hq0 (by rw [Option.some.inj z]))]; rfl
          have hx : txs l = prt l := by unfold txs; rw [hE]; rfl
          have fin := fin false hE
          rw [hx] at fin
          have hd0 : decide (S q = S []) = false := decide_eq_false hq0
          rw [← List.length_map (as := prt l) (fun t => D.str (S t))] at hlen
          walk_at "e"
          refine r_ix_l hat ?_
          walk_at "e"
          all_goals first | exact absurd hq0 ‹_› | exact absurd ‹S q = S []› hq0 | (try rw [cut_last hne]); rw [hd0]; exact fin
      · have hlen' : ¬ 1 < (prt l).length := fun z => hlen (by rw [List.length_map]; omega)
        have hE : isEnd (prt l) = false := by unfold isEnd; rw [decide_eq_false hlen']; rfl
        have hx : txs l = prt l := by unfold txs; rw [hE]; rfl
        have fin := fin false hE
        rw [hx] at fin
        have hd0 : decide ((1 : Int) < ((strsD (prt l)).length : Nat)) = false := decide_eq_false hlen
        walk_at "e"
        rw [hd0]
        exact fin
  · walk_at "e"
    refine r_isiT (hd.isi M) (by decide) ?_
    have : isT M d .str = false := by
      cases h : isT M d .str with
      | false => rfl
      | true => obtain ⟨z, rfl⟩ := isT_str h; exact absurd rfl (hn z)
    rw [this]
    walk_at "e"
    exact hx
theorem ok_Row_read {f : Addr} {fd : FuncData} (F : Fun K "read" "Row.read" s_Row_read f fd) (T : TX mg cs) (KF : KFX K cs) (KR : KRX P w K mg base cs)
    (D_Row_init : MkS P w K mg base cs 6 "Row" 10 0 S_Row_init)
    (D_is_text : FnD P w K mg base cs 1 "is_text" 1 0 S_is_text) : FnG P w K mg base (L2.CX P w) 8 f fd ["cls", "text"] (spN cs 2 0 S_Row_read) :=
  Ev.fn_of F sc_Row_read rfl (by decide) (fun cdv A outer s H E hr => (su_cons (st_if (pt_not (pt_val (px_callB T.isinstance (pa_cons (px_var 1) (pa_cons (px_gty .str T.str) pa_nil)) (po_isi KF.isi)) pob_std))
    (su_cons (st_raise2 KR.r_BadText hr takesB px_int px_int) su_nil)
    su_nil) (su_cons (st_if (pt_cmp (px_var 1) (px_gstr T.v_EMPTY) (po_eq hr.hu))
    (su_cons (st_ret (px_mkSV0 0 D_Row_init hr takesB)) su_nil)
    su_nil) (su_cons (st_asg 2 sc_Row_read.nd (px_bm PySem.F.plainAttrs_str PySem.F.slot_str_split (by first | rfl | kernel_rfl) pom_split (px_var 1) (pa_cons (px_gstr T.v_TAB) pa_nil))) (su_cons (st_asg 3 sc_Row_read.nd (px_and (px_cmp (px_callB T.len (pa_cons (px_var 2) pa_nil) po_len) px_int po_gt) pob_std (px_one (px_cmp (px_ix (px_var 2) (px_un px_int po_neg) (pix_std hr.hu1)) px_str (po_eq hr.hu))))) (su_cons (st_asg 4 sc_Row_read.nd (px_ifx (pt_val (px_var 3) pob_std) (px_sl (px_var 2) pp_none (pp_some (px_un px_int po_neg))) (px_var 2))) (su_cons (st_for passB (xg_tup (n := 2) (xgs_cons (xg_name 5 sc_Row_read.nd) (xgs_cons (xg_name 6 sc_Row_read.nd) xgs_nil))) (xi_enum T.enumerate (px_var 4))
    (su_cons (st_if (pw_or (pt_cmp (px_var 5) (px_gint T.v_MOST_WORDS) (po_eq hr.hu)) (pw_one (pt_not (pt_val (px_call D_is_text hr takesB (pa_cons (px_var 6) pa_nil)) pob_std)))).pt
    (su_cons (st_raise2 KR.r_BadText hr takesB px_int (px_var 5)) su_nil)
    su_nil) su_nil)) (su_cons (st_if (pt_not (pt_val (px_var 3) pob_std))
    (su_cons (st_raise2 KR.r_BadText hr takesB px_int (px_callB T.len (pa_cons (px_var 4) pa_nil) po_len)) su_nil)
    su_nil) (su_cons (st_ret (px_mkStV 0 D_Row_init hr takesB (px_var 4))) su_nil))))))))) (by decide +kernel) f_Row_read
/-! ### Row.__eq__ -/
abbrev s_Row_eq : Stmt := inClass (top 26) 19
abbrev n_Row_eq : List Str := ["self", "other"]
theorem sc_Row_eq : FnScope n_Row_eq ["self", "other"] (defScope s_Row_eq) := ⟨rfl, rfl, rfl, by decide +kernel, rfl, by decide +kernel, by decide +kernel⟩
def S_Row_eq : SpX := fun ds M post _ => ∃ a ps d, ds = [rwD a ps, d] ∧ ((∃ b qs, d = rwD b qs ∧ post (.bl (decide (ps.map (·.2) = qs.map (·.2)))) M) ∨ (Still d ∧ (clsD d == some 10) = false ∧ post (.bl false) M))
theorem c_req {a b : Addr} {ps qs : Wds} {M : Store} {post : DP} {xp : XP} (hp : post (.bl (decide (ps.map (·.2) = qs.map (·.2)))) M) : S_Row_eq [rwD a ps, rwD b qs] M post xp := ⟨a, ps, _, rfl, .inl ⟨b, qs, rfl, hp⟩⟩
theorem c_req_x {a : Addr} {ps : Wds} {d : D} {M : Store} {post : DP} {xp : XP} (h : Still d) (h2 : (clsD d == some 10) = false) (hp : post (.bl false) M) : S_Row_eq [rwD a ps, d] M post xp := ⟨a, ps, _, rfl, .inr ⟨h, h2, hp⟩⟩
abbrev sameW (d e : D) : Bool := decide (asW d = asW e)
theorem eqTs_wds : ∀ ps qs : Wds, eqTs sameW (wdsD ps) (wdsD qs) = decide (ps.map (·.2) = qs.map (·.2))
  | [], [] => rfl
  | [], q :: qs => by simp [eqTs, wdsD]
  | p :: ps, [] => by simp [eqTs, wdsD]
  | p :: ps, q :: qs => by
    have ih := eqTs_wds ps qs
    unfold eqTs at ih ⊢
    simp only [wdsD, List.map_cons, List.length_cons, List.zip_cons_cons, List.all_cons, sameW, asW_wd] at ih ⊢
    rw [Bool.eq_iff_iff] at ih ⊢
    simp only [Bool.and_eq_true, decide_eq_true_eq, beq_iff_eq, List.cons.injEq] at ih ⊢
    constructor
    · rintro ⟨h1, h2, h3⟩
      exact ⟨h2, ih.mp ⟨by omega, h3⟩⟩
    · rintro ⟨h1, h2⟩
      have := ih.mpr h2
      exact ⟨by omega, h1, this.2⟩
theorem flat_wd {ps : Wds} : ∀ d ∈ wdsD ps, flatO 7 d ∧ sameW d d = true := fun d hd => by
  obtain ⟨p, hp, rfl⟩ := List.mem_map.mp hd
  exact ⟨⟨_, _, rfl, rfl⟩, by simp [sameW]⟩
def tf_Row_eq : TfS := (tSeq (tRet (tAnd (tCall (tCons (tVar 1) (tCons (tCon (.cls 10)) tNil)) (tIsi isiO isiS)) tTru (tBin (tUn (tVar 0) (tFld "words" [10])) (tUn (tVar 1) (tFld "words" [10])) (tEqT 7 S_Word_eq))))
    tSkip)
theorem f_Row_eq : ∀ (ds : List D) (M : Store) (post : DP) (xp : XP), ds.length = 2 → S_Row_eq ds M post xp → tf_Row_eq (G0 n_Row_eq ds) M { nx := fun _ M' => post .non M', rt := post, xx := fun _ => xp } := by
  rintro ds M post xp - ⟨a, ps, d, rfl, ⟨b, qs, rfl, hp⟩ | ⟨hd, h2, hp⟩⟩ <;> unfold tf_Row_eq n_Row_eq <;> walk_at "e0"
  · walk_at "e"
    refine r_eqT sameW flat_wd (fun e he => (flat_wd e he).1) (fun d hd e he p hp => ?_) ?_
    · obtain ⟨x, hx, rfl⟩ := List.mem_map.mp hd
      obtain ⟨y, hy, rfl⟩ := List.mem_map.mp he
      refine c_weq ?_
      have hp : p (.bl (decide (asW (wdD x.1 x.2) = asW (wdD y.1 y.2)))) M := hp
      rw [asW_wd, asW_wd] at hp
      exact hp
    · rw [eqTs_wds]
      walk_at "e"
      exact hp
  · walk_at "e"
    refine r_isiC (hd.isi M) (by decide) (by decide) ?_
    rw [hd.isc M 10, h2]
    walk_at "e"
    exact hp
theorem ok_Row_eq {f : Addr} {fd : FuncData} (F : Fun K "__eq__" "Row.__eq__" s_Row_eq f fd) (T : TX mg cs) (KF : KFX K cs)
    (D_Word_eq : MtD P w K mg base cs 1 7 (cmpInfo CmpOp.Eq).2.1 2 0 S_Word_eq) : FnG P w K mg base (L2.CX P w) 3 f fd ["self", "other"] (spN cs 2 0 S_Row_eq) :=
  Ev.fn_of F sc_Row_eq rfl (by decide) (fun cdv A outer s H E hr => (su_cons (st_ret (px_and (px_callB T.isinstance (pa_cons (px_var 1) (pa_cons (px_gcls 10 T.c_Row) pa_nil)) (po_isi KF.isi)) pob_std (px_one (px_cmp (px_attr (px_var 0) (pat_fld KF.f_words)) (px_attr (px_var 1) (pat_fld KF.f_words)) (po_eqT D_Word_eq hr takesB))))) su_nil)) (by decide +kernel) f_Row_eq
/-! ### Row.__str__ -/
abbrev s_Row_str : Stmt := inClass (top 26) 20
abbrev n_Row_str : List Str := ["self", "word"]
theorem sc_Row_str : FnScope n_Row_str ["self"] (defScope s_Row_str) := ⟨rfl, rfl, rfl, by decide +kernel, rfl, by decide +kernel, by decide +kernel⟩
def pageL (ts : List (List Nat)) : List Nat := if ts = [] then [45] else (ts.map fun t => t ++ [124]).flatten
def S_Row_str : SpX := fun ds M post _ => ∃ a ps, ds = [rwD a ps] ∧ ps.length ≤ 1000 ∧ (∀ p ∈ ps, p.2.length ≤ 8) ∧ post (.str (S (pageL (ps.map (·.2))))) M
theorem c_rstr {a : Addr} {ps : Wds} {M : Store} {post : DP} {xp : XP} (h : ps.length ≤ 1000) (hw : ∀ p ∈ ps, p.2.length ≤ 8) (hp : post (.str (S (pageL (ps.map (·.2))))) M) : S_Row_str [rwD a ps] M post xp := ⟨a, ps, rfl, h, hw, hp⟩
theorem sum_page : ∀ ps : Wds, (∀ p ∈ ps, p.2.length ≤ 8) → ((ps.map fun p => S (p.2 ++ [124])).map (·.length)).sum ≤ 9 * ps.length
  | [], _ => Nat.le_refl _
  | p :: ps, h => by
    have ih := sum_page ps fun q hq => h q (List.mem_cons_of_mem _ hq)
    have h1 := h p List.mem_cons_self
    rw [List.map_cons, List.map_cons, List.sum_cons, S_len, List.length_append, List.length_cons]
    simp only [List.length_cons, List.length_nil]
    omega
def tf_Row_str : TfS := (tSeq (tIf ((tBin (tCall (tCons (tUn (tVar 0) (tFld "words" [10])) tNil) tLen) (tCon (.int 0)) tEq).bl)
    (tSeq (tRet (tCon (.str (SX.S [45]))))
    tSkip)
    tSkip)
    (tSeq (tRet (tBm "str" (tCon (.str (SX.S []))) (tCons (tLc (gNm 1) [1] (tIt (tUn (tVar 0) (tFld "words" [10]))) tYesT (tFstr [(tFm (tUn (tVar 1) (tFld "text" [7]))), (tCon (.str (SX.S [124])))])) tNil) tJoin))
    tSkip))
theorem f_Row_str : ∀ (ds : List D) (M : Store) (post : DP) (xp : XP), ds.length = 1 → S_Row_str ds M post xp → tf_Row_str (G0 n_Row_str ds) M { nx := fun _ M' => post .non M', rt := post, xx := fun _ => xp } := by
  rintro ds M post xp - ⟨a, ps, rfl, hl, hw, hp⟩ <;> unfold tf_Row_str n_Row_str <;> walk_at "e0"
  walk_at "e"
  · rename_i h
    rw [wds_len] at h
    have : ps = [] := List.length_eq_zero_iff.mp (by omega)
    subst this
    exact hp
  · rename_i h
    rw [wds_len] at h
    refine r_lcM (fun p : Addr × List Nat => .str (S (p.2 ++ [124]))) (by omega) (fun q hq p hp => ?_) ?_
    · have h8 := hw q hq
      have h9 : (9 : Nat) ≤ 16777216 := by decide
      walk_at "e"
      · exact len_small (by omega)
      · simp only [List.length_nil]; omega
      · simp only [List.nil_append, List.length_cons, List.length_nil]; omega
      · exact hp
    · have hs := sum_page ps hw
      walk_at "e"
      · rw [S_len, List.length_map]
        simp only [List.length_nil, Nat.mul_zero, Nat.add_zero]
        omega
      · rw [join_cat ps fun p => p.2 ++ [124]]
        have e : pageL (ps.map (·.2)) = (ps.map fun p => p.2 ++ [124]).flatten := by
          unfold pageL
          rw [if_neg (by intro z; rw [List.map_eq_nil_iff.mp z] at h; exact h rfl), List.map_map]
          rfl
        rw [e] at hp
        exact hp
theorem ok_Row_str {f : Addr} {fd : FuncData} (F : Fun K "__str__" "Row.__str__" s_Row_str f fd) (T : TX mg cs) (KF : KFX K cs) : FnG P w K mg base (L2.CX P w) 1 f fd ["self"] (spN cs 1 0 S_Row_str) :=
  Ev.fn_of F sc_Row_str rfl (by decide) (fun cdv A outer s H E hr => (su_cons (st_if (pt_cmp (px_callB T.len (pa_cons (px_attr (px_var 0) (pat_fld KF.f_words)) pa_nil) po_len) px_int (po_eq hr.hu))
    (su_cons (st_ret px_str) su_nil)
    su_nil) (su_cons (st_ret (px_bm PySem.F.plainAttrs_str PySem.F.slot_str_join (by first | rfl | kernel_rfl) pom_join px_str (pa_cons (px_lc sc_Row_str.nd (plc (c2 := 0) (own := [("word", 1)]) (is := [1]) (blkOk_by (by rfl)) (by decide) (xi_std (px_attr (px_var 0) (pat_fld KF.f_words))) (fun s H C cl fp => (xg_name 1 sc_Row_str.nd)) (.inl ⟨rfl, rfl⟩) (fun s H C cl fp => (px_fstr (.cons (px_fm (px_attr (px_var 1) (pat_fld KF.f_text))) (.cons px_str .nil)))))) pa_nil))) su_nil))) (by decide +kernel) f_Row_str
end
end K14
-- k14f4
namespace K14
open PySem L2 Ev
local macro_rules | `(tactic| walk_at "e1") => `(tactic| with_reducible first
  | refine r_seq ?_ | refine r_bin ?_ | refine r_skip ?_ | refine r_asg ?_ | refine r_ret ?_ | refine r_ifs ?_ | refine r_con ?_
  | refine r_cons ?_ | refine r_nil ?_ | refine r_exb ?_ | refine r_exi ?_ | refine r_exs ?_ | refine r_tt ?_ | refine r_ff ?_ | refine r_nt ?_ | refine r_sw ?_
  | refine r_un ?_ | refine r_call ?_ | refine r_fn ?_ | refine r_test ?_ | refine r_notT ?_ | refine r_andT ?_ | refine r_orT ?_ | refine r_and ?_ | refine r_or ?_ | refine r_not ?_ | refine r_ifx ?_
  | refine r_tup ?_ | refine r_lst ?_ | refine r_tru_b ?_ | refine r_tru_i ?_ | refine r_tru_n ?_ | refine r_tru_l ?_ | refine r_tru_t ?_
  | refine r_add_ii ?_ | refine r_add_ib ?_ | refine r_sub ?_ | refine r_lt ?_ | refine r_le_ii ?_ | refine r_gt ?_ | refine r_ge ?_ | refine r_eq_i ?_ | refine r_eq_s ?_ | refine r_eq_b ?_ | refine r_eq_n ?_ | refine r_ne_i ?_ | refine r_ne_s ?_ | refine r_ne_b ?_ | refine r_in_s ?_ | refine r_nin_s ?_ | refine r_neg ?_ | refine r_lt_s ?_
  | refine r_sl ?_ | refine r_sl_l ?_ | refine r_sl_t ?_ | refine r_no ?_ | refine r_some ?_
  | refine r_len_l ?_ | refine r_len_t ?_ | refine r_len_d ?_ | refine r_int_i ?_ | refine r_int_b ?_ | refine r_abs ?_ | refine r_bool_i ?_ | refine r_bool_b ?_ | refine r_str_s ?_ | refine r_list_l ?_ | refine r_list_t ?_ | refine r_tuple_l ?_ | refine r_tuple_t ?_ | refine r_all ?_ | refine r_any ?_ | refine r_sum ?_ | refine r_max2 ?_ | refine r_min2 ?_
  | refine r_bm ?_ | refine r_tyS ?_ | refine r_tyL ?_ | refine r_tyD ?_ | refine r_count ?_ | refine r_meth ?_ | refine r_stat ?_ | refine r_cm ?_ | refine r_iscls ?_ | refine r_mk ?_ | refine r_mkE ?_ | refine r_mkM ?_ | refine r_hear ?_ | refine r_statK ?_ | refine r_methK ?_ | refine r_cmK ?_ | refine r_mkKw ?_
  | refine r_pass ?_ | refine r_break ?_ | refine r_cont ?_ | refine r_retN ?_ | refine r_drop ?_ | refine r_par ?_ | refine r_ex2 ?_ | refine r_raise1 ?_ | refine r_raise2 ?_ | refine r_try ?_ | refine r_unp ?_ | refine r_addI_i ?_ | refine r_isB ?_ | refine r_notB ?_ | refine r_rev ?_ | refine r_rev_l ?_ | refine r_fst ?_
  | refine r_gNm ?_ | refine r_gNil ?_ | refine r_gCons ?_ | refine r_for ?_ | refine r_it ?_ | refine r_it_l ?_ | refine r_it_t ?_ | refine r_it_s ?_ | refine r_rg1 ?_ | refine r_rg2 ?_ | refine r_lc ?_ | refine r_yes ?_ | refine r_chain0 ?_ | refine r_fstr ?_ | refine r_lc0 ?_ | refine r_lc1 ?_ | refine r_for0 ?_ | refine r_for1 ?_ | refine r_j0 ?_ | refine r_j1 ?_ | refine r_fm ?_)
local macro_rules | `(tactic| walk_at "e2") => `(tactic| first
  | ((with_reducible apply r_var); exact rfl)
  | ((with_reducible apply r_ar); exact rfl)
  | ((with_reducible apply r_ar1); exact rfl)
  | ((with_reducible apply r_le); focus (first | decide | (simp only [List.length_cons, List.length_nil]; decide)))
  | ((with_reducible apply r_is_t); exact rfl)
  | ((with_reducible apply r_is_f); exact rfl)
  | ((with_reducible apply r_isnt_t); exact rfl)
  | ((with_reducible apply r_isnt_f); exact rfl)
  | ((with_reducible apply r_isi_t); exact rfl; exact rfl)
  | ((with_reducible apply r_isi_f); exact rfl; exact rfl)
  | ((with_reducible apply r_fld); exact rfl; exact rfl; focus decide)
  | ((with_reducible apply r_recv); exact rfl; exact rfl)
  | ((with_reducible apply r_prop); exact rfl)
  | ((with_reducible apply r_ownS); exact rfl; exact rfl)
  | ((with_reducible apply r_own); exact rfl; exact rfl; focus decide)
  | ((with_reducible apply Or.inl); (with_reducible apply r_ownS); exact rfl; exact rfl)
  | ((with_reducible apply Or.inr); (with_reducible apply r_own); exact rfl; exact rfl; focus decide)
  | ((with_reducible apply r_ownC_o); exact rfl; exact rfl; focus decide)
  | ((with_reducible apply r_ownC_t); exact rfl; exact rfl; (focus decide); (focus decide))
  | ((with_reducible apply r_aug); exact rfl)
  | ((with_reducible apply r_ownRS); exact rfl)
  | ((with_reducible apply r_cval); focus (exact List.mem_cons_self))
  | ((with_reducible apply r_ownD_o); exact rfl; exact rfl; focus decide)
  | ((with_reducible apply r_ownD_t); exact rfl; exact rfl; (focus decide))
  | ((with_reducible apply r_ownNeD_o); exact rfl; exact rfl; focus decide)
  | ((with_reducible apply r_ownNeD_t); exact rfl; exact rfl; (focus decide))
  | ((with_reducible apply r_own1); exact rfl)
  | ((with_reducible apply r_ownB); exact rfl)
  | ((with_reducible apply r_ownN); exact rfl)
  | ((with_reducible apply r_ownA); exact rfl)
  | ((with_reducible apply r_ownStr); exact rfl)
  | ((with_reducible apply r_ownIn); exact rfl)
  | ((with_reducible apply r_ownR); exact rfl)
  | ((with_reducible apply r_mkV); exact rfl)
  | ((with_reducible apply r_fd); exact rfl)
  | ((with_reducible apply r_xf); exact rfl; focus decide)
  | ((with_reducible apply r_isx (b := true)); (focus decide); (focus decide); exact rfl)
  | ((with_reducible apply r_isx (b := false)); (focus decide); (focus decide); exact rfl)
  | ((with_reducible apply r_ar); exact rfl)
  | ((with_reducible apply r_gTup); exact rfl)
  | ((with_reducible apply r_gLs); exact rfl)
  | ((with_reducible apply r_ix_l); exact rfl)
  | ((with_reducible apply r_ix_t); exact rfl)
  | ((with_reducible apply r_fstI); (focus decide); (focus exact Nat.le_of_ble_eq_true rfl))
  | ((with_reducible apply r_dt); (first | assumption | exact rfl | focus decide))
  | ((with_reducible apply r_df); (first | assumption | focus decide))
  | ((with_reducible apply r_partE); assumption; (focus (try walk_at "es")); (focus (try walk_at "es")))
  | ((with_reducible apply r_ct); assumption)
  | ((with_reducible apply r_cf); assumption)
  | ((with_reducible apply r_yes)))
local macro_rules | `(tactic| walk_at "e") => `(tactic| repeat' (first | walk_at "e1" | walk_at "ec" | walk_at "e2" | walk_at "e3"))
local macro_rules | `(tactic| walk_at "e0") => `(tactic| simp only [G0, List.map_cons, List.map_nil, List.length_cons, List.length_nil, List.replicate, List.cons_append, List.nil_append, Nat.reduceAdd, Nat.reduceSub, Nat.sub_zero, Nat.zero_add])
local macro_rules | `(tactic| walk_at "e3") => `(tactic| first
  | ((with_reducible apply r_fdiv); focus (try walk_at "es"))
  | ((with_reducible apply r_mod); focus (try walk_at "es"))
  | ((with_reducible apply r_mul_ii); focus (try walk_at "es"))
  | ((with_reducible apply r_mul_si); focus (try walk_at "es"))
  | ((with_reducible apply r_mul_li); focus (try walk_at "es"))
  | ((with_reducible apply r_pow); focus (try walk_at "es"))
  | ((with_reducible apply r_add_ss); focus (try walk_at "es"))
  | ((with_reducible apply r_add_ll); focus (try walk_at "es"))
  | ((with_reducible apply r_add_tt); focus (try walk_at "es"))
  | ((with_reducible apply r_tru_s); focus (try walk_at "es"))
  | ((with_reducible apply r_sl_s); focus (try walk_at "es"))
  | ((with_reducible apply r_len_s); focus (try walk_at "es"))
  | ((with_reducible apply r_part); (focus (try walk_at "es")); (focus (try walk_at "es")))
  | ((with_reducible apply r_split); (focus (try walk_at "es")); (focus (try walk_at "es")))
  | ((with_reducible apply r_join); focus (try walk_at "es"))
  | ((with_reducible apply r_exh); focus (try walk_at "es"))
  | ((with_reducible apply r_str_i); focus (try walk_at "es"))
  | ((with_reducible apply r_le); focus (try walk_at "es"))
  | ((with_reducible apply r_fm_i); focus (try walk_at "es"))
  | ((with_reducible apply r_fm_s); focus (try walk_at "es"))
  | ((with_reducible apply r_jS); focus (try walk_at "es"))
  | ((with_reducible apply r_addI_s); focus (try walk_at "es"))
  | ((with_reducible apply r_rev_s); focus (try walk_at "es"))
  | ((with_reducible apply r_listS); focus (try walk_at "es"))
  | (with_reducible apply r_is; exact rfl)
  | (with_reducible apply r_isnt; exact rfl)
  | (with_reducible refine' r_dc (fun _ => ?_) (fun _ => ?_))
  | (with_reducible refine' r_cc (fun _ => ?_) (fun _ => ?_))
  | (with_reducible intro _))
local macro_rules | `(tactic| walk_at "en") => `(tactic| simp only [List.nil_append, List.cons_append, List.append_assoc])
open SX PyProof.Rows PySem.Spec
local macro_rules | `(tactic| walk_at "still") => `(tactic| first
  | (exact Still.wd)
  | (exact Still.str (by assumption) (by assumption))
  | (exact Still.str (by first | decide | omega) (by first | decide | assumption))
  | (exact Still.mk0 (fun M => ⟨_, rfl, by intro c hc; cases hc⟩) (fun n => by simp [D.lt, D.ltL, D.ltF, D.ltK, ltL_signs]) nofun))
local macro_rules | `(tactic| walk_at "es") => `(tactic| first | assumption | decide | omega | (exact len_small ‹_›) | (simp only [List.length_cons, List.length_nil, List.length_append]; decide))
local macro_rules | `(tactic| walk_at "rd") => `(tactic| first
  | assumption | exact Rd.non | exact Rd.bl | exact RdL.nil | exact RdK.nil
  | ((with_reducible apply Rd.tup); walk_at "rd") | ((with_reducible apply Rd.lst); walk_at "rd") | ((with_reducible apply Rd.dic); walk_at "rd")
  | ((with_reducible apply RdL.cons); (focus walk_at "rd"); (focus walk_at "rd"))
  | ((with_reducible apply RdK.str); (focus (exact Nat.le_refl _)); (focus decide); (focus walk_at "rd"); (focus walk_at "rd"))
  | ((with_reducible apply Rd.str); (focus assumption); (focus assumption))
  | ((with_reducible apply Rd.str); (focus (exact Nat.le_refl _)); (focus decide))
  | ((with_reducible apply Rd.int); (focus (first | assumption | decide)))
  | ((with_reducible apply Rd.int); (focus (simp only [Int.natAbs_natCast]; exact lt_of_lt_log ‹_›)))
  | ((simp only [List.nil_append, List.cons_append, Int.reduceToNat, List.reduceReplicate, List.flatten_cons, List.flatten_nil, Int.toNat_natCast, List.length_cons, List.length_nil, Nat.reduceAdd]); walk_at "rd"))
local macro_rules | `(tactic| walk_at "ec") => `(tactic| fail "none")
local macro_rules | `(tactic| walk_at "ec") => `(tactic| first
  | (with_reducible apply r_en) | (with_reducible apply r_en_l) | (with_reducible apply r_en_t) | (with_reducible apply r_mkS) | (with_reducible apply r_spr) | (with_reducible apply r_spr_l) | (with_reducible apply r_spr_t) | (with_reducible apply r_starA) | (with_reducible apply r_lrg2)
  | ((with_reducible apply r_ownIx); (focus exact rfl)))
local macro_rules | `(tactic| walk_at "ec") => `(tactic| first
  | (with_reducible refine ⟨tyM_liC, ?_⟩)
  | ((with_reducible apply r_appendC); (focus (simp only [List.length_cons, List.length_nil, List.length_append]; decide)))
  | ((with_reducible apply r_frzC); (focus rfl); walk_at "en")
  | (with_reducible refine ⟨tyM_li, ?_⟩)
  | (with_reducible apply r_lstM)
  | ((with_reducible apply r_append); (focus (simp only [List.length_cons, List.length_nil, List.length_append]; decide)))
  | ((with_reducible apply r_frzL); (focus rfl); walk_at "en"))
local macro_rules | `(tactic| walk_at "ec") => `(tactic| first
  | ((with_reducible apply r_mkSV); (focus exact rfl))
  | (with_reducible apply r_fmO)
  | ((with_reducible apply r_splitP); (focus assumption))
  | ((with_reducible apply r_slLast); (focus assumption)))
section
variable {P : Program} {w : World} {K : PySem.W.Frag} {mg : Str → Option Value} {base : Heap} {cs : CS}
/-! ### _law_pen -/
abbrev s_law_pen : Stmt := top 28
abbrev n_law_pen : List Str := ["_law_script"]
theorem sc_law_pen : FnScope n_law_pen ["_law_script"] (defScope s_law_pen) := ⟨rfl, rfl, rfl, by decide +kernel, rfl, by decide +kernel, by decide +kernel⟩
/-! ### _law_draw -/
abbrev s_law_draw : Stmt := top 29
abbrev n_law_draw : List Str := ["_law_pen_here", "_law_many", "_law_digit", "_law_at", "_law_cell", "_law_great", "_law_mixed"]
theorem sc_law_draw : FnScope n_law_draw ["_law_pen_here", "_law_many"] (defScope s_law_draw) := ⟨rfl, rfl, rfl, by decide +kernel, rfl, by decide +kernel, by decide +kernel⟩
abbrev S_law_draw : SpX := spDraw
def tf_law_draw : TfS := (tSeq (tIf ((tBin (tPen2 0) (tCon (.int 0)) tGt).bl)
    (tSeq (tAsg 2 (tBin (tCall (tCons (tPen2 0) tNil) tInt) (tVar 1) tMod))
    (tSeq (tPenS 0 (tBin (tCall (tCons (tPen2 0) tNil) tInt) (tVar 1) tFdiv))
    (tSeq (tRet (tVar 2))
    tSkip)))
    tSkip)
    (tPen1 0 3 (tSeq (tAsg 4 (tBin (tBin (tCon (.int 58538)) (tVar 3) tMul) (tCon (.int 742)) tAdd))
    (tSeq (tPenIf 0 3 4)
    (tSeq (tIf (tAndT ((tBin (tVar 3) (tCall (tCons (tPen0 0) tNil) tLen) tLt).bl) ((tBin (tCall (tCons (tVar 4) tNil) tAbs) (tBin (tCon (.int 10)) (tCon (.int 18)) tPow) tGe).bl))
    (tSeq (tAsg 5 (tBin (tBin (tCon (.int 2)) (tBin (tCall (tCons (tVar 4) tNil) tAbs) (tBin (tCon (.int 10)) (tCon (.int 18)) tPow) tSub) tMul) (tCall (tCons (tBin (tVar 4) (tCon (.int 0)) tLt) tNil) tInt) tAdd))
    (tSeq (tPenS 0 (tBin (tCall (tCons (tVar 5) tNil) tInt) (tVar 1) tFdiv))
    (tSeq (tRet (tBin (tCall (tCons (tVar 5) tNil) tInt) (tVar 1) tMod))
    tSkip)))
    tSkip)
    (tSeq (tAsg 6 (tBin (tCall (tCons (tBin (tBin (tBin (tBin (tCall (tCons (tVar 4) tNil) tInt) (tCon (.int 2147483587)) tMod) (tBin (tCon (.int 47282)) (tVar 3) tMul) tAdd) (tCon (.int 398)) tAdd) (tCon (.int 5)) tPow) tNil) tInt) (tCon (.int 2147483579)) tMod))
    (tSeq (tAsg 6 (tBin (tCall (tCons (tBin (tBin (tBin (tBin (tVar 6) (tBin (tBin (tCon (.int 2)) (tVar 3) tMul) (tCon (.int 129)) tAdd) tMul) (tBin (tBin (tCon (.int 53154)) (tVar 3) tMul) (tVar 3) tMul) tAdd) (tCon (.int 74)) tAdd) (tCon (.int 3)) tPow) tNil) tInt) (tCon (.int 2147483549)) tMod))
    (tSeq (tRet (tBin (tCall (tCons (tBin (tVar 6) (tCon (.int 32)) tFdiv) tNil) tInt) (tVar 1) tMod))
    tSkip))))))))
theorem f_law_draw : ∀ (ds : List D) (M : Store) (post : DP) (xp : XP), ds.length = 2 → S_law_draw ds M post xp → tf_law_draw (G0 n_law_draw ds) M { nx := fun _ M' => post .non M', rt := post, xx := fun _ => xp } := draw_ok (N := n_law_draw) rfl ⟨by decide, by decide⟩ ⟨by decide, by decide⟩ ⟨by decide, by decide⟩ ⟨by decide, by decide⟩ ⟨by decide, by decide⟩ ⟨by decide, by decide⟩ ⟨by decide, by decide⟩ ⟨by decide, by decide⟩ ⟨by decide, by decide⟩ ⟨by decide, by decide⟩
theorem ok_law_draw {f : Addr} {fd : FuncData} (F : Fun K "_law_draw" "_law_draw" s_law_draw f fd) (T : TX mg cs) : FnG P w K mg base (L2.CX P w) 1 f fd ["_law_pen_here", "_law_many"] (spN cs 2 1 S_law_draw) :=
  Ev.fn_of F sc_law_draw rfl (by decide) (fun cdv A outer s H E hr => (su_cons (st_if (pt_cmp (px_pen2 0) px_int po_gt)
    (su_cons (st_asg 2 sc_law_draw.nd (px_bin (px_callTy T.int (pa_cons (px_pen2 0) pa_nil) po_int) (px_var 1) po_mod)) (su_cons (st_pen2 0 (px_bin (px_callTy T.int (pa_cons (px_pen2 0) pa_nil) po_int) (px_var 1) po_fdiv)) (su_cons (st_ret (px_var 2)) su_nil)))
    su_nil) (su_pen1 0 3 (by decide) sc_law_draw.nd (su_cons (st_asg 4 sc_law_draw.nd (px_bin (px_bin px_int (px_var 3) po_mul) px_int po_add)) (su_cons (st_penIf 0 3 4 hr T.int T.len sc_law_draw.nd) (su_cons (st_if (pw_and (pt_cmp (px_var 3) (px_callB T.len (pa_cons (px_pen0 0) pa_nil) po_len) po_lt) (pw_one (pt_cmp (px_callB T.abs (pa_cons (px_var 4) pa_nil) po_abs) (px_bin px_int px_int po_pow) po_ge))).pt
    (su_cons (st_asg 5 sc_law_draw.nd (px_bin (px_bin px_int (px_bin (px_callB T.abs (pa_cons (px_var 4) pa_nil) po_abs) (px_bin px_int px_int po_pow) po_sub) po_mul) (px_callTy T.int (pa_cons (px_cmp (px_var 4) px_int po_lt) pa_nil) po_int) po_add)) (su_cons (st_pen2 0 (px_bin (px_callTy T.int (pa_cons (px_var 5) pa_nil) po_int) (px_var 1) po_fdiv)) (su_cons (st_ret (px_bin (px_callTy T.int (pa_cons (px_var 5) pa_nil) po_int) (px_var 1) po_mod)) su_nil)))
    su_nil) (su_cons (st_asg 6 sc_law_draw.nd (px_bin (px_callTy T.int (pa_cons (px_bin (px_bin (px_bin (px_bin (px_callTy T.int (pa_cons (px_var 4) pa_nil) po_int) px_int po_mod) (px_bin px_int (px_var 3) po_mul) po_add) px_int po_add) px_int po_pow) pa_nil) po_int) px_int po_mod)) (su_cons (st_asg 6 sc_law_draw.nd (px_bin (px_callTy T.int (pa_cons (px_bin (px_bin (px_bin (px_bin (px_var 6) (px_bin (px_bin px_int (px_var 3) po_mul) px_int po_add) po_mul) (px_bin (px_bin px_int (px_var 3) po_mul) (px_var 3) po_mul) po_add) px_int po_add) px_int po_pow) pa_nil) po_int) px_int po_mod)) (su_cons (st_ret (px_bin (px_callTy T.int (pa_cons (px_bin (px_var 6) px_int po_fdiv) pa_nil) po_int) (px_var 1) po_mod)) su_nil))))))))) (by decide +kernel) f_law_draw
/-! ### _law_pick -/
abbrev s_law_pick : Stmt := top 30
abbrev n_law_pick : List Str := ["_law_pen_here", "_law_some"]
theorem sc_law_pick : FnScope n_law_pick ["_law_pen_here", "_law_some"] (defScope s_law_pick) := ⟨rfl, rfl, rfl, by decide +kernel, rfl, by decide +kernel, by decide +kernel⟩
def S_law_pick : SpX := fun ds M post _ => ∃ d, ds = [.pen, d] ∧ ((∃ es, d = .lst es ∧ 0 < es.length ∧ es.length ≤ 100000 ∧ ∀ x ∈ es, post x M) ∨ (∃ l : List Nat, d = .str (S l) ∧ 0 < l.length ∧ l.length ≤ 100000 ∧ ∀ c ∈ l, post (.str (S [c])) M) ∨ ∃ n es, d = .loc n ∧ M[n]? = some (.li es) ∧ 0 < es.length ∧ es.length ≤ 100000 ∧ ∀ x ∈ es, post x M)
theorem c_pick {es : List D} {M : Store} {post : DP} {xp : XP} (h0 : 0 < es.length) (h1 : es.length ≤ 100000) (hp : ∀ x ∈ es, post x M) : S_law_pick [.pen, .lst es] M post xp := ⟨_, rfl, .inl ⟨es, rfl, h0, h1, hp⟩⟩
theorem c_pick_s {l : List Nat} {M : Store} {post : DP} {xp : XP} (h0 : 0 < l.length) (h1 : l.length ≤ 100000) (hp : ∀ c ∈ l, post (.str (S [c])) M) : S_law_pick [.pen, .str (S l)] M post xp := ⟨_, rfl, .inr (.inl ⟨l, rfl, h0, h1, hp⟩)⟩
theorem c_pick_l {es : List D} {M ex : Store} {post : DP} {xp : XP} (h0 : 0 < es.length) (h1 : es.length ≤ 100000) (hp : ∀ x ∈ es, post x (M ++ Cell.li es :: ex)) : S_law_pick [.pen, .loc M.length] (M ++ Cell.li es :: ex) post xp := ⟨_, rfl, .inr (.inr ⟨_, es, rfl, by simp, h0, h1, hp⟩)⟩
theorem at_mem {α : Type} {es : List α} {i : Int} (h0 : 0 ≤ i) (h1 : i < es.length) : ∃ d ∈ es, atI es i = some d := by
  have hl : i.toNat < es.length := by omega
  refine ⟨es[i.toNat], List.getElem_mem hl, ?_⟩
  unfold atI ixN
  rw [if_pos h0, if_pos h1]
  simp [hl]
theorem len200 {n : Nat} (h : n ≤ 100000) : ((n : Int)).natAbs < 2 ^ 200 := by
  have : (100001 : Nat) ≤ 2 ^ 200 := by decide
  omega
def tf_law_pick : TfS := (tSeq (tRet (tBin (tVar 1) (tFn 2 S_law_draw (tCons (tVar 0) (tCons (tCall (tCons (tVar 1) tNil) tLen) tNil))) tIx))
    tSkip)
theorem f_law_pick : ∀ (ds : List D) (M : Store) (post : DP) (xp : XP), ds.length = 2 → S_law_pick ds M post xp → tf_law_pick (G0 n_law_pick ds) M { nx := fun _ M' => post .non M', rt := post, xx := fun _ => xp } := by
  rintro ds M post xp - ⟨d, rfl, ⟨es, rfl, h0, h1, hp⟩ | ⟨l, rfl, h0, h1, hp⟩ | ⟨n, es, rfl, hM, h0, h1, hp⟩⟩ <;> unfold tf_law_pick n_law_pick <;> walk_at "e0"
  · walk_at "e"
    refine r_draw (by omega) (len200 h1) fun i i0 i1 => ?_
    obtain ⟨d, hd, hat⟩ := at_mem i0 i1
    walk_at "e"
    exact r_ix_l hat (hp d hd)
  · have hls := len_small h1
    walk_at "e"
    rw [S_len]
    refine r_draw (by omega) (len200 h1) fun i i0 i1 => ?_
    obtain ⟨c, hd, hat⟩ := at_mem i0 i1
    walk_at "e"
    exact r_ix_s hls (by rw [tl_S]; exact hat) (hp c hd)
  · walk_at "e"
    refine ⟨_, rfl, .inl ⟨es, by unfold seqOf; dsimp only; rw [hM], ?_⟩⟩
    walk_at "e"
    refine r_draw (by omega) (len200 h1) fun i i0 i1 => ?_
    obtain ⟨d, hd, hat⟩ := at_mem i0 i1
    walk_at "e"
    show (match M[n]? with | some (.li ds) => ∃ j d, D.int i = .int j ∧ atI ds j = some d ∧ post d M | some (.di kvs) => _ | _ => False)
    rw [hM]
    exact ⟨i, d, rfl, hat, hp d hd⟩
theorem ok_law_pick {f : Addr} {fd : FuncData} (F : Fun K "_law_pick" "_law_pick" s_law_pick f fd) (T : TX mg cs)
    (D_law_draw : FnD P w K mg base cs 1 "_law_draw" 2 1 S_law_draw) : FnG P w K mg base (L2.CX P w) 2 f fd ["_law_pen_here", "_law_some"] (spN cs 2 1 S_law_pick) :=
  Ev.fn_of F sc_law_pick rfl (by decide) (fun cdv A outer s H E hr => (su_cons (st_ret (px_ix (px_var 1) (px_call D_law_draw hr takesB (pa_cons (px_var 0) (pa_cons (px_callB T.len (pa_cons (px_var 1) pa_nil) po_len) pa_nil))) (pix_std hr.hu1))) su_nil)) (by decide +kernel) f_law_pick
/-! ### _law_heard -/
abbrev s_law_heard : Stmt := top 31
abbrev n_law_heard : List Str := ["_law_ask", "_law_caught", "_law_found", "error", "_law_some"]
theorem sc_law_heard : FnScope n_law_heard ["_law_ask"] (defScope s_law_heard) := ⟨rfl, rfl, rfl, by decide +kernel, rfl, by decide +kernel, by decide +kernel⟩
def S_law_heard : TfL → TfL := fun LT M post xp => ∀ (p : DP) (x : XP), (∀ d M', post (.lst [d]) M' → p d M') → (∀ v w M', (∀ ex, post (textX v w) (M' ++ ex)) → x 2 [("word", w), ("line", v)] M') → LT M p x
def tf_law_heard (LT : TfL) (fD : D) : TfS := (tSeq (tUnp (tTup (tCons (tCon .non) (tCons (tCon .non) tNil))) (gTup 2 (gCons (gNm 1) (gCons (gNm 2) gNil))))
    (tSeq (tTryAs [0, 2, 4, 5, 6, 8, 9] [] 3 (tSeq (tAsg 2 (fun Γ M post xp => Γ[0]? = some (some fD) ∧ LT M post xp))
    tSkip) (tSeq (tAsg 1 (tVar 3))
    tSkip))
    (tSeq (tIf ((tBin (tVar 1) (tCon .non) (tIsN false)).bl)
    (tSeq (tRet (tLst (tCons (tVar 2) tNil)))
    tSkip)
    tSkip)
    (tSeq (tAsg 4 (tLstM tNil))
    (tSeq (tIf (tTest (tCall (tCons (tVar 1) (tCons (tCon (.cls 2)) tNil)) (tIsx isxO isxK isxB)) tTru)
    (tSeq (tDrop (tBm "list" (tVar 4) (tCons (tTup (tCons (tCon (.str (SX.S [116, 101, 120, 116]))) (tCons (tUn (tVar 1) (tXf "line" [2])) (tCons (tUn (tVar 1) (tXf "word" [2])) tNil)))) tNil) tAppend))
    tSkip)
    tSkip)
    (tFrzS 4 (tSeq (tRet (tIfx (tBin (tCall (tCons (tVar 4) tNil) tLen) (tCon (.int 1)) tEq).bl (tBin (tVar 4) (tCon (.int 0)) tIx) (tTup (tCons (tCon (.str (SX.S [111, 100, 100]))) tNil))))
    tSkip)))))))
theorem f_law_heard : ∀ (LT : TfL) (fD : D) (M : Store) (post : DP) (xp : XP), S_law_heard LT M post xp → tf_law_heard LT fD (G0 n_law_heard [fD]) M { nx := fun _ M' => post .non M', rt := post, xx := fun _ => xp } := by
  intro LT fD M post xp h
  unfold tf_law_heard n_law_heard
  walk_at "e0"
  walk_at "e"
  refine h _ _ (fun d M' hp => ?_) (fun v w M' hp => ?_)
  · walk_at "e"
    exact hp
  · refine .inl ⟨by decide, fun a => ?_⟩
    walk_at "e"
    exact hp _
theorem heard_v {d : D} {Γ : Gm} {te : TfE} {M : Store} {post : DP} {xp : XP} (hp : post (.lst [d]) M) (hte : ∀ (p : DP) (x : XP), p d M → te Γ M p x) : S_law_heard (te Γ) M post xp := fun p x h1 _ => hte p x (h1 _ _ hp)
theorem heard_x {d1 d2 : D} {Γ : Gm} {te : TfE} {M : Store} {post : DP} {xp : XP} (hp : ∀ ex, post (textX d1 d2) (M ++ ex)) (hte : ∀ (p : DP) (x : XP), x 2 [("word", d2), ("line", d1)] M → te Γ M p x) : S_law_heard (te Γ) M post xp := fun p x _ h2 => hte p x (h2 _ _ _ hp)
theorem ok_law_heard {f : Addr} {fd : FuncData} (F : Fun K "_law_heard" "_law_heard" s_law_heard f fd) (T : TX mg cs) (KF : KFX K cs) (hm : mg "_law_heard" = some (.ref f)) (hb : Binds K fd ["_law_ask"] []) {CE : Addr} (hE : mg "StopError" = some (.ref CE)) (xE : ExmF K cs (.ref CE) [0, 2, 4, 5, 6, 8, 9] []) : HrD P w K mg base cs 0 "_law_heard" 0 0 S_law_heard :=
  ⟨f, fd, s_law_heard, n_law_heard, "_law_ask", F, sc_law_heard, rfl, .inl rfl, by decide, by decide, hm, F.kp, hb, fun cdv A outer s H E LT fD hr hact => ⟨_, _, (by decide), (su_cons (st_unp (px_tup (pa_cons px_non (pa_cons px_non pa_nil))) (xg_tup (n := 2) (xgs_cons (xg_name 1 sc_law_heard.nd) (xgs_cons (xg_name 2 sc_law_heard.nd) xgs_nil)))) (su_cons (st_try_as (ys := [0, 2, 4, 5, 6, 8, 9]) (zs := []) 3 sc_law_heard.nd ⟨rfl, by decide, .inl hE⟩ xE takesB (fun W pn xe tk ps => (su_cons (st_asg 2 sc_law_heard.nd (hact _ _ _ tk _ _)) su_nil)) (fun a pn => (su_cons (st_asg 1 sc_law_heard.nd (px_var 3)) su_nil))) (su_cons (st_if (pt_cmp (px_var 1) px_non po_isN)
    (su_cons (st_ret (px_lst (pa_cons (px_var 2) pa_nil))) su_nil)
    su_nil) (su_cons (st_asg 4 sc_law_heard.nd (px_lstM pa_nil)) (su_cons (st_if (pt_val (px_callB T.isinstance (pa_cons (px_var 1) (pa_cons (px_gcls 2 T.c_BadText) pa_nil)) (po_isx KF.isx)) pob_std)
    (su_cons (st_expr (px_bm PySem.F.plainAttrs_list PySem.F.slot_list_append (by first | rfl | kernel_rfl) pom_append (px_var 4) (pa_cons (px_tup (pa_cons px_str (pa_cons (px_attr (px_var 1) (pat_xfk KF.x_line)) (pa_cons (px_attr (px_var 1) (pat_xfk KF.x_word)) pa_nil)))) pa_nil))) su_nil)
    su_nil) (su_frz 4 (su_cons (st_ret (px_ifx (pt_cmp (px_callB T.len (pa_cons (px_var 4) pa_nil) po_len) px_int (po_eq hr.hu)) (px_ix (px_var 4) px_int (pix_std hr.hu1)) (px_tup (pa_cons px_str pa_nil)))) su_nil))))))), fun M post xp h => f_law_heard LT fD M post xp h⟩⟩
/-! ### _law_sorted -/
abbrev s_law_sorted : Stmt := top 32
abbrev n_law_sorted : List Str := ["_law_signs", "_law_sign"]
theorem sc_law_sorted : FnScope n_law_sorted ["_law_signs"] (defScope s_law_sorted) := ⟨rfl, rfl, rfl, by decide +kernel, rfl, by decide +kernel, by decide +kernel⟩
def S_law_sorted : SpX := fun ds M post _ => ∃ l : List Nat, ds = [.str (S l)] ∧ l.length < 64 ∧ (∀ c ∈ l, c ∈ abc) ∧ post (.str (S (canon l))) M
theorem c_sorted {l : List Nat} {M : Store} {post : DP} {xp : XP} (h : l.length < 64) (hc : ∀ c ∈ l, c ∈ abc) (hp : post (.str (S (canon l))) M) : S_law_sorted [.str (S l)] M post xp := ⟨l, rfl, h, hc, hp⟩
def tf_law_sorted : TfS := (tSeq (tRet (tBm "str" (tCon (.str (SX.S []))) (tCons (tCall (tCons (tLc (gNm 1) [1] (tIt (tVar 0)) tYesT (tCall (tCons (tVar 1) tNil) tStr)) tNil) tSortS) tNil) tJoin))
    tSkip)
theorem f_law_sorted : ∀ (ds : List D) (M : Store) (post : DP) (xp : XP), ds.length = 1 → S_law_sorted ds M post xp → tf_law_sorted (G0 n_law_sorted ds) M { nx := fun _ M' => post .non M', rt := post, xx := fun _ => xp } := by
  rintro ds M post xp - ⟨l, rfl, hl, hc, hp⟩ <;> unfold tf_law_sorted n_law_sorted <;> walk_at "e0"
  walk_at "e"
  rw [signs_S]
  refine r_lcM (fun c => .str (S [c])) (by omega) (fun c _ p hp => ?_) ?_
  · walk_at "e"
    exact hp
  · walk_at "e"
    rw [sing_strs]
    refine r_sortS (by rw [List.length_map]; exact hl) fun ys hy hs => ?_
    have e : ys = (canon l).map fun c => S [c] := sorted_eq (hy.trans ((canon_perm hc).map _).symm) hs (sortedS_canon l)
    subst e
    walk_at "e"
    all_goals rw [List.map_id' (List.map (fun c => S [c]) (canon l))]
    · have h2 := canon_len hc
      rw [sum_sing, S_len, h2, List.length_map]
      simp only [List.length_nil]
      omega
    · rw [join_cat (canon l) fun c => [c], map_sing]
      exact hp
theorem ok_law_sorted {f : Addr} {fd : FuncData} (F : Fun K "_law_sorted" "_law_sorted" s_law_sorted f fd) (T : TX mg cs) : FnG P w K mg base (L2.CX P w) 1 f fd ["_law_signs"] (spN cs 1 0 S_law_sorted) :=
  Ev.fn_of F sc_law_sorted rfl (by decide) (fun cdv A outer s H E hr => (su_cons (st_ret (px_bm PySem.F.plainAttrs_str PySem.F.slot_str_join (by first | rfl | kernel_rfl) pom_join px_str (pa_cons (px_callB T.sorted (pa_cons (px_lc sc_law_sorted.nd (plc (c2 := 0) (own := [("_law_sign", 1)]) (is := [1]) (blkOk_by (by rfl)) (by decide) (xi_std (px_var 0)) (fun s H C cl fp => (xg_name 1 sc_law_sorted.nd)) (.inl ⟨rfl, rfl⟩) (fun s H C cl fp => (px_callTy T.str (pa_cons (px_var 1) pa_nil) po_str)))) pa_nil) po_sortS) pa_nil))) su_nil)) (by decide +kernel) f_law_sorted
/-! ### _law_is_text -/
abbrev s_law_is_text : Stmt := top 33
abbrev n_law_is_text : List Str := ["_law_value", "_law_sign"]
theorem sc_law_is_text : FnScope n_law_is_text ["_law_value"] (defScope s_law_is_text) := ⟨rfl, rfl, rfl, by decide +kernel, rfl, by decide +kernel, by decide +kernel⟩
def S_law_is_text : SpX := fun ds M post _ => ∃ d, ds = [d] ∧ Still d ∧ post (.bl (isTxtD d)) M
theorem c_is_textL {d : D} {M : Store} {post : DP} {xp : XP} (h : Still d) (q : post (.bl (isTxtD d)) M) : S_law_is_text [d] M post xp := ⟨d, rfl, h, q⟩
def tf_law_is_text : TfS := (tSeq (tIf (tOrT (tNotT (tTest (tCall (tCons (tVar 0) (tCons (tCon (.ty .str)) tNil)) (tIsi isiO isiS)) tTru)) (tNotT ((tChain (tCon (.int 1)) (tCall (tCons (tVar 0) tNil) tLen) (tCon (.int 8)) tLe tLe).bl)))
    (tSeq (tRet (tCon (.bl false)))
    tSkip)
    tSkip)
    (tSeq (tRet (tBin (tLc (gNm 1) [1] (tIt (tVar 0)) (tBin (tVar 1) (tCon (.str (SX.S [97, 98, 99]))) (tIn true)).bl (tVar 1)) (tLst tNil) tEq))
    tSkip))
theorem f_law_is_text : ∀ (ds : List D) (M : Store) (post : DP) (xp : XP), ds.length = 1 → S_law_is_text ds M post xp → tf_law_is_text (G0 n_law_is_text ds) M { nx := fun _ M' => post .non M', rt := post, xx := fun _ => xp } := by
  rintro ds M post xp - ⟨d, rfl, hd, hp⟩ <;> unfold tf_law_is_text n_law_is_text <;> walk_at "e0"
  walk_at "e"
  refine r_isiT (hd.isi M) (by decide) ?_
  cases hs : isT M d .str with
  | true =>
    obtain ⟨z, rfl⟩ := isT_str hs
    obtain ⟨l, rfl⟩ : ∃ l, z = S l := ⟨_, S_of z⟩
    have hl := hd.sz _ rfl
    have ha := hd.asc _ rfl
    rw [isTxtD_S] at hp
    have hls := len_small hl
    walk_at "e"
    · rename_i h1 h2
      rw [S_len] at h1 h2
      rw [signs_S]
      refine r_lcF (fun c => .str (S [c])) (fun c => !decide (c ∈ abc)) hl (fun c hc p p2 h1 h2 => ?_) ?_
      · walk_at "e"
        · rename_i hi
          rw [in_S] at hi
          exact h2 (by rw [hi]; rfl)
        · rename_i hi
          rw [in_S] at hi
          exact h1 (by rw [hi]; rfl)
      · walk_at "e"
        rw [sing_strs]
        refine r_eq_nil (fun w hw => ?_) ?_
        · obtain ⟨c, hc, rfl⟩ := List.mem_map.mp hw
          exact ok_asc (ha c (List.mem_filter.mp hc).1)
        · refine pbl ?_ hp
          unfold isTxt
          rw [decide_eq_true (show 1 ≤ l.length by omega), decide_eq_true (show l.length ≤ 8 by omega)]
          simp only [Bool.true_and, List.isEmpty_map]
          rw [Bool.eq_iff_iff]
          simp [List.isEmpty_iff, List.filter_eq_nil_iff]
          exact forall_congr' fun c => forall_congr' fun _ => by omega
    · rename_i h1 h2
      rw [S_len] at h1 h2
      have e : isTxt l = false := by unfold isTxt; rw [decide_eq_false (show ¬ l.length ≤ 8 by omega), Bool.and_false]; rfl
      rw [e] at hp; exact hp
    · rename_i h1
      rw [S_len] at h1
      have e : isTxt l = false := by unfold isTxt; rw [decide_eq_false (show ¬ 1 ≤ l.length by omega)]; rfl
      rw [e] at hp; exact hp
  | false =>
    have : isTxtD d = false := by cases d <;> first | rfl | (cases hs; done)
    rw [this] at hp
    walk_at "e"
    exact hp
theorem ok_law_is_text {f : Addr} {fd : FuncData} (F : Fun K "_law_is_text" "_law_is_text" s_law_is_text f fd) (T : TX mg cs) (KF : KFX K cs) : FnG P w K mg base (L2.CX P w) 1 f fd ["_law_value"] (spN cs 1 0 S_law_is_text) :=
  Ev.fn_of F sc_law_is_text rfl (by decide) (fun cdv A outer s H E hr => (su_cons (st_if (pw_or (pt_not (pt_val (px_callB T.isinstance (pa_cons (px_var 0) (pa_cons (px_gty .str T.str) pa_nil)) (po_isi KF.isi)) pob_std)) (pw_one (pt_not (pt_chain px_int (px_callB T.len (pa_cons (px_var 0) pa_nil) po_len) po_le px_int po_le)))).pt
    (su_cons (st_ret px_bl) su_nil)
    su_nil) (su_cons (st_ret (px_cmp (px_lc sc_law_is_text.nd (plc (own := [("_law_sign", 1)]) (is := [1]) (blkOk_by (by rfl)) (by decide) (xi_std (px_var 0)) (fun s H C cl fp => (xg_name 1 sc_law_is_text.nd)) (.inr ⟨_, rfl, fun s H C cl fp => (pt_cmp (px_var 1) px_str po_nin)⟩) (fun s H C cl fp => (px_var 1)))) (px_lst pa_nil) (po_eq hr.hu))) su_nil))) (by decide +kernel) f_law_is_text
/-! ### _law_letters -/
abbrev s_law_letters : Stmt := top 34
abbrev n_law_letters : List Str := ["_law_pen_here", "_law_least", "_law_most", "_law_some", "_law_k"]
theorem sc_law_letters : FnScope n_law_letters ["_law_pen_here", "_law_least", "_law_most"] (defScope s_law_letters) := ⟨rfl, rfl, rfl, by decide +kernel, rfl, by decide +kernel, by decide +kernel⟩
def S_law_letters : SpX := fun ds M post _ => ∃ i j : Int, ds = [.pen, .int i, .int j] ∧ 0 ≤ i ∧ i ≤ j ∧ j ≤ 20 ∧ ∀ l : List Nat, i ≤ l.length → l.length ≤ j → (∀ c ∈ l, c ∈ abc) → post (.str (S l)) M
theorem c_letters {i j : Int} {M : Store} {post : DP} {xp : XP} (h0 : 0 ≤ i) (h1 : i ≤ j) (h2 : j ≤ 20) (hp : ∀ l : List Nat, i ≤ l.length → l.length ≤ j → (∀ c ∈ l, c ∈ abc) → post (.str (S l)) M) : S_law_letters [.pen, .int i, .int j] M post xp := ⟨i, j, rfl, h0, h1, h2, hp⟩
def tf_law_letters : TfS := (tSeq (tAsg 3 (tFn 2 S_law_pick (tCons (tVar 0) (tCons (tLst (tCons (tCon (.str (SX.S [97, 98, 99]))) (tCons (tCon (.str (SX.S [97, 98, 99]))) (tCons (tCon (.str (SX.S [97, 98]))) (tCons (tCon (.str (SX.S [97]))) (tCons (tCon (.str (SX.S [99, 97]))) tNil)))))) tNil))))
    (tSeq (tRet (tBm "str" (tCon (.str (SX.S []))) (tCons (tLc (gNm 4) [4] (tRg1 (tCons (tBin (tVar 1) (tFn 2 S_law_draw (tCons (tVar 0) (tCons (tBin (tBin (tVar 2) (tVar 1) tSub) (tCon (.int 1)) tAdd) tNil))) tAdd) tNil)) tYesT (tFn 2 S_law_pick (tCons (tVar 0) (tCons (tVar 3) tNil)))) tNil) tJoin))
    tSkip))
theorem f_law_letters : ∀ (ds : List D) (M : Store) (post : DP) (xp : XP), ds.length = 3 → S_law_letters ds M post xp → tf_law_letters (G0 n_law_letters ds) M { nx := fun _ M' => post .non M', rt := post, xx := fun _ => xp } := by
  rintro ds M post xp - ⟨i, j, rfl, h0, h1, h2, hp⟩ <;> unfold tf_law_letters n_law_letters <;> walk_at "e0"
  walk_at "e"
  refine c_pick (by simp only [List.length_cons, List.length_nil]; decide) (by simp only [List.length_cons, List.length_nil]; decide) fun d hd => ?_
  have hd : ∃ m : List Nat, d = .str (S m) ∧ 0 < m.length ∧ m.length ≤ 3 ∧ ∀ c ∈ m, c ∈ abc := by
    simp only [List.mem_cons, List.not_mem_nil, or_false] at hd
    rcases hd with rfl | rfl | rfl | rfl | rfl <;> exact ⟨_, rfl, by decide, by decide, by decide⟩
  obtain ⟨m, rfl, m0, m1, mc⟩ := hd
  walk_at "e"
  have hb : (j - i + 1).natAbs < 2 ^ 200 := by
    have : (22 : Nat) ≤ 2 ^ 200 := by decide
    omega
  refine r_draw (by omega) hb fun k k0 k1 => ?_
  walk_at "e"
  refine r_ri1 (N := (i + k).toNat) (by omega) (by omega) ?_
  refine r_lcA (fun y => ∃ c ∈ abc, y = .str (S [c])) (by rw [List.length_map, List.length_range]; omega) (fun d _ p hp => ?_) fun ys hl hys => ?_
  · walk_at "e"
    exact c_pick_s m0 (by omega) fun c hc => hp _ ⟨c, mc c hc, rfl⟩
  · obtain ⟨l, rfl, hc⟩ := signs_any hys
    rw [List.length_map, List.length_map, List.length_range] at hl
    walk_at "e"
    · rw [sum_sing, S_len, List.length_map]
      simp only [List.length_nil]
      omega
    · rw [join_cat l fun c => [c], map_sing]
      exact hp l (by omega) (by omega) hc
theorem ok_law_letters {f : Addr} {fd : FuncData} (F : Fun K "_law_letters" "_law_letters" s_law_letters f fd) (T : TX mg cs)
    (D_law_pick : FnD P w K mg base cs 2 "_law_pick" 2 1 S_law_pick)
    (D_law_draw : FnD P w K mg base cs 1 "_law_draw" 2 1 S_law_draw) : FnG P w K mg base (L2.CX P w) 3 f fd ["_law_pen_here", "_law_least", "_law_most"] (spN cs 3 9223372036854775810 S_law_letters) :=
  Ev.fn_of F sc_law_letters rfl (by decide) (fun cdv A outer s H E hr => (su_cons (st_asg 3 sc_law_letters.nd (px_call D_law_pick hr takesB (pa_cons (px_var 0) (pa_cons (px_lst (pa_cons px_str (pa_cons px_str (pa_cons px_str (pa_cons px_str (pa_cons px_str pa_nil)))))) pa_nil)))) (su_cons (st_ret (px_bm PySem.F.plainAttrs_str PySem.F.slot_str_join (by first | rfl | kernel_rfl) pom_join px_str (pa_cons (px_lc sc_law_letters.nd (plc (c2 := 0) (own := [("_law_k", 4)]) (is := [4]) (blkOk_by (by rfl)) (by decide) (xi_range1 T.range (pa_cons (px_bin (px_var 1) (px_call D_law_draw hr takesB (pa_cons (px_var 0) (pa_cons (px_bin (px_bin (px_var 2) (px_var 1) po_sub) px_int po_add) pa_nil))) po_add) pa_nil)) (fun s H C cl fp => (xg_name 4 sc_law_letters.nd)) (.inl ⟨rfl, rfl⟩) (fun s H C cl fp => (px_call D_law_pick hr Ev.takes0 (pa_cons (px_var 0) (pa_cons (px_var 3) pa_nil)))))) pa_nil))) su_nil))) (by decide +kernel) f_law_letters
end
end K14
-- k14f5
namespace K14
open PySem L2 Ev
local macro_rules | `(tactic| walk_at "e1") => `(tactic| with_reducible first
  | refine r_seq ?_ | refine r_bin ?_ | refine r_skip ?_ | refine r_asg ?_ | refine r_ret ?_ | refine r_ifs ?_ | refine r_con ?_
  | refine r_cons ?_ | refine r_nil ?_ | refine r_exb ?_ | refine r_exi ?_ | refine r_exs ?_ | refine r_tt ?_ | refine r_ff ?_ | refine r_nt ?_ | refine r_sw ?_
  | refine r_un ?_ | refine r_call ?_ | refine r_fn ?_ | refine r_test ?_ | refine r_notT ?_ | refine r_andT ?_ | refine r_orT ?_ | refine r_and ?_ | refine r_or ?_ | refine r_not ?_ | refine r_ifx ?_
  | refine r_tup ?_ | refine r_lst ?_ | refine r_tru_b ?_ | refine r_tru_i ?_ | refine r_tru_n ?_ | refine r_tru_l ?_ | refine r_tru_t ?_
  | refine r_add_ii ?_ | refine r_add_ib ?_ | refine r_sub ?_ | refine r_lt ?_ | refine r_le_ii ?_ | refine r_gt ?_ | refine r_ge ?_ | refine r_eq_i ?_ | refine r_eq_s ?_ | refine r_eq_b ?_ | refine r_eq_n ?_ | refine r_ne_i ?_ | refine r_ne_s ?_ | refine r_ne_b ?_ | refine r_in_s ?_ | refine r_nin_s ?_ | refine r_neg ?_ | refine r_lt_s ?_
  | refine r_sl ?_ | refine r_sl_l ?_ | refine r_sl_t ?_ | refine r_no ?_ | refine r_some ?_
  | refine r_len_l ?_ | refine r_len_t ?_ | refine r_len_d ?_ | refine r_int_i ?_ | refine r_int_b ?_ | refine r_abs ?_ | refine r_bool_i ?_ | refine r_bool_b ?_ | refine r_str_s ?_ | refine r_list_l ?_ | refine r_list_t ?_ | refine r_tuple_l ?_ | refine r_tuple_t ?_ | refine r_all ?_ | refine r_any ?_ | refine r_sum ?_ | refine r_max2 ?_ | refine r_min2 ?_
  | refine r_bm ?_ | refine r_tyS ?_ | refine r_tyL ?_ | refine r_tyD ?_ | refine r_count ?_ | refine r_meth ?_ | refine r_stat ?_ | refine r_cm ?_ | refine r_iscls ?_ | refine r_mk ?_ | refine r_mkE ?_ | refine r_mkM ?_ | refine r_hear ?_ | refine r_statK ?_ | refine r_methK ?_ | refine r_cmK ?_ | refine r_mkKw ?_
  | refine r_pass ?_ | refine r_break ?_ | refine r_cont ?_ | refine r_retN ?_ | refine r_drop ?_ | refine r_par ?_ | refine r_ex2 ?_ | refine r_raise1 ?_ | refine r_raise2 ?_ | refine r_try ?_ | refine r_unp ?_ | refine r_addI_i ?_ | refine r_isB ?_ | refine r_notB ?_ | refine r_rev ?_ | refine r_rev_l ?_ | refine r_fst ?_
  | refine r_gNm ?_ | refine r_gNil ?_ | refine r_gCons ?_ | refine r_for ?_ | refine r_it ?_ | refine r_it_l ?_ | refine r_it_t ?_ | refine r_it_s ?_ | refine r_rg1 ?_ | refine r_rg2 ?_ | refine r_lc ?_ | refine r_yes ?_ | refine r_chain0 ?_ | refine r_fstr ?_ | refine r_lc0 ?_ | refine r_lc1 ?_ | refine r_for0 ?_ | refine r_for1 ?_ | refine r_j0 ?_ | refine r_j1 ?_ | refine r_fm ?_)
local macro_rules | `(tactic| walk_at "e2") => `(tactic| first
  | ((with_reducible apply r_var); exact rfl)
  | ((with_reducible apply r_ar); exact rfl)
  | ((with_reducible apply r_ar1); exact rfl)
  | ((with_reducible apply r_le); focus (first | decide | (simp only [List.length_cons, List.length_nil]; decide)))
  | ((with_reducible apply r_is_t); exact rfl)
  | ((with_reducible apply r_is_f); exact rfl)
  | ((with_reducible apply r_isnt_t); exact rfl)
  | ((with_reducible apply r_isnt_f); exact rfl)
  | ((with_reducible apply r_isi_t); exact rfl; exact rfl)
  | ((with_reducible apply r_isi_f); exact rfl; exact rfl)
  | ((with_reducible apply r_fld); exact rfl; exact rfl; focus decide)
  | ((with_reducible apply r_recv); exact rfl; exact rfl)
  | ((with_reducible apply r_prop); exact rfl)
  | ((with_reducible apply r_ownS); exact rfl; exact rfl)
  | ((with_reducible apply r_own); exact rfl; exact rfl; focus decide)
  | ((with_reducible apply Or.inl); (with_reducible apply r_ownS); exact rfl; exact rfl)
  | ((with_reducible apply Or.inr); (with_reducible apply r_own); exact rfl; exact rfl; focus decide)
  | ((with_reducible apply r_ownC_o); exact rfl; exact rfl; focus decide)
  | ((with_reducible apply r_ownC_t); exact rfl; exact rfl; (focus decide); (focus decide))
  | ((with_reducible apply r_aug); exact rfl)
  | ((with_reducible apply r_ownRS); exact rfl)
  | ((with_reducible apply r_cval); focus (exact List.mem_cons_self))
  | ((with_reducible apply r_ownD_o); exact rfl; exact rfl; focus decide)
  | ((with_reducible apply r_ownD_t); exact rfl; exact rfl; (focus decide))
  | ((with_reducible apply r_ownNeD_o); exact rfl; exact rfl; focus decide)
  | ((with_reducible apply r_ownNeD_t); exact rfl; exact rfl; (focus decide))
  | ((with_reducible apply r_own1); exact rfl)
  | ((with_reducible apply r_ownB); exact rfl)
  | ((with_reducible apply r_ownN); exact rfl)
  | ((with_reducible apply r_ownA); exact rfl)
  | ((with_reducible apply r_ownStr); exact rfl)
  | ((with_reducible apply r_ownIn); exact rfl)
  | ((with_reducible apply r_ownR); exact rfl)
  | ((with_reducible apply r_mkV); exact rfl)
  | ((with_reducible apply r_fd); exact rfl)
  | ((with_reducible apply r_xf); exact rfl; focus decide)
  | ((with_reducible apply r_isx (b := true)); (focus decide); (focus decide); exact rfl)
  | ((with_reducible apply r_isx (b := false)); (focus decide); (focus decide); exact rfl)
  | ((with_reducible apply r_ar); exact rfl)
  | ((with_reducible apply r_gTup); exact rfl)
  | ((with_reducible apply r_gLs); exact rfl)
  | ((with_reducible apply r_ix_l); exact rfl)
  | ((with_reducible apply r_ix_t); exact rfl)
  | ((with_reducible apply r_fstI); (focus decide); (focus exact Nat.le_of_ble_eq_true rfl))
  | ((with_reducible apply r_dt); (first | assumption | exact rfl | focus decide))
  | ((with_reducible apply r_df); (first | assumption | focus decide))
  | ((with_reducible apply r_partE); assumption; (focus (try walk_at "es")); (focus (try walk_at "es")))
  | ((with_reducible apply r_ct); assumption)
  | ((with_reducible apply r_cf); assumption)
  | ((with_reducible apply r_yes)))
local macro_rules | `(tactic| walk_at "e") => `(tactic| repeat' (first | walk_at "e1" | walk_at "ec" | walk_at "e2" | walk_at "e3"))
local macro_rules | `(tactic| walk_at "e0") => `(tactic| simp only [G0, List.map_cons, List.map_nil, List.length_cons, List.length_nil, List.replicate, List.cons_append, List.nil_append, Nat.reduceAdd, Nat.reduceSub, Nat.sub_zero, Nat.zero_add])
local macro_rules | `(tactic| walk_at "e3") => `(tactic| first
  | ((with_reducible apply r_fdiv); focus (try walk_at "es"))
  | ((with_reducible apply r_mod); focus (try walk_at "es"))
  | ((with_reducible apply r_mul_ii); focus (try walk_at "es"))
  | ((with_reducible apply r_mul_si); focus (try walk_at "es"))
  | ((with_reducible apply r_mul_li); focus (try walk_at "es"))
  | ((with_reducible apply r_pow); focus (try walk_at "es"))
  | ((with_reducible apply r_add_ss); focus (try walk_at "es"))
  | ((with_reducible apply r_add_ll); focus (try walk_at "es"))
  | ((with_reducible apply r_add_tt); focus (try walk_at "es"))
  | ((with_reducible apply r_tru_s); focus (try walk_at "es"))
  | ((with_reducible apply r_sl_s); focus (try walk_at "es"))
  | ((with_reducible apply r_len_s); focus (try walk_at "es"))
  | ((with_reducible apply r_part); (focus (try walk_at "es")); (focus (try walk_at "es")))
  | ((with_reducible apply r_split); (focus (try walk_at "es")); (focus (try walk_at "es")))
  | ((with_reducible apply r_join); focus (try walk_at "es"))
  | ((with_reducible apply r_exh); focus (try walk_at "es"))
  | ((with_reducible apply r_str_i); focus (try walk_at "es"))
  | ((with_reducible apply r_le); focus (try walk_at "es"))
  | ((with_reducible apply r_fm_i); focus (try walk_at "es"))
  | ((with_reducible apply r_fm_s); focus (try walk_at "es"))
  | ((with_reducible apply r_jS); focus (try walk_at "es"))
  | ((with_reducible apply r_addI_s); focus (try walk_at "es"))
  | ((with_reducible apply r_rev_s); focus (try walk_at "es"))
  | ((with_reducible apply r_listS); focus (try walk_at "es"))
  | (with_reducible apply r_is; exact rfl)
  | (with_reducible apply r_isnt; exact rfl)
  | (with_reducible refine' r_dc (fun _ => ?_) (fun _ => ?_))
  | (with_reducible refine' r_cc (fun _ => ?_) (fun _ => ?_))
  | (with_reducible intro _))
local macro_rules | `(tactic| walk_at "en") => `(tactic| simp only [List.nil_append, List.cons_append, List.append_assoc])
open SX PyProof.Rows PySem.Spec
local macro_rules | `(tactic| walk_at "still") => `(tactic| first
  | (exact Still.wd)
  | (exact Still.str (by assumption) (by assumption))
  | (exact Still.str (by first | decide | omega) (by first | decide | assumption))
  | (exact Still.mk0 (fun M => ⟨_, rfl, by intro c hc; cases hc⟩) (fun n => by simp [D.lt, D.ltL, D.ltF, D.ltK, ltL_signs]) nofun))
local macro_rules | `(tactic| walk_at "es") => `(tactic| first | assumption | decide | omega | (exact len_small ‹_›) | (simp only [List.length_cons, List.length_nil, List.length_append]; decide))
local macro_rules | `(tactic| walk_at "rd") => `(tactic| first
  | assumption | exact Rd.non | exact Rd.bl | exact RdL.nil | exact RdK.nil
  | ((with_reducible apply Rd.tup); walk_at "rd") | ((with_reducible apply Rd.lst); walk_at "rd") | ((with_reducible apply Rd.dic); walk_at "rd")
  | ((with_reducible apply RdL.cons); (focus walk_at "rd"); (focus walk_at "rd"))
  | ((with_reducible apply RdK.str); (focus (exact Nat.le_refl _)); (focus decide); (focus walk_at "rd"); (focus walk_at "rd"))
  | ((with_reducible apply Rd.str); (focus assumption); (focus assumption))
  | ((with_reducible apply Rd.str); (focus (exact Nat.le_refl _)); (focus decide))
  | ((with_reducible apply Rd.int); (focus (first | assumption | decide)))
  | ((with_reducible apply Rd.int); (focus (simp only [Int.natAbs_natCast]; exact lt_of_lt_log ‹_›)))
  | ((simp only [List.nil_append, List.cons_append, Int.reduceToNat, List.reduceReplicate, List.flatten_cons, List.flatten_nil, Int.toNat_natCast, List.length_cons, List.length_nil, Nat.reduceAdd]); walk_at "rd"))
local macro_rules | `(tactic| walk_at "ec") => `(tactic| fail "none")
local macro_rules | `(tactic| walk_at "ec") => `(tactic| first
  | (with_reducible apply r_en) | (with_reducible apply r_en_l) | (with_reducible apply r_en_t) | (with_reducible apply r_mkS) | (with_reducible apply r_spr) | (with_reducible apply r_spr_l) | (with_reducible apply r_spr_t) | (with_reducible apply r_starA) | (with_reducible apply r_lrg2)
  | ((with_reducible apply r_ownIx); (focus exact rfl)))
local macro_rules | `(tactic| walk_at "ec") => `(tactic| first
  | (with_reducible refine ⟨tyM_liC, ?_⟩)
  | ((with_reducible apply r_appendC); (focus (simp only [List.length_cons, List.length_nil, List.length_append]; decide)))
  | ((with_reducible apply r_frzC); (focus rfl); walk_at "en")
  | (with_reducible refine ⟨tyM_li, ?_⟩)
  | (with_reducible apply r_lstM)
  | ((with_reducible apply r_append); (focus (simp only [List.length_cons, List.length_nil, List.length_append]; decide)))
  | ((with_reducible apply r_frzL); (focus rfl); walk_at "en"))
local macro_rules | `(tactic| walk_at "ec") => `(tactic| first
  | ((with_reducible apply r_mkSV); (focus exact rfl))
  | (with_reducible apply r_fmO)
  | ((with_reducible apply r_splitP); (focus assumption))
  | ((with_reducible apply r_slLast); (focus assumption)))
section
variable {P : Program} {w : World} {K : PySem.W.Frag} {mg : Str → Option Value} {base : Heap} {cs : CS}
/-! ### _law_texts -/
abbrev s_law_texts : Stmt := top 35
abbrev n_law_texts : List Str := ["_law_pen_here", "_law_most", "_law_found", "_law_k"]
theorem sc_law_texts : FnScope n_law_texts ["_law_pen_here", "_law_most"] (defScope s_law_texts) := ⟨rfl, rfl, rfl, by decide +kernel, rfl, by decide +kernel, by decide +kernel⟩
/-- texts of one to three letters -/
def Txts (m : Nat) (ts : List (List Nat)) : Prop := ts.length ≤ m ∧ ∀ t ∈ ts, isTxt t = true ∧ t.length ≤ 3
def S_law_texts : SpX := fun ds M post _ => ∃ m : Nat, ds = [.pen, .int m] ∧ m ≤ 20 ∧ ∀ ts, Txts m ts → post (.lst (strsD ts)) (M ++ [Cell.dead])
theorem c_txts {m : Nat} {M : Store} {post : DP} {xp : XP} (h : m ≤ 20) (hp : ∀ ts, Txts m ts → post (.lst (strsD ts)) (M ++ [Cell.dead])) : S_law_texts [.pen, .int m] M post xp := ⟨m, rfl, h, hp⟩
def tf_law_texts : TfS := (tSeq (tAsg 2 (tLstM tNil))
    (tSeq (tFor (gNm 3) (tRg1 (tCons (tFn 2 S_law_draw (tCons (tVar 0) (tCons (tBin (tVar 1) (tCon (.int 1)) tAdd) tNil))) tNil))
    (tSeq (tDrop (tBm "list" (tVar 2) (tCons (tIfx (tAndT ((tBin (tVar 2) (tLst tNil) tNeL).bl) ((tBin (tFn 2 S_law_draw (tCons (tVar 0) (tCons (tCon (.int 3)) tNil))) (tCon (.int 0)) tEq).bl)) (tFn 2 S_law_pick (tCons (tVar 0) (tCons (tVar 2) tNil))) (tFn 3 S_law_letters (tCons (tVar 0) (tCons (tCon (.int 1)) (tCons (tCon (.int 3)) tNil))))) tNil) tAppend))
    tSkip))
    (tFrzS 2 (tSeq (tRet (tVar 2))
    tSkip))))
theorem f_law_texts : ∀ (ds : List D) (M : Store) (post : DP) (xp : XP), ds.length = 2 → S_law_texts ds M post xp → tf_law_texts (G0 n_law_texts ds) M { nx := fun _ M' => post .non M', rt := post, xx := fun _ => xp } := by
  rintro ds M post xp - ⟨m, rfl, hm, hp⟩ <;> unfold tf_law_texts n_law_texts <;> walk_at "e0"
  walk_at "e"
  have h22 : (22 : Nat) ≤ 2 ^ 200 := by decide
  refine r_draw (by omega) (by omega) fun n n0 n1 => ?_
  walk_at "e"
  refine r_ri1 (N := n.toNat) (by omega) (by omega) ?_
  have e1000 : (1000 : Nat) ≤ LL := by decide
  refine r_forL (by rw [List.length_map, List.length_range]; omega) ?_
  refine r_forI (fun rem Γ M' => ∃ (ts : List (List Nat)) (x3 : Option D), ts.length + rem.length ≤ m ∧ (∀ t ∈ ts, isTxt t = true ∧ t.length ≤ 3) ∧ M' = M ++ [Cell.li (strsD ts)] ∧ Γ = [some .pen, some (.int m), some (.loc M.length), x3]) ⟨[], _, by rw [List.length_map, List.length_range, List.length_nil]; omega, nofun, rfl, rfl⟩ ?_ ?_
  · rintro Γ M' ⟨ts, x3, h1, h2, rfl, rfl⟩
    refine r_frzL rfl ?_
    walk_at "e"
    exact hp ts ⟨by simpa using h1, h2⟩
  · rintro d ds Γ M' N ⟨ts, x3, h1, h2, rfl, rfl⟩ hN
    rw [List.length_cons] at h1
    have hap : ∀ t, isTxt t = true → t.length ≤ 3 → N [some .pen, some (.int m), some (.loc M.length), some d] (M ++ [Cell.li (strsD ts ++ [.str (S t)])]) := fun t h3 h4 =>
      hN _ _ ⟨ts ++ [t], _, by rw [List.length_append, List.length_singleton]; omega, fun z hz => (List.mem_append.mp hz).elim (h2 z) fun e => by rw [List.mem_singleton.mp e]; exact ⟨h3, h4⟩, by rw [strs_snoc], rfl⟩
    walk_at "e"
    refine r_neE (fun t ht c hc => abc_asc (isTxt_iff.mp (h2 t ht).1).2.2 c hc) ?_
    walk_at "e"
    all_goals
      have hls : (strsD ts).length < sizeLine := by
        rw [List.length_map, sizeLine_eq]; omega
    · refine c_letters (by decide) (by decide) (by decide) fun l l1 l2 l3 => ?_
      walk_at "e"
      refine r_append hls ?_
      walk_at "e"
      exact hap l (isTxt_iff.mpr ⟨by omega, by omega, l3⟩) (by omega)
    · rename_i hne
      have hpos : 0 < (strsD ts).length := by
        rw [List.length_map]
        cases ts with
        | nil => cases hne
        | cons => exact Nat.succ_pos _
      refine r_draw (by decide) (by decide) fun i i0 i1 => ?_
      walk_at "e"
      · refine c_pick_l hpos (by rw [List.length_map]; omega) fun x hx => ?_
        obtain ⟨t, ht, rfl⟩ := List.mem_map.mp hx
        walk_at "e"
        refine r_append hls ?_
        walk_at "e"
        exact hap t (h2 t ht).1 (h2 t ht).2
      · refine c_letters (by decide) (by decide) (by decide) fun l l1 l2 l3 => ?_
        walk_at "e"
        refine r_append hls ?_
        walk_at "e"
        exact hap l (isTxt_iff.mpr ⟨by omega, by omega, l3⟩) (by omega)
theorem ok_law_texts {f : Addr} {fd : FuncData} (F : Fun K "_law_texts" "_law_texts" s_law_texts f fd) (T : TX mg cs)
    (D_law_draw : FnD P w K mg base cs 1 "_law_draw" 2 1 S_law_draw)
    (D_law_pick : FnD P w K mg base cs 2 "_law_pick" 2 1 S_law_pick)
    (D_law_letters : FnD P w K mg base cs 3 "_law_letters" 3 9223372036854775810 S_law_letters) : FnG P w K mg base (L2.CX P w) 4 f fd ["_law_pen_here", "_law_most"] (spN cs 2 85070591730234615902737140005361156097 S_law_texts) :=
  Ev.fn_of F sc_law_texts rfl (by decide) (fun cdv A outer s H E hr => (su_cons (st_asg 2 sc_law_texts.nd (px_lstM pa_nil)) (su_cons (st_for passB (xg_name 3 sc_law_texts.nd) (xi_range1 T.range (pa_cons (px_call D_law_draw hr takesB (pa_cons (px_var 0) (pa_cons (px_bin (px_var 1) px_int po_add) pa_nil))) pa_nil))
    (su_cons (st_expr (px_bm PySem.F.plainAttrs_list PySem.F.slot_list_append (by first | rfl | kernel_rfl) pom_append (px_var 2) (pa_cons (px_ifx (pw_and (pt_cmp (px_var 2) (px_lst pa_nil) (po_neL hr.hu)) (pw_one (pt_cmp (px_call D_law_draw hr takesB (pa_cons (px_var 0) (pa_cons px_int pa_nil))) px_int (po_eq hr.hu)))).pt (px_call D_law_pick hr takesB (pa_cons (px_var 0) (pa_cons (px_var 2) pa_nil))) (px_call D_law_letters hr takesB (pa_cons (px_var 0) (pa_cons px_int (pa_cons px_int pa_nil))))) pa_nil))) su_nil)) (su_frz 2 (su_cons (st_ret (px_var 2)) su_nil))))) (by decide +kernel) f_law_texts
/-! ### _law_all_sorted -/
abbrev s_law_all_sorted : Stmt := top 36
abbrev n_law_all_sorted : List Str := ["_law_texts_here", "_law_signs"]
theorem sc_law_all_sorted : FnScope n_law_all_sorted ["_law_texts_here"] (defScope s_law_all_sorted) := ⟨rfl, rfl, rfl, by decide +kernel, rfl, by decide +kernel, by decide +kernel⟩
def S_law_all_sorted : SpX := fun ds M post _ => ∃ ts, ds = [.lst (strsD ts)] ∧ ts.length ≤ 100000 ∧ (∀ t ∈ ts, t.length < 64 ∧ ∀ c ∈ t, c ∈ abc) ∧ post (.lst (strsD (ts.map canon))) M
theorem c_allS {ts : List (List Nat)} {M : Store} {post : DP} {xp : XP} (h : ts.length ≤ 100000) (hc : ∀ t ∈ ts, t.length < 64 ∧ ∀ c ∈ t, c ∈ abc) (hp : post (.lst (strsD (ts.map canon))) M) : S_law_all_sorted [.lst (strsD ts)] M post xp := ⟨ts, rfl, h, hc, hp⟩
def tf_law_all_sorted : TfS := (tSeq (tRet (tLc (gNm 1) [1] (tIt (tVar 0)) tYesT (tFn 1 S_law_sorted (tCons (tVar 1) tNil))))
    tSkip)
theorem f_law_all_sorted : ∀ (ds : List D) (M : Store) (post : DP) (xp : XP), ds.length = 1 → S_law_all_sorted ds M post xp → tf_law_all_sorted (G0 n_law_all_sorted ds) M { nx := fun _ M' => post .non M', rt := post, xx := fun _ => xp } := by
  rintro ds M post xp - ⟨ts, rfl, h, hc, hp⟩ <;> unfold tf_law_all_sorted n_law_all_sorted <;> walk_at "e0"
  walk_at "e"
  refine r_lcM (fun t : List Nat => .str (S (canon t))) h (fun t ht p hp => ?_) ?_
  · walk_at "e"
    exact c_sorted (hc t ht).1 (hc t ht).2 hp
  · walk_at "e"
    rw [strs_map] at hp
    exact hp
theorem ok_law_all_sorted {f : Addr} {fd : FuncData} (F : Fun K "_law_all_sorted" "_law_all_sorted" s_law_all_sorted f fd)
    (D_law_sorted : FnD P w K mg base cs 1 "_law_sorted" 1 0 S_law_sorted) : FnG P w K mg base (L2.CX P w) 2 f fd ["_law_texts_here"] (spN cs 1 0 S_law_all_sorted) :=
  Ev.fn_of F sc_law_all_sorted rfl (by decide) (fun cdv A outer s H E hr => (su_cons (st_ret (px_lc sc_law_all_sorted.nd (plc (c2 := 0) (own := [("_law_signs", 1)]) (is := [1]) (blkOk_by (by rfl)) (by decide) (xi_std (px_var 0)) (fun s H C cl fp => (xg_name 1 sc_law_all_sorted.nd)) (.inl ⟨rfl, rfl⟩) (fun s H C cl fp => (px_call D_law_sorted hr Ev.takes0 (pa_cons (px_var 1) pa_nil)))))) su_nil)) (by decide +kernel) f_law_all_sorted
end
end K14
-- k14f6
namespace K14
open PySem L2 Ev
local macro_rules | `(tactic| walk_at "e1") => `(tactic| with_reducible first
  | refine r_seq ?_ | refine r_bin ?_ | refine r_skip ?_ | refine r_asg ?_ | refine r_ret ?_ | refine r_ifs ?_ | refine r_con ?_
  | refine r_cons ?_ | refine r_nil ?_ | refine r_exb ?_ | refine r_exi ?_ | refine r_exs ?_ | refine r_tt ?_ | refine r_ff ?_ | refine r_nt ?_ | refine r_sw ?_
  | refine r_un ?_ | refine r_call ?_ | refine r_fn ?_ | refine r_test ?_ | refine r_notT ?_ | refine r_andT ?_ | refine r_orT ?_ | refine r_and ?_ | refine r_or ?_ | refine r_not ?_ | refine r_ifx ?_
  | refine r_tup ?_ | refine r_lst ?_ | refine r_tru_b ?_ | refine r_tru_i ?_ | refine r_tru_n ?_ | refine r_tru_l ?_ | refine r_tru_t ?_
  | refine r_add_ii ?_ | refine r_add_ib ?_ | refine r_sub ?_ | refine r_lt ?_ | refine r_le_ii ?_ | refine r_gt ?_ | refine r_ge ?_ | refine r_eq_i ?_ | refine r_eq_s ?_ | refine r_eq_b ?_ | refine r_eq_n ?_ | refine r_ne_i ?_ | refine r_ne_s ?_ | refine r_ne_b ?_ | refine r_in_s ?_ | refine r_nin_s ?_ | refine r_neg ?_ | refine r_lt_s ?_
  | refine r_sl ?_ | refine r_sl_l ?_ | refine r_sl_t ?_ | refine r_no ?_ | refine r_some ?_
  | refine r_len_l ?_ | refine r_len_t ?_ | refine r_len_d ?_ | refine r_int_i ?_ | refine r_int_b ?_ | refine r_abs ?_ | refine r_bool_i ?_ | refine r_bool_b ?_ | refine r_str_s ?_ | refine r_list_l ?_ | refine r_list_t ?_ | refine r_tuple_l ?_ | refine r_tuple_t ?_ | refine r_all ?_ | refine r_any ?_ | refine r_sum ?_ | refine r_max2 ?_ | refine r_min2 ?_
  | refine r_bm ?_ | refine r_tyS ?_ | refine r_tyL ?_ | refine r_tyD ?_ | refine r_count ?_ | refine r_meth ?_ | refine r_stat ?_ | refine r_cm ?_ | refine r_iscls ?_ | refine r_mk ?_ | refine r_mkE ?_ | refine r_mkM ?_ | refine r_hear ?_ | refine r_statK ?_ | refine r_methK ?_ | refine r_cmK ?_ | refine r_mkKw ?_
  | refine r_pass ?_ | refine r_break ?_ | refine r_cont ?_ | refine r_retN ?_ | refine r_drop ?_ | refine r_par ?_ | refine r_ex2 ?_ | refine r_raise1 ?_ | refine r_raise2 ?_ | refine r_try ?_ | refine r_unp ?_ | refine r_addI_i ?_ | refine r_isB ?_ | refine r_notB ?_ | refine r_rev ?_ | refine r_rev_l ?_ | refine r_fst ?_
  | refine r_gNm ?_ | refine r_gNil ?_ | refine r_gCons ?_ | refine r_for ?_ | refine r_it ?_ | refine r_it_l ?_ | refine r_it_t ?_ | refine r_it_s ?_ | refine r_rg1 ?_ | refine r_rg2 ?_ | refine r_lc ?_ | refine r_yes ?_ | refine r_chain0 ?_ | refine r_fstr ?_ | refine r_lc0 ?_ | refine r_lc1 ?_ | refine r_for0 ?_ | refine r_for1 ?_ | refine r_j0 ?_ | refine r_j1 ?_ | refine r_fm ?_)
local macro_rules | `(tactic| walk_at "e2") => `(tactic| first
  | ((with_reducible apply r_var); exact rfl)
  | ((with_reducible apply r_ar); exact rfl)
  | ((with_reducible apply r_ar1); exact rfl)
  | ((with_reducible apply r_le); focus (first | decide | (simp only [List.length_cons, List.length_nil]; decide)))
  | ((with_reducible apply r_is_t); exact rfl)
  | ((with_reducible apply r_is_f); exact rfl)
  | ((with_reducible apply r_isnt_t); exact rfl)
  | ((with_reducible apply r_isnt_f); exact rfl)
  | ((with_reducible apply r_isi_t); exact rfl; exact rfl)
  | ((with_reducible apply r_isi_f); exact rfl; exact rfl)
  | ((with_reducible apply r_fld); exact rfl; exact rfl; focus decide)
  | ((with_reducible apply r_recv); exact rfl; exact rfl)
  | ((with_reducible apply r_prop); exact rfl)
  | ((with_reducible apply r_ownS); exact rfl; exact rfl)
  | ((with_reducible apply r_own); exact rfl; exact rfl; focus decide)
  | ((with_reducible apply Or.inl); (with_reducible apply r_ownS); exact rfl; exact rfl)
  | ((with_reducible apply Or.inr); (with_reducible apply r_own); exact rfl; exact rfl; focus decide)
  | ((with_reducible apply r_ownC_o); exact rfl; exact rfl; focus decide)
  | ((with_reducible apply r_ownC_t); exact rfl; exact rfl; (focus decide); (focus decide))
  | ((with_reducible apply r_aug); exact rfl)
  | ((with_reducible apply r_ownRS); exact rfl)
  | ((with_reducible apply r_cval); focus (exact List.mem_cons_self))
  | ((with_reducible apply r_ownD_o); exact rfl; exact rfl; focus decide)
  | ((with_reducible apply r_ownD_t); exact rfl; exact rfl; (focus decide))
  | ((with_reducible apply r_ownNeD_o); exact rfl; exact rfl; focus decide)
  | ((with_reducible apply r_ownNeD_t); exact rfl; exact rfl; (focus decide))
  | ((with_reducible apply r_own1); exact rfl)
  | ((with_reducible apply r_ownB); exact rfl)
  | ((with_reducible apply r_ownN); exact rfl)
  | ((with_reducible apply r_ownA); exact rfl)
  | ((with_reducible apply r_ownStr); exact rfl)
  | ((with_reducible apply r_ownIn); exact rfl)
  | ((with_reducible apply r_ownR); exact rfl)
  | ((with_reducible apply r_mkV); exact rfl)
  | ((with_reducible apply r_fd); exact rfl)
  | ((with_reducible apply r_xf); exact rfl; focus decide)
  | ((with_reducible apply r_isx (b := true)); (focus decide); (focus decide); exact rfl)
  | ((with_reducible apply r_isx (b := false)); (focus decide); (focus decide); exact rfl)
  | ((with_reducible apply r_ar); exact rfl)
  | ((with_reducible apply r_gTup); exact rfl)
  | ((with_reducible apply r_gLs); exact rfl)
  | ((with_reducible apply r_ix_l); exact rfl)
  | ((with_reducible apply r_ix_t); exact rfl)
  | ((with_reducible apply r_fstI); (focus decide); (focus exact Nat.le_of_ble_eq_true rfl))
  | ((with_reducible apply r_dt); (first | assumption | exact rfl | focus decide))
  | ((with_reducible apply r_df); (first | assumption | focus decide))
  | ((with_reducible apply r_partE); assumption; (focus (try walk_at "es")); (focus (try walk_at "es")))
  | ((with_reducible apply r_ct); assumption)
  | ((with_reducible apply r_cf); assumption)
  | ((with_reducible apply r_yes)))
local macro_rules | `(tactic| walk_at "e") => `(tactic| repeat' (first | walk_at "e1" | walk_at "ec" | walk_at "e2" | walk_at "e3"))
local macro_rules | `(tactic| walk_at "e0") => `(tactic| simp only [G0, List.map_cons, List.map_nil, List.length_cons, List.length_nil, List.replicate, List.cons_append, List.nil_append, Nat.reduceAdd, Nat.reduceSub, Nat.sub_zero, Nat.zero_add])
local macro_rules | `(tactic| walk_at "e3") => `(tactic| first
  | ((with_reducible apply r_fdiv); focus (try walk_at "es"))
  | ((with_reducible apply r_mod); focus (try walk_at "es"))
  | ((with_reducible apply r_mul_ii); focus (try walk_at "es"))
  | ((with_reducible apply r_mul_si); focus (try walk_at "es"))
  | ((with_reducible apply r_mul_li); focus (try walk_at "es"))
  | ((with_reducible apply r_pow); focus (try walk_at "es"))
  | ((with_reducible apply r_add_ss); focus (try walk_at "es"))
  | ((with_reducible apply r_add_ll); focus (try walk_at "es"))
  | ((with_reducible apply r_add_tt); focus (try walk_at "es"))
  | ((with_reducible apply r_tru_s); focus (try walk_at "es"))
  | ((with_reducible apply r_sl_s); focus (try walk_at "es"))
  | ((with_reducible apply r_len_s); focus (try walk_at "es"))
  | ((with_reducible apply r_part); (focus (try walk_at "es")); (focus (try walk_at "es")))
  | ((with_reducible apply r_split); (focus (try walk_at "es")); (focus (try walk_at "es")))
  | ((with_reducible apply r_join); focus (try walk_at "es"))
  | ((with_reducible apply r_exh); focus (try walk_at "es"))
  | ((with_reducible apply r_str_i); focus (try walk_at "es"))
  | ((with_reducible apply r_le); focus (try walk_at "es"))
  | ((with_reducible apply r_fm_i); focus (try walk_at "es"))
  | ((with_reducible apply r_fm_s); focus (try walk_at "es"))
  | ((with_reducible apply r_jS); focus (try walk_at "es"))
  | ((with_reducible apply r_addI_s); focus (try walk_at "es"))
  | ((with_reducible apply r_rev_s); focus (try walk_at "es"))
  | ((with_reducible apply r_listS); focus (try walk_at "es"))
  | (with_reducible apply r_is; exact rfl)
  | (with_reducible apply r_isnt; exact rfl)
  | (with_reducible refine' r_dc (fun _ => ?_) (fun _ => ?_))
  | (with_reducible refine' r_cc (fun _ => ?_) (fun _ => ?_))
  | (with_reducible intro _))
local macro_rules | `(tactic| walk_at "en") => `(tactic| simp only [List.nil_append, List.cons_append, List.append_assoc])
open SX PyProof.Rows PySem.Spec
local macro_rules | `(tactic| walk_at "still") => `(tactic| first
  | (exact Still.wd)
  | (exact Still.str (by assumption) (by assumption))
  | (exact Still.str (by first | decide | omega) (by first | decide | assumption))
  | (exact Still.mk0 (fun M => ⟨_, rfl, by intro c hc; cases hc⟩) (fun n => by simp [D.lt, D.ltL, D.ltF, D.ltK, ltL_signs]) nofun))
local macro_rules | `(tactic| walk_at "es") => `(tactic| first | assumption | decide | omega | (exact len_small ‹_›) | (simp only [List.length_cons, List.length_nil, List.length_append]; decide))
local macro_rules | `(tactic| walk_at "rd") => `(tactic| first
  | assumption | exact Rd.non | exact Rd.bl | exact RdL.nil | exact RdK.nil
  | ((with_reducible apply Rd.tup); walk_at "rd") | ((with_reducible apply Rd.lst); walk_at "rd") | ((with_reducible apply Rd.dic); walk_at "rd")
  | ((with_reducible apply RdL.cons); (focus walk_at "rd"); (focus walk_at "rd"))
  | ((with_reducible apply RdK.str); (focus (exact Nat.le_refl _)); (focus decide); (focus walk_at "rd"); (focus walk_at "rd"))
  | ((with_reducible apply Rd.str); (focus assumption); (focus assumption))
  | ((with_reducible apply Rd.str); (focus (exact Nat.le_refl _)); (focus decide))
  | ((with_reducible apply Rd.int); (focus (first | assumption | decide)))
  | ((with_reducible apply Rd.int); (focus (simp only [Int.natAbs_natCast]; exact lt_of_lt_log ‹_›)))
  | ((simp only [List.nil_append, List.cons_append, Int.reduceToNat, List.reduceReplicate, List.flatten_cons, List.flatten_nil, Int.toNat_natCast, List.length_cons, List.length_nil, Nat.reduceAdd]); walk_at "rd"))
local macro_rules | `(tactic| walk_at "ec") => `(tactic| fail "none")
local macro_rules | `(tactic| walk_at "ec") => `(tactic| first
  | (with_reducible apply r_en) | (with_reducible apply r_en_l) | (with_reducible apply r_en_t) | (with_reducible apply r_mkS) | (with_reducible apply r_spr) | (with_reducible apply r_spr_l) | (with_reducible apply r_spr_t) | (with_reducible apply r_starA) | (with_reducible apply r_lrg2)
  | ((with_reducible apply r_ownIx); (focus exact rfl)))
local macro_rules | `(tactic| walk_at "ec") => `(tactic| first
  | (with_reducible refine ⟨tyM_liC, ?_⟩)
  | ((with_reducible apply r_appendC); (focus (simp only [List.length_cons, List.length_nil, List.length_append]; decide)))
  | ((with_reducible apply r_frzC); (focus rfl); walk_at "en")
  | (with_reducible refine ⟨tyM_li, ?_⟩)
  | (with_reducible apply r_lstM)
  | ((with_reducible apply r_append); (focus (simp only [List.length_cons, List.length_nil, List.length_append]; decide)))
  | ((with_reducible apply r_frzL); (focus rfl); walk_at "en"))
local macro_rules | `(tactic| walk_at "ec") => `(tactic| first
  | ((with_reducible apply r_mkSV); (focus exact rfl))
  | (with_reducible apply r_fmO)
  | ((with_reducible apply r_splitP); (focus assumption))
  | ((with_reducible apply r_slLast); (focus assumption)))
section
variable {P : Program} {w : World} {K : PySem.W.Frag} {mg : Str → Option Value} {base : Heap} {cs : CS}
/-! ### _law_row -/
abbrev s_law_row : Stmt := top 37
abbrev n_law_row : List Str := ["_law_texts_here", "_law_row_here", "_law_signs"]
theorem sc_law_row : FnScope n_law_row ["_law_texts_here"] (defScope s_law_row) := ⟨rfl, rfl, rfl, by decide +kernel, rfl, by decide +kernel, by decide +kernel⟩
theorem Txts.txo {m : Nat} {ts : List (List Nat)} (h : Txts m ts) (hm : m ≤ 12) : TxO ts := ⟨by have := h.1; omega, fun t ht => (h.2 t ht).1⟩
def S_law_row : SpX := fun ds M post _ => ∃ ts, ds = [.lst (strsD ts)] ∧ TxO ts ∧ ∀ (a : Addr) (ps : Wds), ps.map (·.2) = ts.map canon → post (rwD a ps) M
theorem c_row {ts : List (List Nat)} {M : Store} {post : DP} {xp : XP} (h : TxO ts) (hp : ∀ (a : Addr) (ps : Wds), ps.map (·.2) = ts.map canon → post (rwD a ps) M) : S_law_row [.lst (strsD ts)] M post xp := ⟨ts, rfl, h, hp⟩
def tf_law_row : TfS := (tSeq (tAsg 1 (tMkS 10 S_Row_init tNil))
    (tSeq (tFor (gNm 2) (tIt (tVar 0))
    (tSeq (tAsg 1 (tBin (tVar 1) (tVar 2) (tOwn 10 [.str] S_Row_or)))
    tSkip))
    (tSeq (tRet (tVar 1))
    tSkip)))
theorem f_law_row : ∀ (ds : List D) (M : Store) (post : DP) (xp : XP), ds.length = 1 → S_law_row ds M post xp → tf_law_row (G0 n_law_row ds) M { nx := fun _ M' => post .non M', rt := post, xx := fun _ => xp } := by
  rintro ds M post xp - ⟨ts, rfl, ht, hp⟩ <;> unfold tf_law_row n_law_row <;> walk_at "e0"
  walk_at "e"
  refine c_mk0 fun a0 => ?_
  walk_at "e"
  have e1000 : (1000 : Nat) ≤ LL := by decide
  have ht1 := ht.1
  refine r_forL (by rw [List.length_map]; omega) ?_
  refine r_forI (fun rem Γ M' => ∃ (a : Addr) (ps : Wds) (done todo : List (List Nat)) (x2 : Option D), ts = done ++ todo ∧ rem = strsD todo ∧ ps.map (·.2) = done.map canon ∧ M' = M ∧ Γ = [some (.lst (strsD ts)), some (rwD a ps), x2]) ⟨a0, [], [], ts, _, rfl, rfl, rfl, rfl, rfl⟩ ?_ ?_
  · rintro Γ M' ⟨a, ps, done, todo, x2, e1, e2, e3, rfl, rfl⟩
    have : todo = [] := List.map_eq_nil_iff.mp e2.symm
    subst this
    rw [List.append_nil] at e1
    subst e1
    walk_at "e"
    exact hp a ps e3
  · rintro d ds Γ M' N ⟨a, ps, done, todo, x2, e1, e2, e3, rfl, rfl⟩ hN
    cases todo with
    | nil => cases e2
    | cons t todo =>
      have e2 : d :: ds = .str (S t) :: strsD todo := e2
      cases e2
      have hdone : TxO done := ⟨by rw [e1, List.length_append] at ht1; omega, fun u hu => ht.2 u (by rw [e1]; exact List.mem_append_left _ hu)⟩
      have htt := ht.2 t (by rw [e1]; exact List.mem_append_right _ List.mem_cons_self)
      obtain ⟨g1, g2⟩ := wds_txt hdone e3
      have hlt : ps.length < 12 := by rw [e1, List.length_append, List.length_cons] at ht1; omega
      have hwd : isWdD (.str (S t)) = true := by rw [isWdD_S]; exact htt
      walk_at "e"
      refine c_or g2 (by omega) (Good.txt htt).1 WdOk.str (fun z => by rw [hwd] at z; cases z) (fun _ z => by omega) fun _ _ b qs hq => ?_
      walk_at "e"
      exact hN _ _ ⟨b, qs, done ++ [t], todo, _, by rw [e1, List.append_assoc]; rfl, rfl, by rw [hq, e3, asW_S, List.map_append]; rfl, rfl, rfl⟩
theorem ok_law_row {f : Addr} {fd : FuncData} (F : Fun K "_law_row" "_law_row" s_law_row f fd) (KF : KFX K cs) (ni : NoNI cs)
    (D_Row_init : MkS P w K mg base cs 6 "Row" 10 0 S_Row_init)
    (D_Row_or : MtD P w K mg base cs 8 10 (PySem.dunder (Operator.BitOr).info.2) 2 0 S_Row_or) : FnG P w K mg base (L2.CX P w) 9 f fd ["_law_texts_here"] (spN cs 1 0 S_law_row) :=
  Ev.fn_of F sc_law_row rfl (by decide) (fun cdv A outer s H E hr => (su_cons (st_asg 1 sc_law_row.nd (px_mkS0 D_Row_init hr takesB)) (su_cons (st_for passB (xg_name 2 sc_law_row.nd) (xi_std (px_var 0))
    (su_cons (st_asg 1 sc_law_row.nd (px_bin (px_var 1) (px_var 2) (po_own ni KF.o_Row_BitOr D_Row_or hr takesB))) su_nil)) (su_cons (st_ret (px_var 1)) su_nil)))) (by decide +kernel) f_law_row
/-! ### _law_told -/
abbrev s_law_told : Stmt := top 38
abbrev n_law_told : List Str := ["_law_row_here", "_law_word"]
theorem sc_law_told : FnScope n_law_told ["_law_row_here"] (defScope s_law_told) := ⟨rfl, rfl, rfl, by decide +kernel, rfl, by decide +kernel, by decide +kernel⟩
def S_law_told : SpX := fun ds M post _ => ∃ a ps, ds = [rwD a ps] ∧ ps.length ≤ 100000 ∧ post (.lst (strsD (ps.map (·.2)))) M
theorem c_told {a : Addr} {ps : Wds} {M : Store} {post : DP} {xp : XP} (h : ps.length ≤ 100000) (hp : post (.lst (strsD (ps.map (·.2)))) M) : S_law_told [rwD a ps] M post xp := ⟨a, ps, rfl, h, hp⟩
def tf_law_told : TfS := (tSeq (tRet (tLc (gNm 1) [1] (tIt (tUn (tVar 0) (tFld "words" [10]))) tYesT (tUn (tVar 1) (tFld "text" [7]))))
    tSkip)
theorem f_law_told : ∀ (ds : List D) (M : Store) (post : DP) (xp : XP), ds.length = 1 → S_law_told ds M post xp → tf_law_told (G0 n_law_told ds) M { nx := fun _ M' => post .non M', rt := post, xx := fun _ => xp } := by
  rintro ds M post xp - ⟨a, ps, rfl, h, hp⟩ <;> unfold tf_law_told n_law_told <;> walk_at "e0"
  walk_at "e"
  refine r_lcM (fun p : Addr × List Nat => .str (S p.2)) h (fun q hq p hp => ?_) ?_
  · walk_at "e"
    exact hp
  · walk_at "e"
    rw [strs_map] at hp
    exact hp
theorem ok_law_told {f : Addr} {fd : FuncData} (F : Fun K "_law_told" "_law_told" s_law_told f fd) (KF : KFX K cs) : FnG P w K mg base (L2.CX P w) 1 f fd ["_law_row_here"] (spN cs 1 0 S_law_told) :=
  Ev.fn_of F sc_law_told rfl (by decide) (fun cdv A outer s H E hr => (su_cons (st_ret (px_lc sc_law_told.nd (plc (c2 := 0) (own := [("_law_word", 1)]) (is := [1]) (blkOk_by (by rfl)) (by decide) (xi_std (px_attr (px_var 0) (pat_fld KF.f_words))) (fun s H C cl fp => (xg_name 1 sc_law_told.nd)) (.inl ⟨rfl, rfl⟩) (fun s H C cl fp => (px_attr (px_var 1) (pat_fld KF.f_text)))))) su_nil)) (by decide +kernel) f_law_told
/-! ### _law_page -/
abbrev s_law_page : Stmt := top 39
abbrev n_law_page : List Str := ["_law_texts_here", "_law_signs"]
theorem sc_law_page : FnScope n_law_page ["_law_texts_here"] (defScope s_law_page) := ⟨rfl, rfl, rfl, by decide +kernel, rfl, by decide +kernel, by decide +kernel⟩
def S_law_page : SpX := fun ds M post _ => ∃ ts, ds = [.lst (strsD ts)] ∧ TxO ts ∧ post (.str (S (pageL ts))) M
theorem c_page {ts : List (List Nat)} {M : Store} {post : DP} {xp : XP} (h : TxO ts) (hp : post (.str (S (pageL ts))) M) : S_law_page [.lst (strsD ts)] M post xp := ⟨ts, rfl, h, hp⟩
theorem sum_pageT : ∀ ts : List (List Nat), (∀ t ∈ ts, t.length ≤ 8) → ((ts.map fun t => S (t ++ [124])).map (·.length)).sum ≤ 9 * ts.length
  | [], _ => Nat.le_refl _
  | t :: ts, h => by
    have ih := sum_pageT ts fun q hq => h q (List.mem_cons_of_mem _ hq)
    have h1 := h t List.mem_cons_self
    rw [List.map_cons, List.map_cons, List.sum_cons, S_len, List.length_append, List.length_cons]
    simp only [List.length_cons, List.length_nil]
    omega
def tf_law_page : TfS := (tSeq (tRet (tIfx (tBin (tVar 0) (tLst tNil) tNe).bl (tBm "str" (tCon (.str (SX.S []))) (tCons (tLc (gNm 1) [1] (tIt (tVar 0)) tYesT (tBin (tVar 1) (tCon (.str (SX.S [124]))) tAdd)) tNil) tJoin) (tCon (.str (SX.S [45])))))
    tSkip)
theorem f_law_page : ∀ (ds : List D) (M : Store) (post : DP) (xp : XP), ds.length = 1 → S_law_page ds M post xp → tf_law_page (G0 n_law_page ds) M { nx := fun _ M' => post .non M', rt := post, xx := fun _ => xp } := by
  rintro ds M post xp - ⟨ts, rfl, h, hp⟩ <;> unfold tf_law_page n_law_page <;> walk_at "e0"
  walk_at "e"
  refine r_neSS (us := []) h.asc nofun ?_
  by_cases h0 : ts = []
  · rw [decide_eq_true h0]
    walk_at "e"
    unfold pageL at hp
    rw [if_pos h0] at hp
    exact hp
  · have h1 := h.1
    rw [decide_eq_false h0]
    walk_at "e"
    refine r_lcM (fun t : List Nat => .str (S (t ++ [124]))) (by omega) (fun t ht p hp => ?_) ?_
    · have h8 := h.len8 t ht
      walk_at "e"
      · rw [S_len, S_len, sizeLine_eq]; simp only [List.length_cons, List.length_nil]; omega
      · rw [← S_cat] at hp
        exact hp
    · have hs := sum_pageT ts h.len8
      walk_at "e"
      · rw [S_len, List.length_map]
        simp only [List.length_nil, Nat.mul_zero, Nat.add_zero]
        omega
      · rw [join_cat ts fun t => t ++ [124]]
        unfold pageL at hp
        rw [if_neg h0] at hp
        exact hp
theorem ok_law_page {f : Addr} {fd : FuncData} (F : Fun K "_law_page" "_law_page" s_law_page f fd) : FnG P w K mg base (L2.CX P w) 1 f fd ["_law_texts_here"] (spN cs 1 0 S_law_page) :=
  Ev.fn_of F sc_law_page rfl (by decide) (fun cdv A outer s H E hr => (su_cons (st_ret (px_ifx (pt_cmp (px_var 0) (px_lst pa_nil) (po_ne hr.hu)) (px_bm PySem.F.plainAttrs_str PySem.F.slot_str_join (by first | rfl | kernel_rfl) pom_join px_str (pa_cons (px_lc sc_law_page.nd (plc (c2 := 0) (own := [("_law_signs", 1)]) (is := [1]) (blkOk_by (by rfl)) (by decide) (xi_std (px_var 0)) (fun s H C cl fp => (xg_name 1 sc_law_page.nd)) (.inl ⟨rfl, rfl⟩) (fun s H C cl fp => (px_bin (px_var 1) px_str po_add)))) pa_nil)) px_str)) su_nil)) (by decide +kernel) f_law_page
/-! ### _law_due -/
abbrev s_law_due : Stmt := top 40
abbrev n_law_due : List Str := ["_law_page_here", "_law_parts", "_law_texts_here", "_law_wrong", "_law_at"]
theorem sc_law_due : FnScope n_law_due ["_law_page_here"] (defScope s_law_due) := ⟨rfl, rfl, rfl, by decide +kernel, rfl, by decide +kernel, by decide +kernel⟩
def dueD (l : List Nat) : D := if l = [45] then .lst [.lst []] else match wrongAt (txs l) with
  | some k => textX (.int 0) (.int k)
  | none => if isEnd (prt l) then .lst [.lst (strsD ((txs l).map canon))] else textX (.int 0) (.int (txs l).length)
def S_law_due : SpX := fun ds M post _ => ∃ l, ds = [.str (S l)] ∧ l.length ≤ 1000 ∧ (∀ c ∈ l, c < 128) ∧ post (dueD l) M
theorem c_due {l : List Nat} {M : Store} {post : DP} {xp : XP} (h : l.length ≤ 1000) (hc : ∀ c ∈ l, c < 128) (hp : post (dueD l) M) : S_law_due [.str (S l)] M post xp := ⟨l, rfl, h, hc, hp⟩
def tf_law_due : TfS := (tSeq (tIf ((tBin (tVar 0) (tCon (.str (SX.S [45]))) tEq).bl)
    (tSeq (tRet (tLst (tCons (tLst tNil) tNil)))
    tSkip)
    tSkip)
    (tSeq (tAsg 1 (tBm "str" (tVar 0) (tCons (tCon (.str (SX.S [124]))) tNil) tSplit))
    (tSeq (tAsg 2 (tIfx (tAndT ((tBin (tCall (tCons (tVar 1) tNil) tLen) (tCon (.int 1)) tGt).bl) ((tBin (tBin (tVar 1) (tUn (tCon (.int 1)) tNeg) tIx) (tCon (.str (SX.S []))) tEq).bl)) (tSl (tVar 1) tNo (tSome (tUn (tCon (.int 1)) tNeg))) (tVar 1)))
    (tSeq (tAsg 3 (tLc (gNm 4) [4] (tRg1 (tCons (tCall (tCons (tVar 2) tNil) tLen) tNil)) (tOrT ((tBin (tVar 4) (tCon (.int 12)) tEq).bl) (tNotT (tTest (tFn 1 S_law_is_text (tCons (tBin (tVar 2) (tVar 4) tIx) tNil)) tTru))) (tVar 4)))
    (tSeq (tIf ((tBin (tVar 3) (tLst tNil) tNe).bl)
    (tSeq (tRet (tTup (tCons (tCon (.str (SX.S [116, 101, 120, 116]))) (tCons (tCon (.int 0)) (tCons (tBin (tVar 3) (tCon (.int 0)) tIx) tNil)))))
    tSkip)
    tSkip)
    (tSeq (tRet (tIfx (tBin (tCall (tCons (tVar 2) tNil) tLen) (tCall (tCons (tVar 1) tNil) tLen) tLt).bl (tLst (tCons (tFn 1 S_law_all_sorted (tCons (tVar 2) tNil)) tNil)) (tTup (tCons (tCon (.str (SX.S [116, 101, 120, 116]))) (tCons (tCon (.int 0)) (tCons (tCall (tCons (tVar 2) tNil) tLen) tNil))))))
    tSkip))))))
abbrev dueT : TfT := tOrT ((tBin (tVar 4) (tCon (.int 12)) tEq).bl) (tNotT (tTest (tFn 1 S_law_is_text (tCons (tBin (tVar 2) (tVar 4) tIx) tNil)) tTru))
abbrev dueAfter : TfS := tSeq (tIf ((tBin (tVar 3) (tLst tNil) tNe).bl)
    (tSeq (tRet (tTup (tCons (tCon (.str (SX.S [116, 101, 120, 116]))) (tCons (tCon (.int 0)) (tCons (tBin (tVar 3) (tCon (.int 0)) tIx) tNil))))) tSkip) tSkip)
    (tSeq (tRet (tIfx (tBin (tCall (tCons (tVar 2) tNil) tLen) (tCall (tCons (tVar 1) tNil) tLen) tLt).bl (tLst (tCons (tFn 1 S_law_all_sorted (tCons (tVar 2) tNil)) tNil)) (tTup (tCons (tCon (.str (SX.S [116, 101, 120, 116]))) (tCons (tCon (.int 0)) (tCons (tCall (tCons (tVar 2) tNil) tLen) tNil)))))) tSkip)
theorem pyL_nats (ks : List Nat) : pyL (ks.map fun k : Nat => D.int (k : Int)) = some (ks.map fun k : Nat => PyData.int (k : Int)) := by
  induction ks with
  | nil => rfl
  | cons w ws ih => rw [List.map_cons, List.map_cons]; unfold pyL; rw [ih]; rfl
theorem lay_nats (ks : List Nat) : PyData.canLayAll0 (ks.map fun k : Nat => PyData.int (k : Int)) = true ∧ PyData.depthAll (ks.map fun k : Nat => PyData.int (k : Int)) ≤ 1 := by
  induction ks with
  | nil => exact ⟨rfl, by simp [PyData.depthAll]⟩
  | cons w ws ih => exact ⟨by simp [PyData.canLayAll0, PyData.canLay0, ih.1], by have := ih.2; simp [PyData.depthAll, PyData.depth]; omega⟩
theorem r_neNats {ks : List Nat} {M : Store} {post : DP} {xp : XP} (q : post (.bl (!ks.isEmpty)) M) : tNe (.lst (ks.map fun k : Nat => D.int (k : Int))) (.lst []) M post xp := by
  obtain ⟨h1, h2⟩ := lay_nats ks
  refine .inr ⟨.list (ks.map fun k : Nat => PyData.int (k : Int)), .list [], by show (pyL _).map _ = _; rw [pyL_nats]; rfl, rfl, by simp [SeqAt.shaped, PyData.canLay0, PyData.depth, h1]; omega, rfl, ?_⟩
  have e : PyData.eqv (.list (ks.map fun k : Nat => PyData.int (k : Int))) (.list []) = ks.isEmpty := by
    cases ks <;> simp [PyData.eqv, PyData.eqvAll]
  rw [if_pos rfl, e]; exact q
theorem head_find {α : Type} (p : α → Bool) (l : List α) : (l.filter p).head? = l.find? p := List.head?_filter
theorem f_law_due : ∀ (ds : List D) (M : Store) (post : DP) (xp : XP), ds.length = 1 → S_law_due ds M post xp → tf_law_due (G0 n_law_due ds) M { nx := fun _ M' => post .non M', rt := post, xx := fun _ => xp } := by
  rintro ds M post xp - ⟨l, rfl, hl, hc, hp⟩ <;> unfold tf_law_due n_law_due <;> walk_at "e0"
  have hl2 : (S l).length + 2 ≤ sizeLine := by rw [S_len, sizeLine_eq]; omega
  have hne := prt_ne l
  have hpl := prt_len l
  by_cases h45 : S l = S [45]
  · unfold dueD at hp
    rw [if_pos (S_inj h45)] at hp
    walk_at "e"
    exact hp
  · have hn45 : ¬ l = [45] := fun z => h45 (by rw [z])
    have hlq := txs_len l
    have hsub := txs_sub l
    have hall : ∀ t ∈ txs l, t.length ≤ 100000 ∧ ∀ c ∈ t, c < 128 := fun t ht => ⟨by have := (prt_mem (hsub t ht)).1; omega, fun c hx => hc c ((prt_mem (hsub t ht)).2 c hx)⟩
    have fin : ∀ (qs : List (List Nat)), qs = txs l → lcK (gNm 4) [4] dueT (tVar 4) [some (.str (S l)), some (.lst (strsD (prt l))), some (.lst (strsD qs)), none, none] (fun d M' => dueAfter ([some (.str (S l)), some (.lst (strsD (prt l))), some (.lst (strsD qs)), none, none].set 3 (some d)) M' { nx := fun _ M' => post .non M', rt := post, xx := fun _ => xp }) ((List.range qs.length).map fun i : Nat => D.int (i : Int)) STrue M := fun qs hqs => by
      rw [← hqs] at hlq hsub hall
      have hll : (strsD qs).length = qs.length := List.length_map _
      refine r_lcF (enc := fun k : Nat => D.int (k : Int)) (fun k : Nat => D.int (k : Int)) (wr qs) (by rw [List.length_range]; omega) (fun k hk p p2 h1 h2 => ?_) ?_
      · have hk' := List.mem_range.mp hk
        have hat : atI (strsD qs) (k : Int) = some (.str (S (qs.getD k []))) := by
          unfold atI ixN
          rw [if_pos (by omega), if_pos (by rw [hll]; omega)]
          simp [List.getD_eq_getElem?_getD, hk']
        have hkm : qs.getD k [] ∈ qs := by
          rw [show qs.getD k [] = qs[k] by simp [List.getD_eq_getElem?_getD, hk']]
          exact List.getElem_mem hk'
        obtain ⟨a1, a2⟩ := hall _ hkm
        by_cases h12 : ((k : Nat) : Int) = 12
        · have hw : wr qs k = true := by unfold wr; rw [decide_eq_true (show k = 12 by omega)]; rfl
          walk_at "e"
          exact h1 hw
        · walk_at "e"
          refine r_ix_l hat ?_
          walk_at "e"
          refine c_is_textL (Still.str a1 a2) ?_
          rw [isTxtD_S]
          have hw : wr qs k = !isTxt (qs.getD k []) := by unfold wr; rw [decide_eq_false (show ¬ k = 12 by omega)]; rfl
          cases ht : isTxt (qs.getD k []) with
          | true =>
            walk_at "e"
            exact h2 (by rw [hw, ht]; rfl)
          | false =>
            walk_at "e"
            exact h1 (by rw [hw, ht]; rfl)
      · have hh := head_find (wr qs) (List.range qs.length)
        unfold dueD at hp
        rw [if_neg hn45, ← hqs] at hp
        have hpl2 : (strsD (prt l)).length = (prt l).length := List.length_map _
        cases hf : (List.range qs.length).filter (wr qs) with
        | nil =>
          rw [hf] at hh
          have hw : wrongAt qs = none := hh.symm
          have htx := of_wrong_none hw
          rw [hw] at hp
          walk_at "e"
          refine r_neNats (ks := []) ?_
          rw [List.isEmpty_nil]
          cases hE : isEnd (prt l) with
          | true =>
            rw [hE] at hp
            have hlt : ((strsD qs).length : Int) < ((strsD (prt l)).length : Nat) := by
              rw [hll, hpl2, hqs]
              unfold txs
              rw [if_pos hE, List.length_dropLast]
              have := List.length_pos_iff.mpr hne
              omega
            walk_at "e"
            refine c_allS (by have := htx.1; omega) (fun t ht => ⟨by have := htx.len8 t ht; omega, (isTxt_iff.mp (htx.2 t ht)).2.2⟩) ?_
            walk_at "e"
            exact hp
          | false =>
            rw [hE] at hp
            have hlt : ¬ ((strsD qs).length : Int) < ((strsD (prt l)).length : Nat) := by
              rw [hll, hpl2, hqs]
              unfold txs
              rw [hE]
              simp
            walk_at "e"
            rw [hll]
            exact hp
        | cons k r =>
          rw [hf] at hh
          have hw : wrongAt qs = some k := hh.symm
          rw [hw] at hp
          walk_at "e"
          refine r_neNats (ks := k :: r) ?_
          rw [List.isEmpty_cons]
          walk_at "e"
          refine r_ix_l (d := .int k) at0 ?_
          walk_at "e"
          exact hp
    by_cases hlen : (1 : Int) < ((strsD (prt l)).length : Nat)
    · obtain ⟨q, hq⟩ : ∃ q, (prt l).getLast? = some q := by
        cases h : (prt l).getLast? with
        | none => exact absurd (List.getLast?_eq_none_iff.mp h) hne
        | some q => exact ⟨q, rfl⟩
      have hat := at_last hq
      have hlen' : 1 < (prt l).length := by rw [List.length_map] at hlen; omega
      by_cases hq0 : S q = S []
      · have hq0' := S_inj hq0
        have hE : isEnd (prt l) = true := by unfold isEnd; rw [hq, hq0', decide_eq_true hlen']; simp
        have hx : txs l = (prt l).dropLast := by unfold txs; rw [if_pos hE]
        have hd0 : decide (S q = S []) = true := decide_eq_true hq0
        walk_at "e"
        refine r_ix_l hat ?_
        walk_at "e"
        rw [cut_last hne]
        refine r_ri1 (N := (txs l).length) (by rw [hx, List.length_map]) (by omega) ?_
        have fin := fin _ rfl
        rw [hx] at fin ⊢
        exact fin
      · have hE : isEnd (prt l) = false := by unfold isEnd; rw [hq, decide_eq_true hlen', decide_eq_false (fun z => hq0 (by rw [Option.some.inj z]))]; rfl
        have hx : txs l = prt l := by unfold txs; rw [hE]; rfl
        have hd0 : decide (S q = S []) = false := decide_eq_false hq0
        walk_at "e"
        refine r_ix_l hat ?_
        walk_at "e"
        refine r_ri1 (N := (txs l).length) (by rw [hx, List.length_map]) (by omega) ?_
        have fin := fin _ rfl
        rw [hx] at fin ⊢
        exact fin
    · have hlen' : ¬ 1 < (prt l).length := fun z => hlen (by rw [List.length_map]; omega)
      have hE : isEnd (prt l) = false := by unfold isEnd; rw [decide_eq_false hlen']; rfl
      have hx : txs l = prt l := by unfold txs; rw [hE]; rfl
      walk_at "e"
      refine r_ri1 (N := (txs l).length) (by rw [hx, List.length_map]) (by omega) ?_
      have fin := fin _ rfl
      rw [hx] at fin ⊢
      exact fin
theorem ok_law_due {f : Addr} {fd : FuncData} (F : Fun K "_law_due" "_law_due" s_law_due f fd) (T : TX mg cs)
    (D_law_is_text : FnD P w K mg base cs 1 "_law_is_text" 1 0 S_law_is_text)
    (D_law_all_sorted : FnD P w K mg base cs 2 "_law_all_sorted" 1 0 S_law_all_sorted) : FnG P w K mg base (L2.CX P w) 3 f fd ["_law_page_here"] (spN cs 1 0 S_law_due) :=
  Ev.fn_of F sc_law_due rfl (by decide) (fun cdv A outer s H E hr => (su_cons (st_if (pt_cmp (px_var 0) px_str (po_eq hr.hu))
    (su_cons (st_ret (px_lst (pa_cons (px_lst pa_nil) pa_nil))) su_nil)
    su_nil) (su_cons (st_asg 1 sc_law_due.nd (px_bm PySem.F.plainAttrs_str PySem.F.slot_str_split (by first | rfl | kernel_rfl) pom_split (px_var 0) (pa_cons px_str pa_nil))) (su_cons (st_asg 2 sc_law_due.nd (px_ifx (pw_and (pt_cmp (px_callB T.len (pa_cons (px_var 1) pa_nil) po_len) px_int po_gt) (pw_one (pt_cmp (px_ix (px_var 1) (px_un px_int po_neg) (pix_std hr.hu1)) px_str (po_eq hr.hu)))).pt (px_sl (px_var 1) pp_none (pp_some (px_un px_int po_neg))) (px_var 1))) (su_cons (st_asgLc 3 sc_law_due.nd (plc (own := [("_law_at", 4)]) (is := [4]) (blkOk_by (by rfl)) (by decide) (xi_range1 T.range (pa_cons (px_callB T.len (pa_cons (px_var 2) pa_nil) po_len) pa_nil)) (fun s H C cl fp => (xg_name 4 sc_law_due.nd)) (.inr ⟨_, rfl, fun s H C cl fp => (pw_or (pt_cmp (px_var 4) px_int (po_eq hr.hu)) (pw_one (pt_not (pt_val (px_call D_law_is_text hr Ev.takes0 (pa_cons (px_ix (px_var 2) (px_var 4) (pix_std hr.hu1)) pa_nil)) pob_std)))).pt⟩) (fun s H C cl fp => (px_var 4)))) (su_cons (st_if (pt_cmp (px_var 3) (px_lst pa_nil) (po_ne hr.hu))
    (su_cons (st_ret (px_tup (pa_cons px_str (pa_cons px_int (pa_cons (px_ix (px_var 3) px_int (pix_std hr.hu1)) pa_nil))))) su_nil)
    su_nil) (su_cons (st_ret (px_ifx (pt_cmp (px_callB T.len (pa_cons (px_var 2) pa_nil) po_len) (px_callB T.len (pa_cons (px_var 1) pa_nil) po_len) po_lt) (px_lst (pa_cons (px_call D_law_all_sorted hr takesB (pa_cons (px_var 2) pa_nil)) pa_nil)) (px_tup (pa_cons px_str (pa_cons px_int (pa_cons (px_callB T.len (pa_cons (px_var 2) pa_nil) po_len) pa_nil)))))) su_nil))))))) (by decide +kernel) f_law_due
end
end K14
-- k14f7
namespace K14
open PySem L2 Ev
local macro_rules | `(tactic| walk_at "e1") => `(tactic| with_reducible first
  | refine r_seq ?_ | refine r_bin ?_ | refine r_skip ?_ | refine r_asg ?_ | refine r_ret ?_ | refine r_ifs ?_ | refine r_con ?_
  | refine r_cons ?_ | refine r_nil ?_ | refine r_exb ?_ | refine r_exi ?_ | refine r_exs ?_ | refine r_tt ?_ | refine r_ff ?_ | refine r_nt ?_ | refine r_sw ?_
  | refine r_un ?_ | refine r_call ?_ | refine r_fn ?_ | refine r_test ?_ | refine r_notT ?_ | refine r_andT ?_ | refine r_orT ?_ | refine r_and ?_ | refine r_or ?_ | refine r_not ?_ | refine r_ifx ?_
  | refine r_tup ?_ | refine r_lst ?_ | refine r_tru_b ?_ | refine r_tru_i ?_ | refine r_tru_n ?_ | refine r_tru_l ?_ | refine r_tru_t ?_
  | refine r_add_ii ?_ | refine r_add_ib ?_ | refine r_sub ?_ | refine r_lt ?_ | refine r_le_ii ?_ | refine r_gt ?_ | refine r_ge ?_ | refine r_eq_i ?_ | refine r_eq_s ?_ | refine r_eq_b ?_ | refine r_eq_n ?_ | refine r_ne_i ?_ | refine r_ne_s ?_ | refine r_ne_b ?_ | refine r_in_s ?_ | refine r_nin_s ?_ | refine r_neg ?_ | refine r_lt_s ?_
  | refine r_sl ?_ | refine r_sl_l ?_ | refine r_sl_t ?_ | refine r_no ?_ | refine r_some ?_
  | refine r_len_l ?_ | refine r_len_t ?_ | refine r_len_d ?_ | refine r_int_i ?_ | refine r_int_b ?_ | refine r_abs ?_ | refine r_bool_i ?_ | refine r_bool_b ?_ | refine r_str_s ?_ | refine r_list_l ?_ | refine r_list_t ?_ | refine r_tuple_l ?_ | refine r_tuple_t ?_ | refine r_all ?_ | refine r_any ?_ | refine r_sum ?_ | refine r_max2 ?_ | refine r_min2 ?_
  | refine r_bm ?_ | refine r_tyS ?_ | refine r_tyL ?_ | refine r_tyD ?_ | refine r_count ?_ | refine r_meth ?_ | refine r_stat ?_ | refine r_cm ?_ | refine r_iscls ?_ | refine r_mk ?_ | refine r_mkE ?_ | refine r_mkM ?_ | refine r_hear ?_ | refine r_statK ?_ | refine r_methK ?_ | refine r_cmK ?_ | refine r_mkKw ?_
  | refine r_pass ?_ | refine r_break ?_ | refine r_cont ?_ | refine r_retN ?_ | refine r_drop ?_ | refine r_par ?_ | refine r_ex2 ?_ | refine r_raise1 ?_ | refine r_raise2 ?_ | refine r_try ?_ | refine r_unp ?_ | refine r_addI_i ?_ | refine r_isB ?_ | refine r_notB ?_ | refine r_rev ?_ | refine r_rev_l ?_ | refine r_fst ?_
  | refine r_gNm ?_ | refine r_gNil ?_ | refine r_gCons ?_ | refine r_for ?_ | refine r_it ?_ | refine r_it_l ?_ | refine r_it_t ?_ | refine r_it_s ?_ | refine r_rg1 ?_ | refine r_rg2 ?_ | refine r_lc ?_ | refine r_yes ?_ | refine r_chain0 ?_ | refine r_fstr ?_ | refine r_lc0 ?_ | refine r_lc1 ?_ | refine r_for0 ?_ | refine r_for1 ?_ | refine r_j0 ?_ | refine r_j1 ?_ | refine r_fm ?_)
local macro_rules | `(tactic| walk_at "e2") => `(tactic| first
  | ((with_reducible apply r_var); exact rfl)
  | ((with_reducible apply r_ar); exact rfl)
  | ((with_reducible apply r_ar1); exact rfl)
  | ((with_reducible apply r_le); focus (first | decide | (simp only [List.length_cons, List.length_nil]; decide)))
  | ((with_reducible apply r_is_t); exact rfl)
  | ((with_reducible apply r_is_f); exact rfl)
  | ((with_reducible apply r_isnt_t); exact rfl)
  | ((with_reducible apply r_isnt_f); exact rfl)
  | ((with_reducible apply r_isi_t); exact rfl; exact rfl)
  | ((with_reducible apply r_isi_f); exact rfl; exact rfl)
  | ((with_reducible apply r_fld); exact rfl; exact rfl; focus decide)
  | ((with_reducible apply r_recv); exact rfl; exact rfl)
  | ((with_reducible apply r_prop); exact rfl)
  | ((with_reducible apply r_ownS); exact rfl; exact rfl)
  | ((with_reducible apply r_own); exact rfl; exact rfl; focus decide)
  | ((with_reducible apply Or.inl); (with_reducible apply r_ownS); exact rfl; exact rfl)
  | ((with_reducible apply Or.inr); (with_reducible apply r_own); exact rfl; exact rfl; focus decide)
  | ((with_reducible apply r_ownC_o); exact rfl; exact rfl; focus decide)
  | ((with_reducible apply r_ownC_t); exact rfl; exact rfl; (focus decide); (focus decide))
  | ((with_reducible apply r_aug); exact rfl)
  | ((with_reducible apply r_ownRS); exact rfl)
  | ((with_reducible apply r_cval); focus (exact List.mem_cons_self))
  | ((with_reducible apply r_ownD_o); exact rfl; exact rfl; focus decide)
  | ((with_reducible apply r_ownD_t); exact rfl; exact rfl; (focus decide))
  | ((with_reducible apply r_ownNeD_o); exact rfl; exact rfl; focus decide)
  | ((with_reducible apply r_ownNeD_t); exact rfl; exact rfl; (focus decide))
  | ((with_reducible apply r_own1); exact rfl)
  | ((with_reducible apply r_ownB); exact rfl)
  | ((with_reducible apply r_ownN); exact rfl)
  | ((with_reducible apply r_ownA); exact rfl)
  | ((with_reducible apply r_ownStr); exact rfl)
  | ((with_reducible apply r_ownIn); exact rfl)
  | ((with_reducible apply r_ownR); exact rfl)
  | ((with_reducible apply r_mkV); exact rfl)
  | ((with_reducible apply r_fd); exact rfl)
  | ((with_reducible apply r_xf); exact rfl; focus decide)
  | ((with_reducible apply r_isx (b := true)); (focus decide); (focus decide); exact rfl)
  | ((with_reducible apply r_isx (b := false)); (focus decide); (focus decide); exact rfl)
  | ((with_reducible apply r_ar); exact rfl)
  | ((with_reducible apply r_gTup); exact rfl)
  | ((with_reducible apply r_gLs); exact rfl)
  | ((with_reducible apply r_ix_l); exact rfl)
  | ((with_reducible apply r_ix_t); exact rfl)
  | ((with_reducible apply r_fstI); (focus decide); (focus exact Nat.le_of_ble_eq_true rfl))
  | ((with_reducible apply r_dt); (first | assumption | exact rfl | focus decide))
  | ((with_reducible apply r_df); (first | assumption | focus decide))
  | ((with_reducible apply r_partE); assumption; (focus (try walk_at "es")); (focus (try walk_at "es")))
  | ((with_reducible apply r_ct); assumption)
  | ((with_reducible apply r_cf); assumption)
  | ((with_reducible apply r_yes)))
local macro_rules | `(tactic| walk_at "e") => `(tactic| repeat' (first | walk_at "e1" | walk_at "ec" | walk_at "e2" | walk_at "e3"))
local macro_rules | `(tactic| walk_at "e0") => `(tactic| simp only [G0, List.map_cons, List.map_nil, List.length_cons, List.length_nil, List.replicate, List.cons_append, List.nil_append, Nat.reduceAdd, Nat.reduceSub, Nat.sub_zero, Nat.zero_add])
local macro_rules | `(tactic| walk_at "e3") => `(tactic| first
  | ((with_reducible apply r_fdiv); focus (try walk_at "es"))
  | ((with_reducible apply r_mod); focus (try walk_at "es"))
  | ((with_reducible apply r_mul_ii); focus (try walk_at "es"))
  | ((with_reducible apply r_mul_si); focus (try walk_at "es"))
  | ((with_reducible apply r_mul_li); focus (try walk_at "es"))
  | ((with_reducible apply r_pow); focus (try walk_at "es"))
  | ((with_reducible apply r_add_ss); focus (try walk_at "es"))
  | ((with_reducible apply r_add_ll); focus (try walk_at "es"))
  | ((with_reducible apply r_add_tt); focus (try walk_at "es"))
  | ((with_reducible apply r_tru_s); focus (try walk_at "es"))
  | ((with_reducible apply r_sl_s); focus (try walk_at "es"))
  | ((with_reducible apply r_len_s); focus (try walk_at "es"))
  | ((with_reducible apply r_part); (focus (try walk_at "es")); (focus (try walk_at "es")))
  | ((with_reducible apply r_split); (focus (try walk_at "es")); (focus (try walk_at "es")))
  | ((with_reducible apply r_join); focus (try walk_at "es"))
  | ((with_reducible apply r_exh); focus (try walk_at "es"))
  | ((with_reducible apply r_str_i); focus (try walk_at "es"))
  | ((with_reducible apply r_le); focus (try walk_at "es"))
  | ((with_reducible apply r_fm_i); focus (try walk_at "es"))
  | ((with_reducible apply r_fm_s); focus (try walk_at "es"))
  | ((with_reducible apply r_jS); focus (try walk_at "es"))
  | ((with_reducible apply r_addI_s); focus (try walk_at "es"))
  | ((with_reducible apply r_rev_s); focus (try walk_at "es"))
  | ((with_reducible apply r_listS); focus (try walk_at "es"))
  | (with_reducible apply r_is; exact rfl)
  | (with_reducible apply r_isnt; exact rfl)
  | (with_reducible refine' r_dc (fun _ => ?_) (fun _ => ?_))
  | (with_reducible refine' r_cc (fun _ => ?_) (fun _ => ?_))
  | (with_reducible intro _))
local macro_rules | `(tactic| walk_at "en") => `(tactic| simp only [List.nil_append, List.cons_append, List.append_assoc])
open SX PyProof.Rows PySem.Spec
local macro_rules | `(tactic| walk_at "still") => `(tactic| first
  | (exact Still.wd)
  | (exact Still.str (by assumption) (by assumption))
  | (exact Still.str (by first | decide | omega) (by first | decide | assumption))
  | (exact Still.mk0 (fun M => ⟨_, rfl, by intro c hc; cases hc⟩) (fun n => by simp [D.lt, D.ltL, D.ltF, D.ltK, ltL_signs]) nofun))
local macro_rules | `(tactic| walk_at "es") => `(tactic| first | assumption | decide | omega | (exact len_small ‹_›) | (simp only [List.length_cons, List.length_nil, List.length_append]; decide))
local macro_rules | `(tactic| walk_at "rd") => `(tactic| first
  | assumption | exact Rd.non | exact Rd.bl | exact RdL.nil | exact RdK.nil
  | ((with_reducible apply Rd.tup); walk_at "rd") | ((with_reducible apply Rd.lst); walk_at "rd") | ((with_reducible apply Rd.dic); walk_at "rd")
  | ((with_reducible apply RdL.cons); (focus walk_at "rd"); (focus walk_at "rd"))
  | ((with_reducible apply RdK.str); (focus (exact Nat.le_refl _)); (focus decide); (focus walk_at "rd"); (focus walk_at "rd"))
  | ((with_reducible apply Rd.str); (focus assumption); (focus assumption))
  | ((with_reducible apply Rd.str); (focus (exact Nat.le_refl _)); (focus decide))
  | ((with_reducible apply Rd.int); (focus (first | assumption | decide)))
  | ((with_reducible apply Rd.int); (focus (simp only [Int.natAbs_natCast]; exact lt_of_lt_log ‹_›)))
  | ((simp only [List.nil_append, List.cons_append, Int.reduceToNat, List.reduceReplicate, List.flatten_cons, List.flatten_nil, Int.toNat_natCast, List.length_cons, List.length_nil, Nat.reduceAdd]); walk_at "rd"))
local macro_rules | `(tactic| walk_at "ec") => `(tactic| fail "none")
local macro_rules | `(tactic| walk_at "ec") => `(tactic| first
  | (with_reducible apply r_en) | (with_reducible apply r_en_l) | (with_reducible apply r_en_t) | (with_reducible apply r_mkS) | (with_reducible apply r_spr) | (with_reducible apply r_spr_l) | (with_reducible apply r_spr_t) | (with_reducible apply r_starA) | (with_reducible apply r_lrg2)
  | ((with_reducible apply r_ownIx); (focus exact rfl)))
local macro_rules | `(tactic| walk_at "ec") => `(tactic| first
  | (with_reducible refine ⟨tyM_liC, ?_⟩)
  | ((with_reducible apply r_appendC); (focus (simp only [List.length_cons, List.length_nil, List.length_append]; decide)))
  | ((with_reducible apply r_frzC); (focus rfl); walk_at "en")
  | (with_reducible refine ⟨tyM_li, ?_⟩)
  | (with_reducible apply r_lstM)
  | ((with_reducible apply r_append); (focus (simp only [List.length_cons, List.length_nil, List.length_append]; decide)))
  | ((with_reducible apply r_frzL); (focus rfl); walk_at "en"))
local macro_rules | `(tactic| walk_at "ec") => `(tactic| first
  | ((with_reducible apply r_mkSV); (focus exact rfl))
  | (with_reducible apply r_fmO)
  | ((with_reducible apply r_splitP); (focus assumption))
  | ((with_reducible apply r_slLast); (focus assumption)))
section
variable {P : Program} {w : World} {K : PySem.W.Frag} {mg : Str → Option Value} {base : Heap} {cs : CS}
/-! ### _law_bent -/
abbrev s_law_bent : Stmt := top 41
abbrev n_law_bent : List Str := ["_law_pen_here", "_law_page_here", "_law_at", "_law_way", "_law_sign"]
theorem sc_law_bent : FnScope n_law_bent ["_law_pen_here", "_law_page_here"] (defScope s_law_bent) := ⟨rfl, rfl, rfl, by decide +kernel, rfl, by decide +kernel, by decide +kernel⟩
/-- a text of at most n signs -/
def Gd (n : Nat) (l : List Nat) : Prop := l.length ≤ n ∧ ∀ c ∈ l, c < 128
theorem Gd.app {n m : Nat} {a b : List Nat} (h : Gd n a) (k : Gd m b) : Gd (n + m) (a ++ b) := ⟨by rw [List.length_append]; have := h.1; have := k.1; omega, fun c hc => (List.mem_append.mp hc).elim (h.2 c) (k.2 c)⟩
theorem Gd.take {n : Nat} {a : List Nat} (h : Gd n a) (i : Nat) : Gd n (a.take i) := ⟨by rw [List.length_take]; have := h.1; omega, fun c hc => h.2 c (List.mem_of_mem_take hc)⟩
theorem Gd.drop {n : Nat} {a : List Nat} (h : Gd n a) (i : Nat) : Gd n (a.drop i) := ⟨by rw [List.length_drop]; have := h.1; omega, fun c hc => h.2 c (List.mem_of_mem_drop hc)⟩
theorem Gd.up {n m : Nat} {a : List Nat} (h : Gd n a) (k : n ≤ m) : Gd m a := ⟨Nat.le_trans h.1 k, h.2⟩
def S_law_bent : SpX := fun ds M post _ => ∃ n l, ds = [.pen, .str (S l)] ∧ Gd n l ∧ n ≤ 1000 ∧ ∀ l', Gd (2 * n + 3) l' → post (.str (S l')) M
theorem c_bent {n : Nat} {l : List Nat} {M : Store} {post : DP} {xp : XP} (h : Gd n l) (hn : n ≤ 1000) (hp : ∀ l', Gd (2 * n + 3) l' → post (.str (S l')) M) : S_law_bent [.pen, .str (S l)] M post xp := ⟨n, l, rfl, h, hn, hp⟩
theorem r_add_SS {a b : List Nat} {M : Store} {post : DP} {xp : XP} (h : a.length + b.length ≤ 16777216) (q : post (.str (S (a ++ b))) M) : tAdd (.str (S a)) (.str (S b)) M post xp := r_add_ss (by rw [S_len, S_len]; exact h) (by rw [S_cat]; exact q)
theorem r_sl_to {a : List Nat} {k : Int} {M : Store} {post : DP} (h0 : 0 ≤ k) (h : a.length ≤ 16777216) (q : post (.str (S (a.take k.toNat))) M) : slK (.str (S a)) none (some k) post M := r_sl_s (by show _ ≤ 16777216; rw [S_len]; exact h) (by rw [C8.cutS_slice, slice_to h0]; exact q)
theorem r_sl_from {a : List Nat} {k : Int} {M : Store} {post : DP} (h0 : 0 ≤ k) (h : a.length ≤ 16777216) (q : post (.str (S (a.drop k.toNat))) M) : slK (.str (S a)) (some k) none post M := r_sl_s (by show _ ≤ 16777216; rw [S_len]; exact h) (by rw [C8.cutS_slice, slice_from h0]; exact q)
theorem r_len_S {a : List Nat} {M : Store} {post : DP} {xp : XP} (h : a.length ≤ 16777216) (q : post (.int a.length) M) : tLen [.str (S a)] M post xp := r_len_s (by show _ ≤ 16777216; rw [S_len]; exact h) (by rw [S_len]; exact q)
def gdB (n : Nat) (l : List Nat) : Bool := decide (l.length ≤ n) && l.all fun c => decide (c < 128)
theorem Gd.lit {n : Nat} {l : List Nat} (h : gdB n l = true) : Gd n l := by
  unfold gdB at h
  rw [Bool.and_eq_true] at h
  exact ⟨of_decide_eq_true h.1, fun c hc => of_decide_eq_true (List.all_eq_true.mp h.2 c hc)⟩
local macro_rules | `(tactic| walk_at "ec") => `(tactic| first
  | ((with_reducible apply r_sl_to); (focus (first | assumption | omega)); (focus (first | assumption | omega)))
  | ((with_reducible apply r_sl_from); (focus (first | assumption | omega)); (focus (first | assumption | omega)))
  | ((with_reducible apply r_len_S); (focus (first | assumption | omega)))
  | ((with_reducible apply r_add_SS); (focus (simp only [List.length_append, List.length_take, List.length_drop, List.length_cons, List.length_nil]; omega))))
local macro_rules | `(tactic| walk_at "gd") => `(tactic| first
  | assumption
  | ((with_reducible apply Gd.app); (focus walk_at "gd"); (focus walk_at "gd"))
  | ((with_reducible apply Gd.take); (focus walk_at "gd"))
  | ((with_reducible apply Gd.drop); (focus walk_at "gd")))
def tf_law_bent : TfS := (tSeq (tPar 2 3 (tCons (tFn 2 S_law_draw (tCons (tVar 0) (tCons (tBin (tCall (tCons (tVar 1) tNil) tLen) (tCon (.int 1)) tAdd) tNil))) (tCons (tFn 2 S_law_draw (tCons (tVar 0) (tCons (tCon (.int 5)) tNil))) tNil)))
    (tSeq (tAsg 4 (tFn 2 S_law_pick (tCons (tVar 0) (tCons (tLst (tCons (tCon (.str (SX.S [124]))) (tCons (tCon (.str (SX.S [124]))) (tCons (tCon (.str (SX.S [97]))) (tCons (tCon (.str (SX.S [100]))) (tCons (tCon (.str (SX.S [32]))) (tCons (tCon (.str (SX.S [45]))) (tCons (tCon (.str (SX.S [10]))) (tCons (tCon (.str (SX.S [124, 124]))) (tCons (tCon (.str (SX.S []))) (tCons (tCon (.str (SX.S [66]))) (tCons (tCon (.str (SX.S [97, 98, 99]))) (tCons (tCon (.str (SX.S [47]))) tNil))))))))))))) tNil))))
    (tSeq (tIf ((tBin (tVar 3) (tCon (.int 0)) tEq).bl)
    (tSeq (tRet (tBin (tSl (tVar 1) tNo (tSome (tVar 2))) (tSl (tVar 1) (tSome (tBin (tVar 2) (tCon (.int 1)) tAdd)) tNo) tAdd))
    tSkip)
    tSkip)
    (tSeq (tIf ((tBin (tVar 3) (tCon (.int 1)) tEq).bl)
    (tSeq (tRet (tBin (tBin (tSl (tVar 1) tNo (tSome (tVar 2))) (tVar 4) tAdd) (tSl (tVar 1) (tSome (tBin (tVar 2) (tCon (.int 1)) tAdd)) tNo) tAdd))
    tSkip)
    tSkip)
    (tSeq (tIf ((tBin (tVar 3) (tCon (.int 2)) tEq).bl)
    (tSeq (tRet (tSl (tVar 1) tNo (tSome (tVar 2))))
    tSkip)
    tSkip)
    (tSeq (tRet (tIfx (tBin (tVar 3) (tCon (.int 3)) tEq).bl (tBin (tBin (tSl (tVar 1) tNo (tSome (tVar 2))) (tVar 4) tAdd) (tSl (tVar 1) (tSome (tVar 2)) tNo) tAdd) (tBin (tSl (tVar 1) tNo (tSome (tVar 2))) (tVar 1) tAdd)))
    tSkip))))))
theorem f_law_bent : ∀ (ds : List D) (M : Store) (post : DP) (xp : XP), ds.length = 2 → S_law_bent ds M post xp → tf_law_bent (G0 n_law_bent ds) M { nx := fun _ M' => post .non M', rt := post, xx := fun _ => xp } := by
  rintro ds M post xp - ⟨n, l, rfl, hg, hn, hp⟩ <;> unfold tf_law_bent n_law_bent <;> walk_at "e0"
  have hl := hg.1
  have hl2 : l.length ≤ 16777216 := by omega
  walk_at "e"
  refine r_draw (by omega) (by have := len200 (n := l.length + 1) (by omega); simpa using this) fun i i0 i1 => ?_
  walk_at "e"
  refine r_draw (by decide) (by decide) fun w w0 w1 => ?_
  walk_at "e"
  refine c_pick (by simp only [List.length_cons, List.length_nil]; decide) (by simp only [List.length_cons, List.length_nil]; decide) fun d hd => ?_
  have hd : ∃ s, d = .str (S s) ∧ Gd 3 s := by
    simp only [List.mem_cons, List.not_mem_nil, or_false] at hd
    rcases hd with rfl | rfl | rfl | rfl | rfl | rfl | rfl | rfl | rfl | rfl | rfl | rfl <;> exact ⟨_, rfl, Gd.lit (by decide +kernel)⟩
  obtain ⟨s, rfl, hs⟩ := hd
  have hs1 := hs.1
  walk_at "e"
  all_goals (refine hp _ ?_; apply Gd.up; (focus walk_at "gd"); omega)
theorem ok_law_bent {f : Addr} {fd : FuncData} (F : Fun K "_law_bent" "_law_bent" s_law_bent f fd) (T : TX mg cs)
    (D_law_draw : FnD P w K mg base cs 1 "_law_draw" 2 1 S_law_draw)
    (D_law_pick : FnD P w K mg base cs 2 "_law_pick" 2 1 S_law_pick) : FnG P w K mg base (L2.CX P w) 3 f fd ["_law_pen_here", "_law_page_here"] (spN cs 2 3 S_law_bent) :=
  Ev.fn_of F sc_law_bent rfl (by decide) (fun cdv A outer s H E hr => (su_cons (st_par 2 3 sc_law_bent.nd (by decide) (pa_cons (px_call D_law_draw hr takesB (pa_cons (px_var 0) (pa_cons (px_bin (px_callB T.len (pa_cons (px_var 1) pa_nil) po_len) px_int po_add) pa_nil))) (pa_cons (px_call D_law_draw hr takesB (pa_cons (px_var 0) (pa_cons px_int pa_nil))) pa_nil))) (su_cons (st_asg 4 sc_law_bent.nd (px_call D_law_pick hr takesB (pa_cons (px_var 0) (pa_cons (px_lst (pa_cons px_str (pa_cons px_str (pa_cons px_str (pa_cons px_str (pa_cons px_str (pa_cons px_str (pa_cons px_str (pa_cons px_str (pa_cons px_str (pa_cons px_str (pa_cons px_str (pa_cons px_str pa_nil))))))))))))) pa_nil)))) (su_cons (st_if (pt_cmp (px_var 3) px_int (po_eq hr.hu))
    (su_cons (st_ret (px_bin (px_sl (px_var 1) pp_none (pp_some (px_var 2))) (px_sl (px_var 1) (pp_some (px_bin (px_var 2) px_int po_add)) pp_none) po_add)) su_nil)
    su_nil) (su_cons (st_if (pt_cmp (px_var 3) px_int (po_eq hr.hu))
    (su_cons (st_ret (px_bin (px_bin (px_sl (px_var 1) pp_none (pp_some (px_var 2))) (px_var 4) po_add) (px_sl (px_var 1) (pp_some (px_bin (px_var 2) px_int po_add)) pp_none) po_add)) su_nil)
    su_nil) (su_cons (st_if (pt_cmp (px_var 3) px_int (po_eq hr.hu))
    (su_cons (st_ret (px_sl (px_var 1) pp_none (pp_some (px_var 2)))) su_nil)
    su_nil) (su_cons (st_ret (px_ifx (pt_cmp (px_var 3) px_int (po_eq hr.hu)) (px_bin (px_bin (px_sl (px_var 1) pp_none (pp_some (px_var 2))) (px_var 4) po_add) (px_sl (px_var 1) (pp_some (px_var 2)) pp_none) po_add) (px_bin (px_sl (px_var 1) pp_none (pp_some (px_var 2))) (px_var 1) po_add))) su_nil))))))) (by decide +kernel) f_law_bent
/-! ### _law_read_right -/
abbrev s_law_read_right : Stmt := top 42
abbrev n_law_read_right : List Str := ["_law_page_here", "_law_heard_here"]
theorem sc_law_read_right : FnScope n_law_read_right ["_law_page_here"] (defScope s_law_read_right) := ⟨rfl, rfl, rfl, by decide +kernel, rfl, by decide +kernel, by decide +kernel⟩
def S_law_read_right : SpX := fun ds M post _ => ∃ l, ds = [.str (S l)] ∧ Gd 1000 l ∧ ∀ M', post (.bl true) M'
theorem c_rr {l : List Nat} {M : Store} {post : DP} {xp : XP} (h : Gd 1000 l) (hp : ∀ M', post (.bl true) M') : S_law_read_right [.str (S l)] M post xp := ⟨l, rfl, h, hp⟩
theorem cases_rd (l : List Nat) (hl : l.length ≤ 1000) : (∃ us, TxO us ∧ dueD l = .lst [.lst (strsD (us.map canon))] ∧ ∀ okP xP, okP us → rdP l okP xP) ∨ ∃ k : Nat, k ≤ 1001 ∧ dueD l = textX (.int 0) (.int k) ∧ ∀ okP xP, xP k → rdP l okP xP := by
  have htl := txs_len l
  by_cases h : l = [45]
  · exact .inl ⟨[], ⟨by decide, nofun⟩, by unfold dueD; rw [if_pos h]; rfl, fun okP xP z => ⟨fun _ => z, fun y => absurd h y⟩⟩
  · cases hw : wrongAt (txs l) with
    | some k =>
      refine .inr ⟨k, ?_, by unfold dueD; rw [if_neg h, hw], fun okP xP z => ⟨fun y => absurd y h, fun _ => ⟨fun j e => by rw [hw] at e; cases e; exact z, fun e => (by rw [hw] at e; cases e), fun e => (by rw [hw] at e; cases e)⟩⟩⟩
      have := (List.find?_range_eq_some.mp hw).2.1
      have := List.mem_range.mp this
      omega
    | none =>
      cases hE : isEnd (prt l) with
      | true => exact .inl ⟨txs l, of_wrong_none hw, by unfold dueD; rw [if_neg h, hw, hE]; rfl, fun okP xP z => ⟨fun y => absurd y h, fun _ => ⟨fun j e => (by rw [hw] at e; cases e), fun _ _ => z, fun _ e => (by rw [hE] at e; cases e)⟩⟩⟩
      | false => exact .inr ⟨(txs l).length, by omega, by unfold dueD; rw [if_neg h, hw, hE]; rfl, fun okP xP z => ⟨fun y => absurd y h, fun _ => ⟨fun j e => (by rw [hw] at e; cases e), fun _ e => (by rw [hE] at e; cases e), fun _ _ => z⟩⟩⟩
theorem rdL_strs : ∀ us : List (List Nat), (∀ t ∈ us, t.length ≤ 8 ∧ ∀ c ∈ t, c < 128) → RdL (84 * us.length) 0 (strsD us)
  | [], _ => RdL.nil
  | t :: us, h => by
    have ih := rdL_strs us fun u hu => h u (List.mem_cons_of_mem _ hu)
    have h1 := h t List.mem_cons_self
    have := RdL.cons (Rd.str (n := 8) h1.1 h1.2) ih
    have e : 10 * 8 + 2 + 84 * us.length + 2 = 84 * (t :: us).length := by rw [List.length_cons]; omega
    rw [e] at this
    exact this
theorem rd_us {us : List (List Nat)} (h : TxO us) : Rd 1100 2 (.lst [.lst (strsD us)]) := by
  have h1 := rdL_strs us fun t ht => ⟨h.len8 t ht, h.asc t ht⟩
  exact Rd.up (Rd.lst (RdL.cons (Rd.lst h1) RdL.nil)) (by have := h.1; omega) (by decide)
theorem rd_due {l : List Nat} (hl : l.length ≤ 1000) : Rd 4000 2 (dueD l) := by
  rcases cases_rd l hl with ⟨us, h, e, -⟩ | ⟨k, h, e, -⟩
  · rw [e]; exact Rd.up (rd_us h.canon) (by decide) (by decide)
  · rw [e]
    have hk : ((k : Nat) : Int).natAbs.log2 < 1920 := by rw [Int.natAbs_natCast]; exact lt_of_lt_log h
    exact Rd.up (by walk_at "rd") (by decide) (by decide)
def tf_law_read_right : TfS := (tSeq (tAsg 1 (tLst (tCons (tHear S_law_heard (tFn 1 S_law_told (tCons (tCm 10 2 S_Row_read (tCon (.cls 10)) (tCons (tVar 0) tNil)) tNil))) (tCons (tHear S_law_heard (tFn 1 S_law_told (tCons (tCmK 10 2 1 [0] S_Row_read (tCon (.cls 10)) (tCons (tVar 0) tNil)) tNil))) tNil))))
    (tSeq (tRet (tBin (tCall (tCons (tVar 1) tNil) tReprR) (tCall (tCons (tBin (tLst (tCons (tFn 1 S_law_due (tCons (tVar 0) tNil)) tNil)) (tCon (.int 2)) tMul) tNil) tReprR) tEq))
    tSkip))
theorem f_law_read_right : ∀ (ds : List D) (M : Store) (post : DP) (xp : XP), ds.length = 1 → S_law_read_right ds M post xp → tf_law_read_right (G0 n_law_read_right ds) M { nx := fun _ M' => post .non M', rt := post, xx := fun _ => xp } := by
  rintro ds M post xp - ⟨l, rfl, hg, hp⟩ <;> unfold tf_law_read_right n_law_read_right <;> walk_at "e0"
  obtain ⟨hl, hc⟩ := hg
  have hr := rd_due hl
  have hr2 : Rd 12000 3 (.lst [dueD l, dueD l]) := Rd.up (Rd.lst (RdL.cons hr (RdL.cons hr RdL.nil))) (by decide) (by decide)
  have hrefl : shw (.lst [dueD l, dueD l]) = shw (.lst [dueD l, dueD l]) := rfl
  have fin : ∀ M' : Store, (tSeq (tRet (tBin (tCall (tCons (tVar 1) tNil) tReprR) (tCall (tCons (tBin (tLst (tCons (tFn 1 S_law_due (tCons (tVar 0) tNil)) tNil)) (tCon (.int 2)) tMul) tNil) tReprR) tEq)) tSkip) [some (.str (S l)), some (.lst [dueD l, dueD l])] M' { nx := fun _ M' => post .non M', rt := post, xx := fun _ => xp } := fun M' => by
    walk_at "e"
    refine r_reprR hr2 (by decide) (by decide) ?_
    walk_at "e"
    refine c_due hl hc ?_
    walk_at "e"
    rw [show (List.replicate (Int.toNat 2) [dueD l]).flatten = [dueD l, dueD l] from rfl]
    refine r_reprR hr2 (by decide) (by decide) ?_
    walk_at "e"
    rw [decide_eq_true rfl]
    exact hp _
  walk_at "e"
  rcases cases_rd l hl with ⟨us, h, e, g⟩ | ⟨k, h, e, g⟩
  · rw [e] at fin
    refine heard_v (d := .lst (strsD (us.map canon))) ?_ fun p x hv => ?_
    · walk_at "e"
      refine heard_v (d := .lst (strsD (us.map canon))) (r_nil ⟨by simp only [List.length_cons, List.length_nil]; decide, fin _⟩) fun p x hv => ?_
      walk_at "e"
      refine c_read (by omega) hc (g _ _ fun a ps hps => ?_)
      have : ps.length ≤ 12 := by have := congrArg List.length hps; simp only [List.length_map] at this; have := h.1; omega
      walk_at "e"
      refine c_told (by omega) ?_
      rw [hps]; exact hv
    · walk_at "e"
      refine c_read (by omega) hc (g _ _ fun a ps hps => ?_)
      have : ps.length ≤ 12 := by have := congrArg List.length hps; simp only [List.length_map] at this; have := h.1; omega
      walk_at "e"
      refine c_told (by omega) ?_
      rw [hps]; exact hv
  · rw [e] at fin
    refine heard_x (d1 := .int 0) (d2 := .int k) (fun ex => ?_) fun p x hx => ?_
    · walk_at "e"
      refine heard_x (d1 := .int 0) (d2 := .int k) (fun ex2 => r_nil ⟨by simp only [List.length_cons, List.length_nil]; decide, fin _⟩) fun p x hx => ?_
      walk_at "e"
      exact c_read (by omega) hc (g _ _ hx)
    · walk_at "e"
      exact c_read (by omega) hc (g _ _ hx)
theorem ok_law_read_right {f cc PT : Addr} {fd : FuncData} (F : FunL K "_law_read_right" "_law_read_right" s_law_read_right f fd cc) (TB : LamX.TabB base mg cc PT) (hmT : (PT, lamq "_law_read_right") ∈ cs.T) (huT : ∀ p ∈ cs.T, p.1 = PT → p.2 = lamq "_law_read_right") (T : TX mg cs)
    (D_law_heard : HrD P w K mg base cs 0 "_law_heard" 0 0 S_law_heard)
    (D_law_told : FnD P w K mg base cs 1 "_law_told" 1 0 S_law_told)
    (D_Row_read : CmD P w K mg base cs 8 10 "read" 2 0 S_Row_read)
    (D_law_due : FnD P w K mg base cs 3 "_law_due" 1 0 S_law_due)
    (KD_Row_read_text : CmK P w K mg base cs 8 10 "read" 2 0 S_Row_read ["text"] [0]) : FnG P w K mg base (L2.CX P w) 11 f fd ["_law_page_here"] (spN cs 1 0 S_law_read_right) :=
  Ev.fn_ofL F sc_law_read_right rfl (by decide) (fun A outer s H E hr => (su_cons (st_asg 1 sc_law_read_right.nd (px_lst (pa_cons (px_hearQ (kL := 8) (ql := ("_law_read_right" : Str) ++ ".<locals>.") D_law_heard hr takesB TB (by exact hmT) (by exact huT) (by exact fun A outer s H E f c hr2 => px_le (px_call D_law_told hr2 takesL (pa_cons (px_cmeth D_Row_read hr2 takesL (px_gclsM 10 T.c_Row) (pa_cons (px_var 0) pa_nil)) pa_nil)) (by decide))) (pa_cons (px_hearQ (kL := 8) (ql := ("_law_read_right" : Str) ++ ".<locals>.") D_law_heard hr takesB TB (by exact hmT) (by exact huT) (by exact fun A outer s H E f c hr2 => px_le (px_call D_law_told hr2 takesL (pa_cons (px_cmethK KD_Row_read_text hr2 takesL (px_gclsM 10 T.c_Row) (pxk_cons (px_var 0) pxk_nil)) pa_nil)) (by decide))) pa_nil)))) (su_cons (st_ret (px_cmp (px_callB T.repr (pa_cons (px_var 1) pa_nil) ((po_reprR hr))) (px_callB T.repr (pa_cons (px_bin (px_lst (pa_cons (px_call D_law_due hr takesB (pa_cons (px_var 0) pa_nil)) pa_nil)) px_int po_mul) pa_nil) ((po_reprR hr))) (po_eq hr.hu))) su_nil))) (by decide +kernel) f_law_read_right
end
end K14
-- k14f8
namespace K14
open PySem L2 Ev
local macro_rules | `(tactic| walk_at "e1") => `(tactic| with_reducible first
  | refine r_seq ?_ | refine r_bin ?_ | refine r_skip ?_ | refine r_asg ?_ | refine r_ret ?_ | refine r_ifs ?_ | refine r_con ?_
  | refine r_cons ?_ | refine r_nil ?_ | refine r_exb ?_ | refine r_exi ?_ | refine r_exs ?_ | refine r_tt ?_ | refine r_ff ?_ | refine r_nt ?_ | refine r_sw ?_
  | refine r_un ?_ | refine r_call ?_ | refine r_fn ?_ | refine r_test ?_ | refine r_notT ?_ | refine r_andT ?_ | refine r_orT ?_ | refine r_and ?_ | refine r_or ?_ | refine r_not ?_ | refine r_ifx ?_
  | refine r_tup ?_ | refine r_lst ?_ | refine r_tru_b ?_ | refine r_tru_i ?_ | refine r_tru_n ?_ | refine r_tru_l ?_ | refine r_tru_t ?_
  | refine r_add_ii ?_ | refine r_add_ib ?_ | refine r_sub ?_ | refine r_lt ?_ | refine r_le_ii ?_ | refine r_gt ?_ | refine r_ge ?_ | refine r_eq_i ?_ | refine r_eq_s ?_ | refine r_eq_b ?_ | refine r_eq_n ?_ | refine r_ne_i ?_ | refine r_ne_s ?_ | refine r_ne_b ?_ | refine r_in_s ?_ | refine r_nin_s ?_ | refine r_neg ?_ | refine r_lt_s ?_
  | refine r_sl ?_ | refine r_sl_l ?_ | refine r_sl_t ?_ | refine r_no ?_ | refine r_some ?_
  | refine r_len_l ?_ | refine r_len_t ?_ | refine r_len_d ?_ | refine r_int_i ?_ | refine r_int_b ?_ | refine r_abs ?_ | refine r_bool_i ?_ | refine r_bool_b ?_ | refine r_str_s ?_ | refine r_list_l ?_ | refine r_list_t ?_ | refine r_tuple_l ?_ | refine r_tuple_t ?_ | refine r_all ?_ | refine r_any ?_ | refine r_sum ?_ | refine r_max2 ?_ | refine r_min2 ?_
  | refine r_bm ?_ | refine r_tyS ?_ | refine r_tyL ?_ | refine r_tyD ?_ | refine r_count ?_ | refine r_meth ?_ | refine r_stat ?_ | refine r_cm ?_ | refine r_iscls ?_ | refine r_mk ?_ | refine r_mkE ?_ | refine r_mkM ?_ | refine r_hear ?_ | refine r_statK ?_ | refine r_methK ?_ | refine r_cmK ?_ | refine r_mkKw ?_
  | refine r_pass ?_ | refine r_break ?_ | refine r_cont ?_ | refine r_retN ?_ | refine r_drop ?_ | refine r_par ?_ | refine r_ex2 ?_ | refine r_raise1 ?_ | refine r_raise2 ?_ | refine r_try ?_ | refine r_unp ?_ | refine r_addI_i ?_ | refine r_isB ?_ | refine r_notB ?_ | refine r_rev ?_ | refine r_rev_l ?_ | refine r_fst ?_
  | refine r_gNm ?_ | refine r_gNil ?_ | refine r_gCons ?_ | refine r_for ?_ | refine r_it ?_ | refine r_it_l ?_ | refine r_it_t ?_ | refine r_it_s ?_ | refine r_rg1 ?_ | refine r_rg2 ?_ | refine r_lc ?_ | refine r_yes ?_ | refine r_chain0 ?_ | refine r_fstr ?_ | refine r_lc0 ?_ | refine r_lc1 ?_ | refine r_for0 ?_ | refine r_for1 ?_ | refine r_j0 ?_ | refine r_j1 ?_ | refine r_fm ?_)
local macro_rules | `(tactic| walk_at "e2") => `(tactic| first
  | ((with_reducible apply r_var); exact rfl)
  | ((with_reducible apply r_ar); exact rfl)
  | ((with_reducible apply r_ar1); exact rfl)
  | ((with_reducible apply r_le); focus (first | decide | (simp only [List.length_cons, List.length_nil]; decide)))
  | ((with_reducible apply r_is_t); exact rfl)
  | ((with_reducible apply r_is_f); exact rfl)
  | ((with_reducible apply r_isnt_t); exact rfl)
  | ((with_reducible apply r_isnt_f); exact rfl)
  | ((with_reducible apply r_isi_t); exact rfl; exact rfl)
  | ((with_reducible apply r_isi_f); exact rfl; exact rfl)
  | ((with_reducible apply r_fld); exact rfl; exact rfl; focus decide)
  | ((with_reducible apply r_recv); exact rfl; exact rfl)
  | ((with_reducible apply r_prop); exact rfl)
  | ((with_reducible apply r_ownS); exact rfl; exact rfl)
  | ((with_reducible apply r_own); exact rfl; exact rfl; focus decide)
  | ((with_reducible apply Or.inl); (with_reducible apply r_ownS); exact rfl; exact rfl)
  | ((with_reducible apply Or.inr); (with_reducible apply r_own); exact rfl; exact rfl; focus decide)
  | ((with_reducible apply r_ownC_o); exact rfl; exact rfl; focus decide)
  | ((with_reducible apply r_ownC_t); exact rfl; exact rfl; (focus decide); (focus decide))
  | ((with_reducible apply r_aug); exact rfl)
  | ((with_reducible apply r_ownRS); exact rfl)
  | ((with_reducible apply r_cval); focus (exact List.mem_cons_self))
  | ((with_reducible apply r_ownD_o); exact rfl; exact rfl; focus decide)
  | ((with_reducible apply r_ownD_t); exact rfl; exact rfl; (focus decide))
  | ((with_reducible apply r_ownNeD_o); exact rfl; exact rfl; focus decide)
  | ((with_reducible apply r_ownNeD_t); exact rfl; exact rfl; (focus decide))
  | ((with_reducible apply r_own1); exact rfl)
  | ((with_reducible apply r_ownB); exact rfl)
  | ((with_reducible apply r_ownN); exact rfl)
  | ((with_reducible apply r_ownA); exact rfl)
  | ((with_reducible apply r_ownStr); exact rfl)
  | ((with_reducible apply r_ownIn); exact rfl)
  | ((with_reducible apply r_ownR); exact rfl)
  | ((with_reducible apply r_mkV); exact rfl)
  | ((with_reducible apply r_fd); exact rfl)
  | ((with_reducible apply r_xf); exact rfl; focus decide)
  | ((with_reducible apply r_isx (b := true)); (focus decide); (focus decide); exact rfl)
  | ((with_reducible apply r_isx (b := false)); (focus decide); (focus decide); exact rfl)
  | ((with_reducible apply r_ar); exact rfl)
  | ((with_reducible apply r_gTup); exact rfl)
  | ((with_reducible apply r_gLs); exact rfl)
  | ((with_reducible apply r_ix_l); exact rfl)
  | ((with_reducible apply r_ix_t); exact rfl)
  | ((with_reducible apply r_fstI); (focus decide); (focus exact Nat.le_of_ble_eq_true rfl))
  | ((with_reducible apply r_dt); (first | assumption | exact rfl | focus decide))
  | ((with_reducible apply r_df); (first | assumption | focus decide))
  | ((with_reducible apply r_partE); assumption; (focus (try walk_at "es")); (focus (try walk_at "es")))
  | ((with_reducible apply r_ct); assumption)
  | ((with_reducible apply r_cf); assumption)
  | ((with_reducible apply r_yes)))
local macro_rules | `(tactic| walk_at "e") => `(tactic| repeat' (first | walk_at "e1" | walk_at "ec" | walk_at "e2" | walk_at "e3"))
local macro_rules | `(tactic| walk_at "e0") => `(tactic| simp only [G0, List.map_cons, List.map_nil, List.length_cons, List.length_nil, List.replicate, List.cons_append, List.nil_append, Nat.reduceAdd, Nat.reduceSub, Nat.sub_zero, Nat.zero_add])
local macro_rules | `(tactic| walk_at "e3") => `(tactic| first
  | ((with_reducible apply r_fdiv); focus (try walk_at "es"))
  | ((with_reducible apply r_mod); focus (try walk_at "es"))
  | ((with_reducible apply r_mul_ii); focus (try walk_at "es"))
  | ((with_reducible apply r_mul_si); focus (try walk_at "es"))
  | ((with_reducible apply r_mul_li); focus (try walk_at "es"))
  | ((with_reducible apply r_pow); focus (try walk_at "es"))
  | ((with_reducible apply r_add_ss); focus (try walk_at "es"))
  | ((with_reducible apply r_add_ll); focus (try walk_at "es"))
  | ((with_reducible apply r_add_tt); focus (try walk_at "es"))
  | ((with_reducible apply r_tru_s); focus (try walk_at "es"))
  | ((with_reducible apply r_sl_s); focus (try walk_at "es"))
  | ((with_reducible apply r_len_s); focus (try walk_at "es"))
  | ((with_reducible apply r_part); (focus (try walk_at "es")); (focus (try walk_at "es")))
  | ((with_reducible apply r_split); (focus (try walk_at "es")); (focus (try walk_at "es")))
  | ((with_reducible apply r_join); focus (try walk_at "es"))
  | ((with_reducible apply r_exh); focus (try walk_at "es"))
  | ((with_reducible apply r_str_i); focus (try walk_at "es"))
  | ((with_reducible apply r_le); focus (try walk_at "es"))
  | ((with_reducible apply r_fm_i); focus (try walk_at "es"))
  | ((with_reducible apply r_fm_s); focus (try walk_at "es"))
  | ((with_reducible apply r_jS); focus (try walk_at "es"))
  | ((with_reducible apply r_addI_s); focus (try walk_at "es"))
  | ((with_reducible apply r_rev_s); focus (try walk_at "es"))
  | ((with_reducible apply r_listS); focus (try walk_at "es"))
  | (with_reducible apply r_is; exact rfl)
  | (with_reducible apply r_isnt; exact rfl)
  | (with_reducible refine' r_dc (fun _ => ?_) (fun _ => ?_))
  | (with_reducible refine' r_cc (fun _ => ?_) (fun _ => ?_))
  | (with_reducible intro _))
local macro_rules | `(tactic| walk_at "en") => `(tactic| simp only [List.nil_append, List.cons_append, List.append_assoc])
open SX PyProof.Rows PySem.Spec
local macro_rules | `(tactic| walk_at "still") => `(tactic| first
  | (exact Still.wd)
  | (exact Still.str (by assumption) (by assumption))
  | (exact Still.str (by first | decide | omega) (by first | decide | assumption))
  | (exact Still.mk0 (fun M => ⟨_, rfl, by intro c hc; cases hc⟩) (fun n => by simp [D.lt, D.ltL, D.ltF, D.ltK, ltL_signs]) nofun))
local macro_rules | `(tactic| walk_at "es") => `(tactic| first | assumption | decide | omega | (exact len_small ‹_›) | (simp only [List.length_cons, List.length_nil, List.length_append]; decide))
local macro_rules | `(tactic| walk_at "rd") => `(tactic| first
  | assumption | exact Rd.non | exact Rd.bl | exact RdL.nil | exact RdK.nil
  | ((with_reducible apply Rd.tup); walk_at "rd") | ((with_reducible apply Rd.lst); walk_at "rd") | ((with_reducible apply Rd.dic); walk_at "rd")
  | ((with_reducible apply RdL.cons); (focus walk_at "rd"); (focus walk_at "rd"))
  | ((with_reducible apply RdK.str); (focus (exact Nat.le_refl _)); (focus decide); (focus walk_at "rd"); (focus walk_at "rd"))
  | ((with_reducible apply Rd.str); (focus assumption); (focus assumption))
  | ((with_reducible apply Rd.str); (focus (exact Nat.le_refl _)); (focus decide))
  | ((with_reducible apply Rd.int); (focus (first | assumption | decide)))
  | ((with_reducible apply Rd.int); (focus (simp only [Int.natAbs_natCast]; exact lt_of_lt_log ‹_›)))
  | ((simp only [List.nil_append, List.cons_append, Int.reduceToNat, List.reduceReplicate, List.flatten_cons, List.flatten_nil, Int.toNat_natCast, List.length_cons, List.length_nil, Nat.reduceAdd]); walk_at "rd"))
local macro_rules | `(tactic| walk_at "ec") => `(tactic| fail "none")
local macro_rules | `(tactic| walk_at "ec") => `(tactic| first
  | (with_reducible apply r_en) | (with_reducible apply r_en_l) | (with_reducible apply r_en_t) | (with_reducible apply r_mkS) | (with_reducible apply r_spr) | (with_reducible apply r_spr_l) | (with_reducible apply r_spr_t) | (with_reducible apply r_starA) | (with_reducible apply r_lrg2)
  | ((with_reducible apply r_ownIx); (focus exact rfl)))
local macro_rules | `(tactic| walk_at "ec") => `(tactic| first
  | (with_reducible refine ⟨tyM_liC, ?_⟩)
  | ((with_reducible apply r_appendC); (focus (simp only [List.length_cons, List.length_nil, List.length_append]; decide)))
  | ((with_reducible apply r_frzC); (focus rfl); walk_at "en")
  | (with_reducible refine ⟨tyM_li, ?_⟩)
  | (with_reducible apply r_lstM)
  | ((with_reducible apply r_append); (focus (simp only [List.length_cons, List.length_nil, List.length_append]; decide)))
  | ((with_reducible apply r_frzL); (focus rfl); walk_at "en"))
local macro_rules | `(tactic| walk_at "ec") => `(tactic| first
  | ((with_reducible apply r_mkSV); (focus exact rfl))
  | (with_reducible apply r_fmO)
  | ((with_reducible apply r_splitP); (focus assumption))
  | ((with_reducible apply r_slLast); (focus assumption)))
local macro_rules | `(tactic| walk_at "ec") => `(tactic| first
  | ((with_reducible apply r_sl_to); (focus (first | assumption | omega)); (focus (first | assumption | omega)))
  | ((with_reducible apply r_sl_from); (focus (first | assumption | omega)); (focus (first | assumption | omega)))
  | ((with_reducible apply r_len_S); (focus (first | assumption | omega)))
  | ((with_reducible apply r_add_SS); (focus (simp only [List.length_append, List.length_take, List.length_drop, List.length_cons, List.length_nil]; omega))))
local macro_rules | `(tactic| walk_at "gd") => `(tactic| first
  | assumption
  | ((with_reducible apply Gd.app); (focus walk_at "gd"); (focus walk_at "gd"))
  | ((with_reducible apply Gd.take); (focus walk_at "gd"))
  | ((with_reducible apply Gd.drop); (focus walk_at "gd")))
section
variable {P : Program} {w : World} {K : PySem.W.Frag} {mg : Str → Option Value} {base : Heap} {cs : CS}
/-! ### law -/
abbrev s_law : Stmt := top 43
abbrev n_law : List Str := ["_law_script", "_law_pen_here", "_law_turn", "_law_texts_here", "_law_row_here", "_law_page_here", "_law_again", "_law_bent_here", "_law_odd", "_law_some"]
theorem sc_law : FnScope n_law ["_law_script"] (defScope s_law) := ⟨rfl, rfl, rfl, by decide +kernel, rfl, by decide +kernel, by decide +kernel⟩
def tf_law : TfS := (tSeq (tFor (gNm 2) (tRg1 (tCons (tCon (.int 6)) tNil))
    (tSeq (tAsg 3 (tFn 2 S_law_texts (tCons (tVar 1) (tCons (tFn 2 S_law_pick (tCons (tVar 1) (tCons (tLst (tCons (tCon (.int 3)) (tCons (tCon (.int 12)) tNil))) tNil))) tNil))))
    (tSeq (tPar 4 5 (tCons (tFn 1 S_law_row (tCons (tVar 3) tNil)) (tCons (tFn 1 S_law_page (tCons (tVar 3) tNil)) tNil)))
    (tSeq (tIf (tOrT ((tBin (tCall (tCons (tVar 4) tNil) (tOwnStr 10 S_Row_str)) (tFn 1 S_law_page (tCons (tFn 1 S_law_all_sorted (tCons (tVar 3) tNil)) tNil)) tNe).bl) (tOrT ((tBin (tCm 10 2 S_Row_read (tCon (.cls 10)) (tCons (tVar 5) tNil)) (tVar 4) (tOwnNeD 10 cpT_Row cpO_Row S_Row_eq)).bl) ((tBin (tCm 10 2 S_Row_read (tCon (.cls 10)) (tCons (tCall (tCons (tVar 4) tNil) (tOwnStr 10 S_Row_str)) tNil)) (tVar 4) (tOwnNeD 10 cpT_Row cpO_Row S_Row_eq)).bl)))
    (tSeq (tRet (tCon (.bl false)))
    tSkip)
    tSkip)
    (tSeq (tIf (tOrT ((tBin (tFmO 10 S_Row_str (tVar 4)) (tCall (tCons (tVar 4) tNil) (tOwnStr 10 S_Row_str)) tNe).bl) (tNotT (tTest (tCall (tCons (tCm 10 2 S_Row_read (tCon (.cls 10)) (tCons (tVar 5) tNil)) (tCons (tCon (.cls 10)) tNil)) (tIsi isiO isiS)) tTru)))
    (tSeq (tRet (tCon (.bl false)))
    tSkip)
    tSkip)
    (tSeq (tFor (gNm 6) (tRg1 (tCons (tCon (.int 4)) tNil))
    (tSeq (tAsg 7 (tFn 2 S_law_bent (tCons (tVar 1) (tCons (tVar 5) tNil))))
    (tSeq (tIf (tOrT (tNotT (tTest (tFn 1 S_law_read_right (tCons (tVar 7) tNil)) tTru)) (tNotT (tTest (tFn 1 S_law_read_right (tCons (tFn 2 S_law_bent (tCons (tVar 1) (tCons (tVar 7) tNil))) tNil)) tTru)))
    (tSeq (tRet (tCon (.bl false)))
    tSkip)
    tSkip)
    tSkip)))
    (tSeq (tAsg 8 (tFn 2 S_law_pick (tCons (tVar 1) (tCons (tLst (tCons (tCon .non) (tCons (tCon (.int 5)) (tCons (tCon (.bl true)) (tCons (tLst (tCons (tCon (.str (SX.S [97, 124]))) tNil)) (tCons (tTup (tCons (tCon (.str (SX.S [97, 124]))) tNil)) (tCons (tCon (.dic [])) (tCons (tVar 4) (tCons (tVar 3) tNil))))))))) tNil))))
    (tSeq (tIf ((tBin (tHear S_law_heard (tCm 10 2 S_Row_read (tCon (.cls 10)) (tCons (tVar 8) tNil))) (tTup (tCons (tCon (.str (SX.S [116, 101, 120, 116]))) (tCons (tCon (.int 0)) (tCons (tCon (.int 0)) tNil)))) tNe).bl)
    (tSeq (tRet (tCon (.bl false)))
    tSkip)
    tSkip)
    tSkip))))))))
    (tSeq (tAsg 9 (tLst (tCons (tCon (.str (SX.S []))) (tCons (tCon (.str (SX.S [45]))) (tCons (tCon (.str (SX.S [45, 45]))) (tCons (tCon (.str (SX.S [45, 124]))) (tCons (tCon (.str (SX.S [124]))) (tCons (tCon (.str (SX.S [97]))) (tCons (tCon (.str (SX.S [97, 124]))) (tCons (tCon (.str (SX.S [32, 97, 124]))) (tCons (tCon (.str (SX.S [97, 124, 32]))) (tCons (tCon (.str (SX.S [97, 124, 10]))) (tCons (tCon (.str (SX.S [97, 124, 124]))) (tCons (tCon (.str (SX.S [97, 98, 124, 97]))) (tCons (tCon (.str (SX.S [97, 124, 45]))) (tCons (tCon (.str (SX.S [45, 97, 124]))) (tCons (tCon (.str (SX.S [97, 98, 99, 97, 98, 99, 97, 98, 99, 124]))) tNil)))))))))))))))))
    (tSeq (tAsg 9 (tBin (tVar 9) (tLst (tCons (tCon (.str (SX.S [97, 98, 99, 97, 98, 99, 97, 98, 124]))) (tCons (tCon (.str (SX.S [98, 97, 124, 99, 97, 98, 124]))) (tCons (tCon (.str (SX.S [124, 97, 124]))) tNil)))) tAdd))
    (tSeq (tAsg 9 (tBin (tVar 9) (tLst (tCons (tBin (tCon (.str (SX.S [97, 124]))) (tCon (.int 12)) tMul) (tCons (tBin (tCon (.str (SX.S [97, 124]))) (tCon (.int 13)) tMul) (tCons (tBin (tBin (tCon (.str (SX.S [97, 124]))) (tCon (.int 12)) tMul) (tCon (.str (SX.S [97]))) tAdd) (tCons (tBin (tBin (tCon (.str (SX.S [97, 124]))) (tCon (.int 12)) tMul) (tCon (.str (SX.S [124]))) tAdd) (tCons (tBin (tBin (tBin (tCon (.str (SX.S [97, 124]))) (tCon (.int 11)) tMul) (tCon (.str (SX.S [100, 124]))) tAdd) (tCon (.str (SX.S [97, 124]))) tAdd) (tCons (tBin (tCon (.str (SX.S [97, 124]))) (tCon (.int 300)) tMul) tNil))))))) tAdd))
    (tSeq (tRet (tBin (tLc (gNm 5) [5] (tIt (tVar 9)) (tNotT (tTest (tFn 1 S_law_read_right (tCons (tVar 5) tNil)) tTru)) (tVar 5)) (tLst tNil) tEq))
    tSkip)))))
theorem page_joinL : ∀ ts : List (List Nat), TL.joinL [124] (ts ++ [[]]) = (ts.map fun t => t ++ [124]).flatten
  | [] => rfl
  | [t] => by simp [TL.joinL]
  | t :: u :: ts => by
    have ih := page_joinL (u :: ts)
    rw [List.map_cons, List.flatten_cons, ← ih]
    show t ++ ([124] ++ TL.joinL [124] (u :: ts ++ [[]])) = _
    rw [List.append_assoc]
theorem no_bar {ts : List (List Nat)} (h : TxO ts) : ∀ p ∈ ts ++ [[]], 124 ∉ p := fun p hp => by
  rcases List.mem_append.mp hp with hp | hp
  · intro z
    have := (isTxt_iff.mp (h.2 p hp)).2.2 124 z
    revert this; decide
  · rw [List.mem_singleton.mp hp]; exact List.not_mem_nil
theorem prt_page {ts : List (List Nat)} (h : TxO ts) (h0 : ts ≠ []) : prt (pageL ts) = ts ++ [[]] := by
  unfold prt pageL
  rw [if_neg h0, ← page_joinL]
  exact TL.spl_join (by simp) (no_bar h)
theorem read_page {ts : List (List Nat)} (h : TxO ts) (okP : List (List Nat) → Prop) (xP : Nat → Prop) (z : okP ts) : rdP (pageL ts) okP xP := by
  by_cases h0 : ts = []
  · subst h0
    exact ⟨fun _ => z, fun y => absurd rfl y⟩
  · have hp := prt_page h h0
    have hE : isEnd (prt (pageL ts)) = true := by
      unfold isEnd
      have := List.length_pos_iff.mpr h0
      rw [hp, Bool.and_eq_true]
      refine ⟨decide_eq_true ?_, decide_eq_true (by simp)⟩
      rw [List.length_append, List.length_singleton]; omega
    have hx : txs (pageL ts) = ts := by unfold txs; rw [if_pos hE, hp]; simp
    refine ⟨fun y => ?_, fun _ => ⟨fun k e => ?_, fun _ _ => by rw [hx]; exact z, fun _ e => by rw [hE] at e; cases e⟩⟩
    · have h2 : prt [45] = [[45]] := by decide +kernel
      rw [y, h2] at hp
      have h3 := congrArg List.length hp
      rw [List.length_append] at h3
      simp only [List.length_cons, List.length_nil] at h3
      exact absurd (List.length_eq_zero_iff.mp (by omega)) h0
    · rw [hx, wrong_none h.1 h.2] at e
      cases e
theorem page_gd {ts : List (List Nat)} (h : TxO ts) : Gd 108 (pageL ts) := by
  have hl := h.1
  unfold pageL
  split
  · exact ⟨by decide, by decide⟩
  · refine ⟨?_, fun c hc => ?_⟩
    · have : ∀ ts : List (List Nat), (∀ t ∈ ts, t.length ≤ 8) → ((ts.map fun t => t ++ [124]).flatten).length ≤ 9 * ts.length := fun ts => by
        induction ts with
        | nil => intro _; exact Nat.le_refl _
        | cons t ts ih =>
          intro h
          have ih := ih fun q hq => h q (List.mem_cons_of_mem _ hq)
          have := h t List.mem_cons_self
          rw [List.map_cons, List.flatten_cons, List.length_append, List.length_append]
          simp only [List.length_cons, List.length_nil]
          omega
      have := this ts h.len8
      omega
    · obtain ⟨r, hr, hcr⟩ := List.mem_flatten.mp hc
      obtain ⟨t, ht, rfl⟩ := List.mem_map.mp hr
      rcases List.mem_append.mp hcr with z | z
      · exact h.asc t ht c z
      · rw [List.mem_singleton.mp z]; decide
theorem c_readP {ts : List (List Nat)} {M : Store} {post : DP} {xp : XP} (h : TxO ts) (hp : ∀ (a : Addr) (ps : Wds), ps.map (·.2) = ts.map canon → post (rwD a ps) M) : S_Row_read [.cls 10, .str (S (pageL ts))] M post xp :=
  c_read (by have := (page_gd h).1; omega) (page_gd h).2 (read_page h _ _ hp)
def repL (l : List Nat) (k : Int) : List Nat := (List.replicate k.toNat l).flatten
theorem r_mul_SS {a : List Nat} {k : Int} {M : Store} {post : DP} {xp : XP} (h : 0 ≤ k ∧ k < 2 ^ 62 ∧ a.length * k.toNat ≤ 16777216) (q : post (.str (S (repL a k))) M) : tMul (.str (S a)) (.int k) M post xp := r_mul_si ⟨h.1, h.2.1, by rw [S_len]; exact h.2.2⟩ (by rw [rep_S]; exact q)
local macro_rules | `(tactic| walk_at "ec") => `(tactic| first
  | ((with_reducible apply r_mul_SS); (focus decide))
  | ((with_reducible apply r_add_SS); (focus decide +kernel)))
theorem lcL_noneM {tg : TfG} {tt : TfT} {te : TfE} {Γ0 : Gm} {post : DP} : ∀ (ds acc : List D) (M : Store), (∀ d ∈ ds, ∀ (M : Store) (p : DP) (p2 : Store → Prop), (∀ M2, p2 M2) → tg d Γ0 (fun Γ' => tt Γ' M (fun b M2 => (b = true → te Γ' M2 p XNo) ∧ (b = false → p2 M2)) XNo)) → (∀ M, post (.lst acc) M) → lcL tg tt te Γ0 post ds acc M
  | [], acc, M, _, q => q M
  | x :: xs, acc, M, h, q => h x List.mem_cons_self M _ _ fun M2 => lcL_noneM xs acc M2 (fun d hd => h d (List.mem_cons_of_mem _ hd)) q
theorem r_lcNoneM {tg : TfG} {js : List Nat} {tt : TfT} {te : TfE} {Γ : Gm} {post : DP} {M : Store} {ds : List D} (hl : ds.length ≤ 100000) (h : ∀ d ∈ ds, ∀ (M : Store) (p : DP) (p2 : Store → Prop), (∀ M2, p2 M2) → tg d (wG Γ js) (fun Γ' => tt Γ' M (fun b M2 => (b = true → te Γ' M2 p XNo) ∧ (b = false → p2 M2)) XNo)) (q : ∀ M, post (.lst []) M) : lcK tg js tt te Γ post ds STrue M := r_lcL hl (lcL_noneM ds [] M h q)
theorem f_law : tf_law (GL n_law) [] OL := by
  unfold tf_law GL n_law OL
  simp only [List.length_cons, List.length_nil, List.replicate, Nat.reduceAdd, Nat.reduceSub, Nat.zero_add]
  walk_at "e"
  refine ⟨6, rfl, by decide, by decide, r_forL (by rw [List.length_map, List.length_range]; decide) ?_⟩
  refine r_forI (fun _ Γ M => ∃ x2 x3 x4 x5 x6 x7 x8, Γ = [none, some .pen, x2, x3, x4, x5, x6, x7, x8, none]) ⟨_, _, _, _, _, _, _, rfl⟩ ?_ ?_
  · rintro Γ M ⟨x2, x3, x4, x5, x6, x7, x8, rfl⟩
    walk_at "e"
    refine r_lcNoneM (by simp only [List.length_append, List.length_cons, List.length_nil]; decide) (fun d hd M1 p p2 h => ?_) fun M1 => ?_
    · have hd : ∃ l, d = .str (S l) ∧ Gd 1000 l := by
        simp only [List.mem_append, List.mem_cons, List.not_mem_nil, or_false, List.cons_append, List.nil_append] at hd
        rcases hd with rfl | rfl | rfl | rfl | rfl | rfl | rfl | rfl | rfl | rfl | rfl | rfl | rfl | rfl | rfl | rfl | rfl | rfl | rfl | rfl | rfl | rfl | rfl | rfl <;> exact ⟨_, rfl, Gd.lit (by decide +kernel)⟩
      obtain ⟨l, rfl, hg⟩ := hd
      walk_at "e"
      refine c_rr hg fun M2 => ?_
      walk_at "e"
      exact h _
    · walk_at "e"
      exact r_eq_nil (ws := []) nofun rfl
  · rintro d ds Γ M N ⟨x2, x3, x4, x5, x6, x7, x8, rfl⟩ hN
    walk_at "e"
    refine c_pick (by simp only [List.length_cons, List.length_nil]; decide) (by simp only [List.length_cons, List.length_nil]; decide) fun d hd => ?_
    have hd : ∃ m : Nat, d = .int m ∧ m ≤ 12 := by
      simp only [List.mem_cons, List.not_mem_nil, or_false] at hd
      rcases hd with rfl | rfl
      · exact ⟨3, rfl, by decide⟩
      · exact ⟨12, rfl, by decide⟩
    obtain ⟨m, rfl, hm⟩ := hd
    walk_at "e"
    refine c_txts (by omega) fun ts ht => ?_
    have htx := ht.txo hm
    have ht1 := htx.1
    walk_at "e"
    refine c_row htx fun a ps hps => ?_
    obtain ⟨hpl, hpt⟩ := wds_txt htx hps
    have hp8 : ∀ p ∈ ps, p.2.length ≤ 8 := fun p hp => (isTxt_iff.mp (hpt p hp)).2.1
    walk_at "e"
    refine c_page htx ?_
    walk_at "e"
    refine c_rstr (by omega) hp8 ?_
    rw [hps]
    walk_at "e"
    refine c_allS (by omega) (fun t h => ⟨by have := htx.len8 t h; omega, (isTxt_iff.mp (htx.2 t h)).2.2⟩) ?_
    walk_at "e"
    refine c_page htx.canon ?_
    walk_at "e"
    refine c_readP htx fun a2 ps2 hps2 => ?_
    walk_at "e"
    refine c_req ?_
    rw [hps2, hps, decide_eq_true rfl]
    walk_at "e"
    refine c_rstr (by omega) hp8 ?_
    rw [hps]
    walk_at "e"
    refine c_readP htx.canon fun a3 ps3 hps3 => ?_
    rw [canon_map2 htx.2] at hps3
    walk_at "e"
    refine c_req ?_
    rw [hps3, hps, decide_eq_true rfl]
    walk_at "e"
    refine ⟨_, rfl, c_rstr (by omega) hp8 ?_⟩
    rw [hps]
    walk_at "e"
    refine c_rstr (by omega) hp8 ?_
    rw [hps]
    walk_at "e"
    refine c_readP htx fun a4 ps4 hps4 => ?_
    walk_at "e"
    refine ⟨4, rfl, by decide, by decide, r_forL (by rw [List.length_map, List.length_range]; decide) ?_⟩
    refine r_forI (fun _ Γ M => ∃ x2 x6 x7 x8, Γ = [none, some .pen, x2, some (.lst (strsD ts)), some (rwD a ps), some (.str (S (pageL ts))), x6, x7, x8, none]) ⟨_, _, _, _, rfl⟩ ?_ ?_
    · rintro Γ M ⟨x2, x6, x7, x8, rfl⟩
      walk_at "e"
      refine c_pick (by simp only [List.length_cons, List.length_nil]; decide) (by simp only [List.length_cons, List.length_nil]; decide) fun d hd => ?_
      have hd : Still d ∧ ∀ z, d ≠ .str z := by
        simp only [List.mem_cons, List.not_mem_nil, or_false] at hd
        rcases hd with rfl | rfl | rfl | rfl | rfl | rfl | rfl | rfl
        all_goals first
          | exact ⟨Still.rw, nofun⟩
          | exact ⟨Still.strs, nofun⟩
          | exact ⟨by walk_at "still", nofun⟩
      walk_at "e"
      refine heard_x (d1 := .int 0) (d2 := .int 0) (fun ex => ?_) fun p x hx => ?_
      · walk_at "e"
        refine .inr ⟨_, _, rfl, rfl, by decide +kernel, by decide +kernel, ?_⟩
        rw [show PyData.eqv _ _ = true from by decide +kernel, if_pos rfl, Bool.not_true]
        walk_at "e"
        exact hN _ _ ⟨_, _, _, _, _, _, _, rfl⟩
      · walk_at "e"
        exact c_readX hd.1 hd.2 hx
    · rintro d ds Γ M N2 ⟨x2, x6, x7, x8, rfl⟩ hN2
      walk_at "e"
      refine c_bent (n := 108) (page_gd htx) (by decide) fun l1 h1 => ?_
      walk_at "e"
      refine c_rr (h1.up (by decide)) fun M1 => ?_
      walk_at "e"
      refine c_bent h1 (by decide) fun l2 h2 => ?_
      walk_at "e"
      refine c_rr (h2.up (by decide)) fun M2 => ?_
      walk_at "e"
      exact hN2 _ _ ⟨_, _, _, _, rfl⟩
theorem ok_law {f g cc PT : Addr} {fd gd : FuncData} (F : FunL K "law" "law" s_law f fd cc) (TB : LamX.TabB base mg cc PT) (hmT : (PT, lamq "law") ∈ cs.T) (huT : ∀ p ∈ cs.T, p.1 = PT → p.2 = lamq "law") (T : TX mg cs) (KF : KFX K cs) (PEN : FnG P w K mg base (L2.CX P w) 1 g gd ["_law_script"] (spPen K)) (hm : mg "_law_pen" = some (.ref g)) (hk : PySem.W.keepIn K (.ref g) = true) (hb : Binds K gd ["_law_script"] [])
    (D_law_texts : FnD P w K mg base cs 4 "_law_texts" 2 85070591730234615902737140005361156097 S_law_texts)
    (D_law_pick : FnD P w K mg base cs 2 "_law_pick" 2 1 S_law_pick)
    (D_law_row : FnD P w K mg base cs 9 "_law_row" 1 0 S_law_row)
    (D_law_page : FnD P w K mg base cs 1 "_law_page" 1 0 S_law_page)
    (D_Row_str : MtD P w K mg base cs 1 10 "__str__" 1 0 S_Row_str)
    (D_law_all_sorted : FnD P w K mg base cs 2 "_law_all_sorted" 1 0 S_law_all_sorted)
    (D_Row_read : CmD P w K mg base cs 8 10 "read" 2 0 S_Row_read)
    (D_Row_eq : MtD P w K mg base cs 3 10 (cmpInfo CmpOp.Eq).2.1 2 0 S_Row_eq)
    (D_law_bent : FnD P w K mg base cs 3 "_law_bent" 2 3 S_law_bent)
    (D_law_read_right : FnD P w K mg base cs 11 "_law_read_right" 1 0 S_law_read_right)
    (D_law_heard : HrD P w K mg base cs 0 "_law_heard" 0 0 S_law_heard) : FnG P w K mg base (L2.CX P w) 12 f fd ["_law_script"] (spLaw K cs.T) :=
  law_ofL (c := 784637716923335096330179595203304460698901065247989170176) F sc_law rfl ⟨_, rfl⟩ PEN hm hk hb (by decide) (by decide +kernel) (fun A outer s H E hr => (su_cons (st_for passB (xg_name 2 sc_law.nd) (xi_range1 T.range (pa_cons px_int pa_nil))
    (su_cons (st_asg 3 sc_law.nd (px_call D_law_texts hr Ev.takes0 (pa_cons (px_var 1) (pa_cons (px_call D_law_pick hr Ev.takes0 (pa_cons (px_var 1) (pa_cons (px_lst (pa_cons px_int (pa_cons px_int pa_nil))) pa_nil))) pa_nil)))) (su_cons (st_par 4 5 sc_law.nd (by decide) (pa_cons (px_call D_law_row hr Ev.takes0 (pa_cons (px_var 3) pa_nil)) (pa_cons (px_call D_law_page hr Ev.takes0 (pa_cons (px_var 3) pa_nil)) pa_nil))) (su_cons (st_if (pw_or (pt_cmp (px_callTy T.str (pa_cons (px_var 4) pa_nil) (poc_strO D_Row_str hr Ev.takes0)) (px_call D_law_page hr Ev.takes0 (pa_cons (px_call D_law_all_sorted hr Ev.takes0 (pa_cons (px_var 3) pa_nil)) pa_nil)) (po_ne hr.hu)) (pw_or (pt_cmp (px_cmeth D_Row_read hr Ev.takes0 (px_gcls 10 T.c_Row) (pa_cons (px_var 5) pa_nil)) (px_var 4) (po_ownNeD KF.cp_Row KF.ne_Row D_Row_eq hr Ev.takes0)) (pw_one (pt_cmp (px_cmeth D_Row_read hr Ev.takes0 (px_gcls 10 T.c_Row) (pa_cons (px_callTy T.str (pa_cons (px_var 4) pa_nil) (poc_strO D_Row_str hr Ev.takes0)) pa_nil)) (px_var 4) (po_ownNeD KF.cp_Row KF.ne_Row D_Row_eq hr Ev.takes0))))).pt
    (su_cons (st_ret px_bl) su_nil)
    su_nil) (su_cons (st_if (pw_or (pt_cmp (px_fstr1 (px_fmO KF.fm_Row D_Row_str hr Ev.takes0 (px_var 4))) (px_callTy T.str (pa_cons (px_var 4) pa_nil) (poc_strO D_Row_str hr Ev.takes0)) (po_ne hr.hu)) (pw_one (pt_not (pt_val (px_callB T.isinstance (pa_cons (px_cmeth D_Row_read hr Ev.takes0 (px_gcls 10 T.c_Row) (pa_cons (px_var 5) pa_nil)) (pa_cons (px_gcls 10 T.c_Row) pa_nil)) (po_isi KF.isi)) pob_std)))).pt
    (su_cons (st_ret px_bl) su_nil)
    su_nil) (su_cons (st_for passB (xg_name 6 sc_law.nd) (xi_range1 T.range (pa_cons px_int pa_nil))
    (su_cons (st_asg 7 sc_law.nd (px_call D_law_bent hr Ev.takes0 (pa_cons (px_var 1) (pa_cons (px_var 5) pa_nil)))) (su_cons (st_if (pw_or (pt_not (pt_val (px_call D_law_read_right hr Ev.takes0 (pa_cons (px_var 7) pa_nil)) pob_std)) (pw_one (pt_not (pt_val (px_call D_law_read_right hr Ev.takes0 (pa_cons (px_call D_law_bent hr Ev.takes0 (pa_cons (px_var 1) (pa_cons (px_var 7) pa_nil))) pa_nil)) pob_std)))).pt
    (su_cons (st_ret px_bl) su_nil)
    su_nil) su_nil))) (su_cons (st_asg 8 sc_law.nd (px_call D_law_pick hr Ev.takes0 (pa_cons (px_var 1) (pa_cons (px_lst (pa_cons px_non (pa_cons px_int (pa_cons px_bl (pa_cons (px_lst (pa_cons px_str pa_nil)) (pa_cons (px_tup (pa_cons px_str pa_nil)) (pa_cons px_dnew (pa_cons (px_var 4) (pa_cons (px_var 3) pa_nil))))))))) pa_nil)))) (su_cons (st_if (pt_cmp (px_hearQ (kL := 8) (ql := ("law" : Str) ++ ".<locals>.") D_law_heard hr Ev.takes0 TB (by exact hmT) (by exact huT) (by exact fun A outer s H E f c hr2 => px_le (px_cmeth D_Row_read hr2 takesL (px_gclsM 10 T.c_Row) (pa_cons (px_var 8) pa_nil)) (by decide))) (px_tup (pa_cons px_str (pa_cons px_int (pa_cons px_int pa_nil)))) (po_ne hr.hu))
    (su_cons (st_ret px_bl) su_nil)
    su_nil) su_nil)))))))) (su_cons (st_asg 9 sc_law.nd (px_lst (pa_cons px_str (pa_cons px_str (pa_cons px_str (pa_cons px_str (pa_cons px_str (pa_cons px_str (pa_cons px_str (pa_cons px_str (pa_cons px_str (pa_cons px_str (pa_cons px_str (pa_cons px_str (pa_cons px_str (pa_cons px_str (pa_cons px_str pa_nil))))))))))))))))) (su_cons (st_asg 9 sc_law.nd (px_bin (px_var 9) (px_lst (pa_cons px_str (pa_cons px_str (pa_cons px_str pa_nil)))) po_add)) (su_cons (st_asg 9 sc_law.nd (px_bin (px_var 9) (px_lst (pa_cons (px_bin px_str px_int po_mul) (pa_cons (px_bin px_str px_int po_mul) (pa_cons (px_bin (px_bin px_str px_int po_mul) px_str po_add) (pa_cons (px_bin (px_bin px_str px_int po_mul) px_str po_add) (pa_cons (px_bin (px_bin (px_bin px_str px_int po_mul) px_str po_add) px_str po_add) (pa_cons (px_bin px_str px_int po_mul) pa_nil))))))) po_add)) (su_cons (st_ret (px_cmp (px_lc sc_law.nd (plc (own := [("_law_page_here", 5)]) (is := [5]) (blkOk_by (by rfl)) (by decide) (xi_std (px_var 9)) (fun s H C cl fp => (xg_name 5 sc_law.nd)) (.inr ⟨_, rfl, fun s H C cl fp => (pt_not (pt_val (px_call D_law_read_right hr Ev.takes0 (pa_cons (px_var 5) pa_nil)) pob_std))⟩) (fun s H C cl fp => (px_var 5)))) (px_lst pa_nil) (po_eq hr.hu))) su_nil)))))) f_law
end
end K14
-- k14fz
namespace K14
open PySem L2 Ev
abbrev s_BadRow_init : Stmt := inClass (top 5) 0
theorem sc_BadRow_init : FnScope ["self", "at"] ["self", "at"] (defScope s_BadRow_init) := ⟨rfl, rfl, rfl, by decide +kernel, rfl, by decide +kernel, by decide +kernel⟩
abbrev s_BadText_init : Stmt := inClass (top 7) 0
theorem sc_BadText_init : FnScope ["self", "line", "word"] ["self", "line", "word"] (defScope s_BadText_init) := ⟨rfl, rfl, rfl, by decide +kernel, rfl, by decide +kernel, by decide +kernel⟩
abbrev s_BadWord_init : Stmt := inClass (top 4) 0
theorem sc_BadWord_init : FnScope ["self", "value"] ["self", "value"] (defScope s_BadWord_init) := ⟨rfl, rfl, rfl, by decide +kernel, rfl, by decide +kernel, by decide +kernel⟩
abbrev s_TooMany_init : Stmt := inClass (top 8) 0
theorem sc_TooMany_init : FnScope ["self", "what", "most"] ["self", "what", "most"] (defScope s_TooMany_init) := ⟨rfl, rfl, rfl, by decide +kernel, rfl, by decide +kernel, by decide +kernel⟩
theorem all_mk {l : PySem.W.OpenLaw} {w : World} {K : PySem.W.Frag} {h : Heap} {mg : Str → Option Value} {fa C0 C2 C4 C5 C6 C7 C8 C9 C10 f1 f2 f3 f4 f5 f6 f7 f8 f9 f10 f11 f12 f13 f14 f15 f16 f17 f18 f19 f20 f21 f22 f23 f24 f25 f26 f27 f28 f29 cc29 PT29 f30 cc30 PT30 : Addr} (X : K.In h) (G : h.Ns mainGlobals mg) (hfa : mg "law" = some (.ref fa))
    {t_LETTERS_words : Tok} {t_MOST_LETTERS : Tok} {t_MOST_WORDS : Tok} {t_TAB : Tok} {t_EMPTY : Tok} {gro10_BitOr : Addr} {oc1 kV1 dc1 pm1 cd1 ct1 : Value} {od1 an1 : Option Addr} {sl1 : Array (Option Value)} {nm8 q8 : Str} {N8 : Addr} {bs8 bm8 : List Value} {sn8 : List Str} {su8 : List Value} {ab8 : Bool} {co8 : Option Bool} {dd8 : Option Addr} {m08 m18 m28 m38 m58 : Option Value} {oc2 kV2 dc2 pm2 cd2 ct2 : Value} {od2 an2 : Option Addr} {sl2 : Array (Option Value)} {nm2 q2 : Str} {N2 : Addr} {bs2 bm2 : List Value} {sn2 : List Str} {su2 : List Value} {ab2 : Bool} {co2 : Option Bool} {dd2 : Option Addr} {m02 m12 m22 m32 m52 : Option Value} {oc3 kV3 dc3 pm3 cd3 ct3 : Value} {od3 an3 : Option Addr} {sl3 : Array (Option Value)} {nm5 q5 : Str} {N5 : Addr} {bs5 bm5 : List Value} {sn5 : List Str} {su5 : List Value} {ab5 : Bool} {co5 : Option Bool} {dd5 : Option Addr} {m05 m15 m25 m35 m55 : Option Value} {oc4 kV4 dc4 pm4 cd4 ct4 : Value} {od4 an4 : Option Addr} {sl4 : Array (Option Value)} {nm6 q6 : Str} {N6 : Addr} {bs6 bm6 : List Value} {sn6 : List Str} {su6 : List Value} {ab6 : Bool} {co6 : Option Bool} {dd6 : Option Addr} {m06 m16 m26 m36 m56 : Option Value} {oc5 kV5 dc5 pm5 cd5 ct5 : Value} {od5 an5 : Option Addr} {sl5 : Array (Option Value)} {oc6 kV6 dc6 pm6 cd6 ct6 : Value} {od6 an6 : Option Addr} {sl6 : Array (Option Value)} {oc7 kV7 dc7 pm7 cd7 ct7 : Value} {od7 an7 : Option Addr} {sl7 : Array (Option Value)} {p7 : Addr} {rs7 : List Value} {oc8 kV8 dc8 pm8 cd8 ct8 : Value} {od8 an8 : Option Addr} {sl8 : Array (Option Value)} {oc9 kV9 dc9 pm9 cd9 ct9 : Value} {od9 an9 : Option Addr} {sl9 : Array (Option Value)} {oc10 kV10 dc10 pm10 cd10 ct10 : Value} {od10 an10 : Option Addr} {sl10 : Array (Option Value)} {oc11 kV11 dc11 pm11 cd11 ct11 : Value} {od11 an11 : Option Addr} {sl11 : Array (Option Value)} {oc12 kV12 dc12 pm12 cd12 ct12 : Value} {od12 an12 : Option Addr} {sl12 : Array (Option Value)} {p12 : Addr} {rs12 : List Value} {oc13 kV13 dc13 pm13 cd13 ct13 : Value} {od13 an13 : Option Addr} {sl13 : Array (Option Value)} {oc14 kV14 dc14 pm14 cd14 ct14 : Value} {od14 an14 : Option Addr} {sl14 : Array (Option Value)} {oc15 kV15 dc15 pm15 cd15 ct15 : Value} {od15 an15 : Option Addr} {sl15 : Array (Option Value)} {oc16 kV16 dc16 pm16 cd16 ct16 : Value} {od16 an16 : Option Addr} {sl16 : Array (Option Value)} {oc17 kV17 dc17 pm17 cd17 ct17 : Value} {od17 an17 : Option Addr} {sl17 : Array (Option Value)} {oc18 kV18 dc18 pm18 cd18 ct18 : Value} {od18 an18 : Option Addr} {sl18 : Array (Option Value)} {oc19 kV19 dc19 pm19 cd19 ct19 : Value} {od19 an19 : Option Addr} {sl19 : Array (Option Value)} {oc20 kV20 dc20 pm20 cd20 ct20 : Value} {od20 an20 : Option Addr} {sl20 : Array (Option Value)} {oc21 kV21 dc21 pm21 cd21 ct21 : Value} {od21 an21 : Option Addr} {sl21 : Array (Option Value)} {oc22 kV22 dc22 pm22 cd22 ct22 : Value} {od22 an22 : Option Addr} {sl22 : Array (Option Value)} {oc23 kV23 dc23 pm23 cd23 ct23 : Value} {od23 an23 : Option Addr} {sl23 : Array (Option Value)} {oc24 kV24 dc24 pm24 cd24 ct24 : Value} {od24 an24 : Option Addr} {sl24 : Array (Option Value)} {oc25 kV25 dc25 pm25 cd25 ct25 : Value} {od25 an25 : Option Addr} {sl25 : Array (Option Value)} {oc26 kV26 dc26 pm26 cd26 ct26 : Value} {od26 an26 : Option Addr} {sl26 : Array (Option Value)} {oc27 kV27 dc27 pm27 cd27 ct27 : Value} {od27 an27 : Option Addr} {sl27 : Array (Option Value)} {oc28 kV28 dc28 pm28 cd28 ct28 : Value} {od28 an28 : Option Addr} {sl28 : Array (Option Value)} {oc29 kV29 dc29 pm29 ct29 : Value} {od29 an29 : Option Addr} {sl29 : Array (Option Value)} {oe29 : Value} {oo29 : Option Addr} {vs29 : Array Value} {se29 : Array (Option Value)} {oc30 kV30 dc30 pm30 ct30 : Value} {od30 an30 : Option Addr} {sl30 : Array (Option Value)} {oe30 : Value} {oo30 : Option Addr} {vs30 : Array Value} {se30 : Array (Option Value)}
    (aC0 : PySem.W.nsIn K mainGlobals "StopError" = some (some (.ref C0)))
    (aC2 : PySem.W.nsIn K mainGlobals "BadText" = some (some (.ref C2)))
    (aC4 : PySem.W.nsIn K mainGlobals "BadLetter" = some (some (.ref C4)))
    (aC5 : PySem.W.nsIn K mainGlobals "BadWord" = some (some (.ref C5)))
    (aC6 : PySem.W.nsIn K mainGlobals "TooMany" = some (some (.ref C6)))
    (aC7 : PySem.W.nsIn K mainGlobals "Word" = some (some (.ref C7)))
    (aC8 : PySem.W.nsIn K mainGlobals "BadRow" = some (some (.ref C8)))
    (aC9 : PySem.W.nsIn K mainGlobals "NoWord" = some (some (.ref C9)))
    (aC10 : PySem.W.nsIn K mainGlobals "Row" = some (some (.ref C10)))
    (z_abs : PySem.W.nsIn K mainGlobals "abs" = some none)
    (z_all : PySem.W.nsIn K mainGlobals "all" = some none)
    (z_enumerate : PySem.W.nsIn K mainGlobals "enumerate" = some none)
    (z_int : PySem.W.nsIn K mainGlobals "int" = some none)
    (z_isinstance : PySem.W.nsIn K mainGlobals "isinstance" = some none)
    (z_len : PySem.W.nsIn K mainGlobals "len" = some none)
    (z_range : PySem.W.nsIn K mainGlobals "range" = some none)
    (z_repr : PySem.W.nsIn K mainGlobals "repr" = some none)
    (z_sorted : PySem.W.nsIn K mainGlobals "sorted" = some none)
    (z_str : PySem.W.nsIn K mainGlobals "str" = some none)
    (z_tuple : PySem.W.nsIn K mainGlobals "tuple" = some none)
    (v_LETTERS_words : PySem.W.nsIn K mainGlobals "LETTERS_words" = some (some (.str "abc" t_LETTERS_words)))
    (v_MOST_LETTERS : PySem.W.nsIn K mainGlobals "MOST_LETTERS" = some (some (.int 8 t_MOST_LETTERS)))
    (v_MOST_WORDS : PySem.W.nsIn K mainGlobals "MOST_WORDS" = some (some (.int 12 t_MOST_WORDS)))
    (v_TAB : PySem.W.nsIn K mainGlobals "TAB" = some (some (.str "|" t_TAB)))
    (v_EMPTY : PySem.W.nsIn K mainGlobals "EMPTY" = some (some (.str "-" t_EMPTY)))
    (z_list : PySem.W.nsIn K mainGlobals "list" = some none)
    (pg7 : PySem.W.plainGet K C7 Str.empty = true)
    (hd7 : PySem.W.hasDictIn K C7 = true)
    (po7 : PySem.W.plainOver K C7 = true)
    (sa7 : PySem.W.findIn K (.ref C7) "__setattr__" = some (some (.builtin "object.__setattr__")))
    (na7_text : PySem.W.findIn K (.ref C7) "text" = some none)
    (pg10 : PySem.W.plainGet K C10 Str.empty = true)
    (hd10 : PySem.W.hasDictIn K C10 = true)
    (po10 : PySem.W.plainOver K C10 = true)
    (sa10 : PySem.W.findIn K (.ref C10) "__setattr__" = some (some (.builtin "object.__setattr__")))
    (na10_words : PySem.W.findIn K (.ref C10) "words" = some none)
    (nf_dict_10 : PySem.W.notFirst K C10 (.type "dict") = true)
    (nf_list_10 : PySem.W.notFirst K C10 (.type "list") = true)
    (nf_tuple_10 : PySem.W.notFirst K C10 (.type "tuple") = true)
    (nf_str_10 : PySem.W.notFirst K C10 (.type "str") = true)
    (nf_int_10 : PySem.W.notFirst K C10 (.type "int") = true)
    (nf_bool_10 : PySem.W.notFirst K C10 (.type "bool") = true)
    (nf_none_10 : PySem.W.notFirst K C10 (.type "NoneType") = true)
    (no_10_10 : PySem.W.notFirst K C10 (.ref C10) = true)
    (mo10 : PySem.W.mroIn K C10 (.type "object") = some true)
    (fo10 : PySem.W.findIn K (.ref C10) "__format__" = some (some (.builtin "object.__format__")))
    (nn10 : PySem.W.findIn K (.ref C10) "__ne__" = some (some (.builtin "object.__ne__")))
    (sf10 : PySem.W.selfFirst K C10 = true)
    (ro10_BitOr : PySem.W.findIn K (.ref C10) "__ror__" = some (some (.ref gro10_BitOr)))
    (sb_str_10 : PySem.W.subIn K (.type "str") (.ref C10) = some false)
    (hn : PySem.W.specialIn K (.builtin "object.__class__") "__get__" = some (some (.builtin "getset_descriptor.__get__")))
    (htk : PySem.W.takesIn K (.builtin "object.__class__") = some true)
    (ic2 : PySem.W.isClsIn K C2 = true)
    (tc2 : PySem.W.typeIn K (.ref C2) = some (.type "type"))
    (xg2 : PySem.W.findIn K (.ref C2) "__getattribute__" = some (some (.builtin "BaseException.__getattribute__")))
    (xq2 : PySem.W.findIn K (.ref C2) "__getattr__" = some none)
    (xe2 : PySem.W.subIn K (.ref C2) (.type "BaseException") = some true)
    (xh2 : PySem.W.hasDictIn K C2 = true)
    (xa2 : PySem.W.findIn K (.ref C2) "__class__" = some (some (.builtin "object.__class__")))
    (xm2 : PySem.W.mroIn K C2 (.type "object") = some true)
    (na2_line : PySem.W.findIn K (.ref C2) "line" = some none)
    (na2_word : PySem.W.findIn K (.ref C2) "word" = some none)
    (ic7 : PySem.W.isClsIn K C7 = true)
    (tc7 : PySem.W.typeIn K (.ref C7) = some (.type "type"))
    (ic10 : PySem.W.isClsIn K C10 = true)
    (tc10 : PySem.W.typeIn K (.ref C10) = some (.type "type"))
    (ha10 : PySem.W.findIn K (.ref C10) "__class__" = some (some (.builtin "object.__class__")))
    (hm10 : PySem.W.mroIn K C10 (.type "object") = some true)
    (bs_bool_10 : PySem.W.subIn K (.ref C10) (.type "bool") = some false)
    (bs_int_10 : PySem.W.subIn K (.ref C10) (.type "int") = some false)
    (bs_str_10 : PySem.W.subIn K (.ref C10) (.type "str") = some false)
    (bs_tuple_10 : PySem.W.subIn K (.ref C10) (.type "tuple") = some false)
    (bs_list_10 : PySem.W.subIn K (.ref C10) (.type "list") = some false)
    (bs_dict_10 : PySem.W.subIn K (.ref C10) (.type "dict") = some false)
    (sb_none_10 : PySem.W.subIn K (.type "NoneType") (.ref C10) = some false)
    (sb_bool_10 : PySem.W.subIn K (.type "bool") (.ref C10) = some false)
    (sb_int_10 : PySem.W.subIn K (.type "int") (.ref C10) = some false)
    (sb_tuple_10 : PySem.W.subIn K (.type "tuple") (.ref C10) = some false)
    (sb_list_10 : PySem.W.subIn K (.type "list") (.ref C10) = some false)
    (sb_dict_10 : PySem.W.subIn K (.type "dict") (.ref C10) = some false)
    (ss_10_7 : PySem.W.subIn K (.ref C10) (.ref C7) = some false)
    (ne_10_7 : Value.ref C10 ≠ Value.ref C7)
    (ha7 : PySem.W.findIn K (.ref C7) "__class__" = some (some (.builtin "object.__class__")))
    (hm7 : PySem.W.mroIn K C7 (.type "object") = some true)
    (bs_bool_7 : PySem.W.subIn K (.ref C7) (.type "bool") = some false)
    (bs_int_7 : PySem.W.subIn K (.ref C7) (.type "int") = some false)
    (bs_str_7 : PySem.W.subIn K (.ref C7) (.type "str") = some false)
    (bs_tuple_7 : PySem.W.subIn K (.ref C7) (.type "tuple") = some false)
    (bs_list_7 : PySem.W.subIn K (.ref C7) (.type "list") = some false)
    (bs_dict_7 : PySem.W.subIn K (.ref C7) (.type "dict") = some false)
    (sb_none_7 : PySem.W.subIn K (.type "NoneType") (.ref C7) = some false)
    (sb_bool_7 : PySem.W.subIn K (.type "bool") (.ref C7) = some false)
    (sb_int_7 : PySem.W.subIn K (.type "int") (.ref C7) = some false)
    (sb_str_7 : PySem.W.subIn K (.type "str") (.ref C7) = some false)
    (sb_tuple_7 : PySem.W.subIn K (.type "tuple") (.ref C7) = some false)
    (sb_list_7 : PySem.W.subIn K (.type "list") (.ref C7) = some false)
    (sb_dict_7 : PySem.W.subIn K (.type "dict") (.ref C7) = some false)
    (ss_7_10 : PySem.W.subIn K (.ref C7) (.ref C10) = some false)
    (ne_7_10 : Value.ref C7 ≠ Value.ref C10)
    (a1 : PySem.W.findIn K (.ref C8) "__init__" = some (some (.ref f1)))
    (i1 : PySem.W.isFn K (.ref f1) = true)
    (l1 : K.lookup f1 = some ⟨oc1, od1, .func (PySem.W.fnOf "__init__" "BadRow.__init__" (defArgs s_BadRow_init) (defBody s_BadRow_init) (defScope s_BadRow_init) .none kV1 dc1 pm1 an1 cd1 ct1), sl1⟩)
    (c1 : PySem.W.codeIn K cd1 "BadRow.__init__" = true)
    (k1 : PySem.W.keepIn K (.ref f1) = true)
    (xL8 : K.lookup C8 = some (excClassObj nm8 q8 C8 N8 bs8 bm8 true sn8 su8 ab8 co8 dd8 m08 m18 m28 m38 m58 "ValueError.__new__"))
    (xr8 : PySem.HandSPX.refsVE bm8 = true)
    (xs8 : PySem.W.findIn K (.ref C8) "__setattr__" = some (some (.builtin "object.__setattr__")))
    (xe8 : PySem.W.subIn K (.ref C8) (.type "BaseException") = some true)
    (xt8 : PySem.W.typeIn K (.ref C8) = some (.type "type"))
    (xk8 : PySem.W.keepIn K (.ref C8) = true)
    (xi1 : PySem.W.typeIn K (.ref f1) = some (.type "function"))
    (na8_at : PySem.W.findIn K (.ref C8) "at" = some none)
    (a2 : PySem.W.findIn K (.ref C2) "__init__" = some (some (.ref f2)))
    (i2 : PySem.W.isFn K (.ref f2) = true)
    (l2 : K.lookup f2 = some ⟨oc2, od2, .func (PySem.W.fnOf "__init__" "BadText.__init__" (defArgs s_BadText_init) (defBody s_BadText_init) (defScope s_BadText_init) .none kV2 dc2 pm2 an2 cd2 ct2), sl2⟩)
    (c2 : PySem.W.codeIn K cd2 "BadText.__init__" = true)
    (k2 : PySem.W.keepIn K (.ref f2) = true)
    (xL2 : K.lookup C2 = some (excClassObj nm2 q2 C2 N2 bs2 bm2 true sn2 su2 ab2 co2 dd2 m02 m12 m22 m32 m52 "ValueError.__new__"))
    (xr2 : PySem.HandSPX.refsVE bm2 = true)
    (xs2 : PySem.W.findIn K (.ref C2) "__setattr__" = some (some (.builtin "object.__setattr__")))
    (xt2 : PySem.W.typeIn K (.ref C2) = some (.type "type"))
    (xk2 : PySem.W.keepIn K (.ref C2) = true)
    (xi2 : PySem.W.typeIn K (.ref f2) = some (.type "function"))
    (a3 : PySem.W.findIn K (.ref C5) "__init__" = some (some (.ref f3)))
    (i3 : PySem.W.isFn K (.ref f3) = true)
    (l3 : K.lookup f3 = some ⟨oc3, od3, .func (PySem.W.fnOf "__init__" "BadWord.__init__" (defArgs s_BadWord_init) (defBody s_BadWord_init) (defScope s_BadWord_init) .none kV3 dc3 pm3 an3 cd3 ct3), sl3⟩)
    (c3 : PySem.W.codeIn K cd3 "BadWord.__init__" = true)
    (k3 : PySem.W.keepIn K (.ref f3) = true)
    (xL5 : K.lookup C5 = some (excClassObj nm5 q5 C5 N5 bs5 bm5 true sn5 su5 ab5 co5 dd5 m05 m15 m25 m35 m55 "ValueError.__new__"))
    (xr5 : PySem.HandSPX.refsVE bm5 = true)
    (xs5 : PySem.W.findIn K (.ref C5) "__setattr__" = some (some (.builtin "object.__setattr__")))
    (xe5 : PySem.W.subIn K (.ref C5) (.type "BaseException") = some true)
    (xt5 : PySem.W.typeIn K (.ref C5) = some (.type "type"))
    (xk5 : PySem.W.keepIn K (.ref C5) = true)
    (xi3 : PySem.W.typeIn K (.ref f3) = some (.type "function"))
    (na5_value : PySem.W.findIn K (.ref C5) "value" = some none)
    (a4 : PySem.W.findIn K (.ref C6) "__init__" = some (some (.ref f4)))
    (i4 : PySem.W.isFn K (.ref f4) = true)
    (l4 : K.lookup f4 = some ⟨oc4, od4, .func (PySem.W.fnOf "__init__" "TooMany.__init__" (defArgs s_TooMany_init) (defBody s_TooMany_init) (defScope s_TooMany_init) .none kV4 dc4 pm4 an4 cd4 ct4), sl4⟩)
    (c4 : PySem.W.codeIn K cd4 "TooMany.__init__" = true)
    (k4 : PySem.W.keepIn K (.ref f4) = true)
    (xL6 : K.lookup C6 = some (excClassObj nm6 q6 C6 N6 bs6 bm6 true sn6 su6 ab6 co6 dd6 m06 m16 m26 m36 m56 "ValueError.__new__"))
    (xr6 : PySem.HandSPX.refsVE bm6 = true)
    (xs6 : PySem.W.findIn K (.ref C6) "__setattr__" = some (some (.builtin "object.__setattr__")))
    (xe6 : PySem.W.subIn K (.ref C6) (.type "BaseException") = some true)
    (xt6 : PySem.W.typeIn K (.ref C6) = some (.type "type"))
    (xk6 : PySem.W.keepIn K (.ref C6) = true)
    (xi4 : PySem.W.typeIn K (.ref f4) = some (.type "function"))
    (na6_what : PySem.W.findIn K (.ref C6) "what" = some none)
    (na6_most : PySem.W.findIn K (.ref C6) "most" = some none)
    (a5 : PySem.W.nsIn K mainGlobals "is_text" = some (some (.ref f5)))
    (l5 : K.lookup f5 = some ⟨oc5, od5, .func (PySem.W.fnOf "is_text" "is_text" (defArgs s_is_text) (defBody s_is_text) (defScope s_is_text) .none kV5 dc5 pm5 an5 cd5 ct5), sl5⟩)
    (c5 : PySem.W.codeIn K cd5 "is_text" = true)
    (k5 : PySem.W.keepIn K (.ref f5) = true)
    (a6 : PySem.W.findIn K (.ref C7) "__init__" = some (some (.ref f6)))
    (i6 : PySem.W.isFn K (.ref f6) = true)
    (l6 : K.lookup f6 = some ⟨oc6, od6, .func (PySem.W.fnOf "__init__" "Word.__init__" (defArgs s_Word_init) (defBody s_Word_init) (defScope s_Word_init) .none kV6 dc6 pm6 an6 cd6 ct6), sl6⟩)
    (c6 : PySem.W.codeIn K cd6 "Word.__init__" = true)
    (k6 : PySem.W.keepIn K (.ref f6) = true)
    (rd7 : PySem.W.readsIn K C7 (.type "type") = true)
    (gd7 : PySem.W.specialIn K (.ref C7) "__getattribute__" = some (some (.builtin "type.__getattribute__")))
    (q7 : PySem.W.findCls K (.ref C7) (.type "type") "of" = some (.get (.builtin "staticmethod.__get__") (.ref p7) .none (.ref C7)))
    (a7 : PySem.W.recIn K p7 "staticmethod" = some (.ref f7 :: rs7))
    (l7 : K.lookup f7 = some ⟨oc7, od7, .func (PySem.W.fnOf "of" "Word.of" (defArgs s_Word_of) (defBody s_Word_of) (defScope s_Word_of) .none kV7 dc7 pm7 an7 cd7 ct7), sl7⟩)
    (c7 : PySem.W.codeIn K cd7 "Word.of" = true)
    (k7 : PySem.W.keepIn K (.ref f7) = true)
    (a8 : PySem.W.findIn K (.ref C7) "__eq__" = some (some (.ref f8)))
    (i8 : PySem.W.isFn K (.ref f8) = true)
    (l8 : K.lookup f8 = some ⟨oc8, od8, .func (PySem.W.fnOf "__eq__" "Word.__eq__" (defArgs s_Word_eq) (defBody s_Word_eq) (defScope s_Word_eq) .none kV8 dc8 pm8 an8 cd8 ct8), sl8⟩)
    (c8 : PySem.W.codeIn K cd8 "Word.__eq__" = true)
    (k8 : PySem.W.keepIn K (.ref f8) = true)
    (a9 : PySem.W.nsIn K mainGlobals "is_word" = some (some (.ref f9)))
    (l9 : K.lookup f9 = some ⟨oc9, od9, .func (PySem.W.fnOf "is_word" "is_word" (defArgs s_is_word) (defBody s_is_word) (defScope s_is_word) .none kV9 dc9 pm9 an9 cd9 ct9), sl9⟩)
    (c9 : PySem.W.codeIn K cd9 "is_word" = true)
    (k9 : PySem.W.keepIn K (.ref f9) = true)
    (a10 : PySem.W.findIn K (.ref C10) "__init__" = some (some (.ref f10)))
    (i10 : PySem.W.isFn K (.ref f10) = true)
    (l10 : K.lookup f10 = some ⟨oc10, od10, .func (PySem.W.fnOf "__init__" "Row.__init__" (defArgs s_Row_init) (defBody s_Row_init) (defScope s_Row_init) .none kV10 dc10 pm10 an10 cd10 ct10), sl10⟩)
    (c10 : PySem.W.codeIn K cd10 "Row.__init__" = true)
    (k10 : PySem.W.keepIn K (.ref f10) = true)
    (a11 : PySem.W.findIn K (.ref C10) "__or__" = some (some (.ref f11)))
    (i11 : PySem.W.isFn K (.ref f11) = true)
    (l11 : K.lookup f11 = some ⟨oc11, od11, .func (PySem.W.fnOf "__or__" "Row.__or__" (defArgs s_Row_or) (defBody s_Row_or) (defScope s_Row_or) .none kV11 dc11 pm11 an11 cd11 ct11), sl11⟩)
    (c11 : PySem.W.codeIn K cd11 "Row.__or__" = true)
    (k11 : PySem.W.keepIn K (.ref f11) = true)
    (rd10 : PySem.W.readsIn K C10 (.type "type") = true)
    (gd10 : PySem.W.specialIn K (.ref C10) "__getattribute__" = some (some (.builtin "type.__getattribute__")))
    (q12 : PySem.W.findCls K (.ref C10) (.type "type") "read" = some (.get (.builtin "classmethod.__get__") (.ref p12) .none (.ref C10)))
    (a12 : PySem.W.recIn K p12 "classmethod" = some (.ref f12 :: rs12))
    (fi12 : PySem.W.fnIn K f12 = true)
    (l12 : K.lookup f12 = some ⟨oc12, od12, .func (PySem.W.fnOf "read" "Row.read" (defArgs s_Row_read) (defBody s_Row_read) (defScope s_Row_read) .none kV12 dc12 pm12 an12 cd12 ct12), sl12⟩)
    (c12 : PySem.W.codeIn K cd12 "Row.read" = true)
    (k12 : PySem.W.keepIn K (.ref f12) = true)
    (a13 : PySem.W.findIn K (.ref C10) "__eq__" = some (some (.ref f13)))
    (i13 : PySem.W.isFn K (.ref f13) = true)
    (l13 : K.lookup f13 = some ⟨oc13, od13, .func (PySem.W.fnOf "__eq__" "Row.__eq__" (defArgs s_Row_eq) (defBody s_Row_eq) (defScope s_Row_eq) .none kV13 dc13 pm13 an13 cd13 ct13), sl13⟩)
    (c13 : PySem.W.codeIn K cd13 "Row.__eq__" = true)
    (k13 : PySem.W.keepIn K (.ref f13) = true)
    (a14 : PySem.W.findIn K (.ref C10) "__str__" = some (some (.ref f14)))
    (i14 : PySem.W.isFn K (.ref f14) = true)
    (l14 : K.lookup f14 = some ⟨oc14, od14, .func (PySem.W.fnOf "__str__" "Row.__str__" (defArgs s_Row_str) (defBody s_Row_str) (defScope s_Row_str) .none kV14 dc14 pm14 an14 cd14 ct14), sl14⟩)
    (c14 : PySem.W.codeIn K cd14 "Row.__str__" = true)
    (k14 : PySem.W.keepIn K (.ref f14) = true)
    (a15 : PySem.W.nsIn K mainGlobals "_law_pen" = some (some (.ref f15)))
    (l15 : K.lookup f15 = some ⟨oc15, od15, .func (PySem.W.fnOf "_law_pen" "_law_pen" (defArgs s_law_pen) (defBody s_law_pen) (defScope s_law_pen) .none kV15 dc15 pm15 an15 cd15 ct15), sl15⟩)
    (c15 : PySem.W.codeIn K cd15 "_law_pen" = true)
    (k15 : PySem.W.keepIn K (.ref f15) = true)
    (a16 : PySem.W.nsIn K mainGlobals "_law_draw" = some (some (.ref f16)))
    (l16 : K.lookup f16 = some ⟨oc16, od16, .func (PySem.W.fnOf "_law_draw" "_law_draw" (defArgs s_law_draw) (defBody s_law_draw) (defScope s_law_draw) .none kV16 dc16 pm16 an16 cd16 ct16), sl16⟩)
    (c16 : PySem.W.codeIn K cd16 "_law_draw" = true)
    (k16 : PySem.W.keepIn K (.ref f16) = true)
    (a17 : PySem.W.nsIn K mainGlobals "_law_pick" = some (some (.ref f17)))
    (l17 : K.lookup f17 = some ⟨oc17, od17, .func (PySem.W.fnOf "_law_pick" "_law_pick" (defArgs s_law_pick) (defBody s_law_pick) (defScope s_law_pick) .none kV17 dc17 pm17 an17 cd17 ct17), sl17⟩)
    (c17 : PySem.W.codeIn K cd17 "_law_pick" = true)
    (k17 : PySem.W.keepIn K (.ref f17) = true)
    (a18 : PySem.W.nsIn K mainGlobals "_law_heard" = some (some (.ref f18)))
    (l18 : K.lookup f18 = some ⟨oc18, od18, .func (PySem.W.fnOf "_law_heard" "_law_heard" (defArgs s_law_heard) (defBody s_law_heard) (defScope s_law_heard) .none kV18 dc18 pm18 an18 cd18 ct18), sl18⟩)
    (c18 : PySem.W.codeIn K cd18 "_law_heard" = true)
    (k18 : PySem.W.keepIn K (.ref f18) = true)
    (a19 : PySem.W.nsIn K mainGlobals "_law_sorted" = some (some (.ref f19)))
    (l19 : K.lookup f19 = some ⟨oc19, od19, .func (PySem.W.fnOf "_law_sorted" "_law_sorted" (defArgs s_law_sorted) (defBody s_law_sorted) (defScope s_law_sorted) .none kV19 dc19 pm19 an19 cd19 ct19), sl19⟩)
    (c19 : PySem.W.codeIn K cd19 "_law_sorted" = true)
    (k19 : PySem.W.keepIn K (.ref f19) = true)
    (a20 : PySem.W.nsIn K mainGlobals "_law_is_text" = some (some (.ref f20)))
    (l20 : K.lookup f20 = some ⟨oc20, od20, .func (PySem.W.fnOf "_law_is_text" "_law_is_text" (defArgs s_law_is_text) (defBody s_law_is_text) (defScope s_law_is_text) .none kV20 dc20 pm20 an20 cd20 ct20), sl20⟩)
    (c20 : PySem.W.codeIn K cd20 "_law_is_text" = true)
    (k20 : PySem.W.keepIn K (.ref f20) = true)
    (a21 : PySem.W.nsIn K mainGlobals "_law_letters" = some (some (.ref f21)))
    (l21 : K.lookup f21 = some ⟨oc21, od21, .func (PySem.W.fnOf "_law_letters" "_law_letters" (defArgs s_law_letters) (defBody s_law_letters) (defScope s_law_letters) .none kV21 dc21 pm21 an21 cd21 ct21), sl21⟩)
    (c21 : PySem.W.codeIn K cd21 "_law_letters" = true)
    (k21 : PySem.W.keepIn K (.ref f21) = true)
    (a22 : PySem.W.nsIn K mainGlobals "_law_texts" = some (some (.ref f22)))
    (l22 : K.lookup f22 = some ⟨oc22, od22, .func (PySem.W.fnOf "_law_texts" "_law_texts" (defArgs s_law_texts) (defBody s_law_texts) (defScope s_law_texts) .none kV22 dc22 pm22 an22 cd22 ct22), sl22⟩)
    (c22 : PySem.W.codeIn K cd22 "_law_texts" = true)
    (k22 : PySem.W.keepIn K (.ref f22) = true)
    (a23 : PySem.W.nsIn K mainGlobals "_law_all_sorted" = some (some (.ref f23)))
    (l23 : K.lookup f23 = some ⟨oc23, od23, .func (PySem.W.fnOf "_law_all_sorted" "_law_all_sorted" (defArgs s_law_all_sorted) (defBody s_law_all_sorted) (defScope s_law_all_sorted) .none kV23 dc23 pm23 an23 cd23 ct23), sl23⟩)
    (c23 : PySem.W.codeIn K cd23 "_law_all_sorted" = true)
    (k23 : PySem.W.keepIn K (.ref f23) = true)
    (a24 : PySem.W.nsIn K mainGlobals "_law_row" = some (some (.ref f24)))
    (l24 : K.lookup f24 = some ⟨oc24, od24, .func (PySem.W.fnOf "_law_row" "_law_row" (defArgs s_law_row) (defBody s_law_row) (defScope s_law_row) .none kV24 dc24 pm24 an24 cd24 ct24), sl24⟩)
    (c24 : PySem.W.codeIn K cd24 "_law_row" = true)
    (k24 : PySem.W.keepIn K (.ref f24) = true)
    (a25 : PySem.W.nsIn K mainGlobals "_law_told" = some (some (.ref f25)))
    (l25 : K.lookup f25 = some ⟨oc25, od25, .func (PySem.W.fnOf "_law_told" "_law_told" (defArgs s_law_told) (defBody s_law_told) (defScope s_law_told) .none kV25 dc25 pm25 an25 cd25 ct25), sl25⟩)
    (c25 : PySem.W.codeIn K cd25 "_law_told" = true)
    (k25 : PySem.W.keepIn K (.ref f25) = true)
    (a26 : PySem.W.nsIn K mainGlobals "_law_page" = some (some (.ref f26)))
    (l26 : K.lookup f26 = some ⟨oc26, od26, .func (PySem.W.fnOf "_law_page" "_law_page" (defArgs s_law_page) (defBody s_law_page) (defScope s_law_page) .none kV26 dc26 pm26 an26 cd26 ct26), sl26⟩)
    (c26 : PySem.W.codeIn K cd26 "_law_page" = true)
    (k26 : PySem.W.keepIn K (.ref f26) = true)
    (a27 : PySem.W.nsIn K mainGlobals "_law_due" = some (some (.ref f27)))
    (l27 : K.lookup f27 = some ⟨oc27, od27, .func (PySem.W.fnOf "_law_due" "_law_due" (defArgs s_law_due) (defBody s_law_due) (defScope s_law_due) .none kV27 dc27 pm27 an27 cd27 ct27), sl27⟩)
    (c27 : PySem.W.codeIn K cd27 "_law_due" = true)
    (k27 : PySem.W.keepIn K (.ref f27) = true)
    (a28 : PySem.W.nsIn K mainGlobals "_law_bent" = some (some (.ref f28)))
    (l28 : K.lookup f28 = some ⟨oc28, od28, .func (PySem.W.fnOf "_law_bent" "_law_bent" (defArgs s_law_bent) (defBody s_law_bent) (defScope s_law_bent) .none kV28 dc28 pm28 an28 cd28 ct28), sl28⟩)
    (c28 : PySem.W.codeIn K cd28 "_law_bent" = true)
    (k28 : PySem.W.keepIn K (.ref f28) = true)
    (a29 : PySem.W.nsIn K mainGlobals "_law_read_right" = some (some (.ref f29)))
    (l29 : K.lookup f29 = some ⟨oc29, od29, .func (PySem.W.fnOf "_law_read_right" "_law_read_right" (defArgs s_law_read_right) (defBody s_law_read_right) (defScope s_law_read_right) .none kV29 dc29 pm29 an29 (.ref cc29) ct29), sl29⟩)
    (c29 : PySem.W.codeIn K (.ref cc29) "_law_read_right" = true)
    (k29 : PySem.W.keepIn K (.ref f29) = true)
    (lc29 : K.lookup cc29 = some ⟨oe29, oo29, .fields vs29, se29⟩)
    (vt29 : vs29[11]? = some (Value.ref PT29))
    (tl29 : K.lookup PT29 = none)
    (a30 : PySem.W.nsIn K mainGlobals "law" = some (some (.ref f30)))
    (l30 : K.lookup f30 = some ⟨oc30, od30, .func (PySem.W.fnOf "law" "law" (defArgs s_law) (defBody s_law) (defScope s_law) .none kV30 dc30 pm30 an30 (.ref cc30) ct30), sl30⟩)
    (c30 : PySem.W.codeIn K (.ref cc30) "law" = true)
    (k30 : PySem.W.keepIn K (.ref f30) = true)
    (lc30 : K.lookup cc30 = some ⟨oe30, oo30, .fields vs30, se30⟩)
    (vt30 : vs30[11]? = some (Value.ref PT30))
    (tl30 : K.lookup PT30 = none)
    (mk7 : PySem.W.makesIn K C7 = true)
    (kp7 : PySem.W.keepIn K (.ref C7) = true)
    (mk10 : PySem.W.makesIn K C10 = true)
    (kp10 : PySem.W.keepIn K (.ref C10) = true)
    (xe0 : PySem.W.subIn K (.ref C0) (.type "BaseException") = some true)
    (xh0 : PySem.W.hasDictIn K C0 = true)
    (xt0 : PySem.W.typeIn K (.ref C0) = some (.type "type"))
    (sx_9_0 : PySem.W.subIn K (.ref C9) (.ref C0) = some true)
    (sx_8_0 : PySem.W.subIn K (.ref C8) (.ref C0) = some true)
    (sx_6_0 : PySem.W.subIn K (.ref C6) (.ref C0) = some true)
    (sx_5_0 : PySem.W.subIn K (.ref C5) (.ref C0) = some true)
    (sx_4_0 : PySem.W.subIn K (.ref C4) (.ref C0) = some true)
    (sx_2_0 : PySem.W.subIn K (.ref C2) (.ref C0) = some true)
    (sx_0_0 : PySem.W.subIn K (.ref C0) (.ref C0) = some true)
    (pn29_30 : PT29 ≠ PT30)
    (pn30_29 : PT30 ≠ PT29)
    : ∃ (fd : FuncData) (cp : List (Addr × Addr)) (TT : List (Addr × Str)), (∀ p ∈ cp, ∃ y ∈ (["_law_read_right", "law"] : List Str), PySem.W.tabIn K y = some p) ∧ (∀ p ∈ cp, K.lookup p.2 = none) ∧ (∀ t ∈ TT, ∃ p ∈ cp, p.2 = t.1) ∧ (∀ (s : Shared) (v : Value), BindsTo s fd ⟨[v], []⟩ [("_law_script", v)]) ∧ ∀ base : Heap, K.In base → base.Ns mainGlobals mg → (∀ p ∈ cp, LamX.TabB base mg p.1 p.2) → FnG l.prog w K mg base (L2.CX l.prog w) 12 fa fd ["_law_script"] (spLaw K TT) := by
  have e := hfa.symm.trans (PySem.W.mg_of X G a30)
  cases e
  let cs := (⟨[.ref C0, .int 0, .ref C2, .int 0, .ref C4, .ref C5, .ref C6, .ref C7, .ref C8, .ref C9, .ref C10], [(PT29, lamq "_law_read_right"), (PT30, lamq "law")]⟩ : CS)
  have ni : NoNI cs := (noni_cons ni_ref (noni_cons ni_int (noni_cons ni_ref (noni_cons ni_int (noni_cons ni_ref (noni_cons ni_ref (noni_cons ni_ref (noni_cons ni_ref (noni_cons ni_ref (noni_cons ni_ref (noni_cons ni_ref noni_nil)))))))))))
  have F1 := fun_mk (st := s_BadRow_init) l1 c1 k1
  have b1 := F1.binds (ps := ["self", "at"]) fun _ _ _ _ _ _ us hl => match us, hl with | [_, _], _ => rfl
  have ox8 : OexC K C8 := ⟨⟨_, _, _, _, _, _, _, _, _, _, _, _, _, _, _, xL8, xr8⟩, xs8, xe8, xt8, xk8⟩
  have F2 := fun_mk (st := s_BadText_init) l2 c2 k2
  have b2 := F2.binds (ps := ["self", "line", "word"]) fun _ _ _ _ _ _ us hl => match us, hl with | [_, _, _], _ => rfl
  have ox2 : OexC K C2 := ⟨⟨_, _, _, _, _, _, _, _, _, _, _, _, _, _, _, xL2, xr2⟩, xs2, xe2, xt2, xk2⟩
  have F3 := fun_mk (st := s_BadWord_init) l3 c3 k3
  have b3 := F3.binds (ps := ["self", "value"]) fun _ _ _ _ _ _ us hl => match us, hl with | [_, _], _ => rfl
  have ox5 : OexC K C5 := ⟨⟨_, _, _, _, _, _, _, _, _, _, _, _, _, _, _, xL5, xr5⟩, xs5, xe5, xt5, xk5⟩
  have F4 := fun_mk (st := s_TooMany_init) l4 c4 k4
  have b4 := F4.binds (ps := ["self", "what", "most"]) fun _ _ _ _ _ _ us hl => match us, hl with | [_, _, _], _ => rfl
  have ox6 : OexC K C6 := ⟨⟨_, _, _, _, _, _, _, _, _, _, _, _, _, _, _, xL6, xr6⟩, xs6, xe6, xt6, xk6⟩
  have F5 := fun_mk (st := s_is_text) l5 c5 k5
  have b5 := F5.binds (ps := ["value"]) fun _ _ _ _ _ _ us hl => match us, hl with | [_], _ => rfl
  have F6 := fun_mk (st := s_Word_init) l6 c6 k6
  have b6 := F6.binds (ps := ["self", "text"]) fun _ _ _ _ _ _ us hl => match us, hl with | [_, _], _ => rfl
  have F7 := fun_mk (st := s_Word_of) l7 c7 k7
  have b7 := F7.binds (ps := ["value"]) fun _ _ _ _ _ _ us hl => match us, hl with | [_], _ => rfl
  have F8 := fun_mk (st := s_Word_eq) l8 c8 k8
  have b8 := F8.binds (ps := ["self", "other"]) fun _ _ _ _ _ _ us hl => match us, hl with | [_, _], _ => rfl
  have F9 := fun_mk (st := s_is_word) l9 c9 k9
  have b9 := F9.binds (ps := ["value"]) fun _ _ _ _ _ _ us hl => match us, hl with | [_], _ => rfl
  have F10 := fun_mk (st := s_Row_init) l10 c10 k10
  have F11 := fun_mk (st := s_Row_or) l11 c11 k11
  have b11 := F11.binds (ps := ["self", "other"]) fun _ _ _ _ _ _ us hl => match us, hl with | [_, _], _ => rfl
  have F12 := fun_mk (st := s_Row_read) l12 c12 k12
  have b12 := F12.binds (ps := ["cls", "text"]) fun _ _ _ _ _ _ us hl => match us, hl with | [_, _], _ => rfl
  have F13 := fun_mk (st := s_Row_eq) l13 c13 k13
  have b13 := F13.binds (ps := ["self", "other"]) fun _ _ _ _ _ _ us hl => match us, hl with | [_, _], _ => rfl
  have F14 := fun_mk (st := s_Row_str) l14 c14 k14
  have b14 := F14.binds (ps := ["self"]) fun _ _ _ _ _ _ us hl => match us, hl with | [_], _ => rfl
  have F15 := fun_mk (st := s_law_pen) l15 c15 k15
  have b15 := F15.binds (ps := ["_law_script"]) fun _ _ _ _ _ _ us hl => match us, hl with | [_], _ => rfl
  have F16 := fun_mk (st := s_law_draw) l16 c16 k16
  have b16 := F16.binds (ps := ["_law_pen_here", "_law_many"]) fun _ _ _ _ _ _ us hl => match us, hl with | [_, _], _ => rfl
  have F17 := fun_mk (st := s_law_pick) l17 c17 k17
  have b17 := F17.binds (ps := ["_law_pen_here", "_law_some"]) fun _ _ _ _ _ _ us hl => match us, hl with | [_, _], _ => rfl
  have F18 := fun_mk (st := s_law_heard) l18 c18 k18
  have b18 := F18.binds (ps := ["_law_ask"]) fun _ _ _ _ _ _ us hl => match us, hl with | [_], _ => rfl
  have F19 := fun_mk (st := s_law_sorted) l19 c19 k19
  have b19 := F19.binds (ps := ["_law_signs"]) fun _ _ _ _ _ _ us hl => match us, hl with | [_], _ => rfl
  have F20 := fun_mk (st := s_law_is_text) l20 c20 k20
  have b20 := F20.binds (ps := ["_law_value"]) fun _ _ _ _ _ _ us hl => match us, hl with | [_], _ => rfl
  have F21 := fun_mk (st := s_law_letters) l21 c21 k21
  have b21 := F21.binds (ps := ["_law_pen_here", "_law_least", "_law_most"]) fun _ _ _ _ _ _ us hl => match us, hl with | [_, _, _], _ => rfl
  have F22 := fun_mk (st := s_law_texts) l22 c22 k22
  have b22 := F22.binds (ps := ["_law_pen_here", "_law_most"]) fun _ _ _ _ _ _ us hl => match us, hl with | [_, _], _ => rfl
  have F23 := fun_mk (st := s_law_all_sorted) l23 c23 k23
  have b23 := F23.binds (ps := ["_law_texts_here"]) fun _ _ _ _ _ _ us hl => match us, hl with | [_], _ => rfl
  have F24 := fun_mk (st := s_law_row) l24 c24 k24
  have b24 := F24.binds (ps := ["_law_texts_here"]) fun _ _ _ _ _ _ us hl => match us, hl with | [_], _ => rfl
  have F25 := fun_mk (st := s_law_told) l25 c25 k25
  have b25 := F25.binds (ps := ["_law_row_here"]) fun _ _ _ _ _ _ us hl => match us, hl with | [_], _ => rfl
  have F26 := fun_mk (st := s_law_page) l26 c26 k26
  have b26 := F26.binds (ps := ["_law_texts_here"]) fun _ _ _ _ _ _ us hl => match us, hl with | [_], _ => rfl
  have F27 := fun_mk (st := s_law_due) l27 c27 k27
  have b27 := F27.binds (ps := ["_law_page_here"]) fun _ _ _ _ _ _ us hl => match us, hl with | [_], _ => rfl
  have F28 := fun_mk (st := s_law_bent) l28 c28 k28
  have b28 := F28.binds (ps := ["_law_pen_here", "_law_page_here"]) fun _ _ _ _ _ _ us hl => match us, hl with | [_, _], _ => rfl
  have tn29 : PySem.W.tabIn K "_law_read_right" = some (cc29, PT29) := tab_mk a29 l29 rfl lc29 vt29
  have F29 := funL_mk (st := s_law_read_right) l29 c29 k29
  have b29 := F29.fn.binds (ps := ["_law_page_here"]) fun _ _ _ _ _ _ us hl => match us, hl with | [_], _ => rfl
  have tn30 : PySem.W.tabIn K "law" = some (cc30, PT30) := tab_mk a30 l30 rfl lc30 vt30
  have F30 := funL_mk (st := s_law) l30 c30 k30
  have b30 := F30.fn.binds (ps := ["_law_script"]) fun _ _ _ _ _ _ us hl => match us, hl with | [_], _ => rfl
  have T : TX mg cs := ⟨PySem.W.mg_none_of X G z_abs, PySem.W.mg_none_of X G z_all, PySem.W.mg_none_of X G z_enumerate, PySem.W.mg_none_of X G z_int, PySem.W.mg_none_of X G z_isinstance, PySem.W.mg_none_of X G z_len, PySem.W.mg_none_of X G z_range, PySem.W.mg_none_of X G z_repr, PySem.W.mg_none_of X G z_sorted, PySem.W.mg_none_of X G z_str, PySem.W.mg_none_of X G z_tuple, ⟨C2, PySem.W.mg_of X G aC2, rfl⟩, ⟨C7, PySem.W.mg_of X G aC7, rfl⟩, ⟨C10, PySem.W.mg_of X G aC10, rfl⟩, ⟨_, PySem.W.mg_of X G v_LETTERS_words⟩, ⟨_, PySem.W.mg_of X G v_MOST_LETTERS⟩, ⟨_, PySem.W.mg_of X G v_MOST_WORDS⟩, ⟨_, PySem.W.mg_of X G v_TAB⟩, ⟨_, PySem.W.mg_of X G v_EMPTY⟩, PySem.W.mg_none_of X G z_list⟩
  have KF : KFX K cs := ⟨⟨(all_cons (at_cls (p := fun C => Cls K C ∧ NoAttr K C "text") (C := C7) rfl ⟨(⟨pg7, hd7, po7, sa7⟩ : Cls K C7), na7_text⟩) all_nil)⟩,
    ⟨(all_cons (at_cls (p := fun C => Cls K C ∧ NoAttr K C "words") (C := C10) rfl ⟨(⟨pg10, hd10, po10, sa10⟩ : Cls K C10), na10_words⟩) all_nil)⟩,
    ⟨at_cls (C := C10) rfl (all_cons nf_none_10 (all_cons nf_bool_10 (all_cons nf_int_10 (all_cons nf_str_10 (all_cons nf_tuple_10 (all_cons nf_list_10 (all_cons nf_dict_10 all_nil))))))), at_cls (C := C10) rfl (all_cons (at_cls (p := fun C => PySem.W.notFirst K C10 (.ref C) = true) (C := C10) rfl no_10_10) all_nil)⟩,
    ⟨⟨C10, rfl, fo10, mo10⟩⟩,
    ⟨at_cls (C := C10) rfl mo10, at_cls (C := C10) rfl nn10⟩,
    opF_mk (C := C10) (s := "__ror__") rfl sf10 (by decide +kernel) ro10_BitOr rfl (all_cons ⟨by kernel_rfl, by kernel_rfl, sb_str_10⟩ all_nil),
    ⟨(all_cons ⟨C2, rfl, ⟨xg2, xq2, xe2, xh2, xa2, hn, htk, xm2⟩, (all_cons ⟨.ref C2, .ref C2, rfl, fun u r => r, kit_self⟩ all_nil)⟩ all_nil)⟩,
    ⟨(all_cons ⟨C2, rfl, ⟨xg2, xq2, xe2, xh2⟩, na2_line⟩ all_nil)⟩,
    ⟨(all_cons ⟨C2, rfl, ⟨xg2, xq2, xe2, xh2⟩, na2_word⟩ all_nil)⟩,
    ⟨(all_cons ⟨C7, rfl, ⟨(⟨pg7, hd7, po7, sa7⟩ : Cls K C7), ha7, hn, htk, hm7⟩, tysB_all (kit_ty (by decide +kernel) bs_bool_7) (kit_ty (by decide +kernel) bs_int_7) (kit_ty (by decide +kernel) bs_str_7) (kit_ty (by decide +kernel) bs_tuple_7) (kit_ty (by decide +kernel) bs_list_7) (kit_ty (by decide +kernel) bs_dict_7), tysA_all (kit_sub nofun ic7 tc7 sb_none_7) (kit_sub nofun ic7 tc7 sb_bool_7) (kit_sub nofun ic7 tc7 sb_int_7) (kit_sub nofun ic7 tc7 sb_str_7) (kit_sub nofun ic7 tc7 sb_tuple_7) (kit_sub nofun ic7 tc7 sb_list_7) (kit_sub nofun ic7 tc7 sb_dict_7), (all_cons (at_cls (p := fun C => PySem.W.kitOne K (.ref C7) (.ref C) = some (isiS 7 7)) (C := C7) rfl kit_self) (all_cons (at_cls (p := fun C => PySem.W.kitOne K (.ref C7) (.ref C) = some (isiS 7 10)) (C := C10) rfl (kit_sub ne_7_10 ic10 tc10 ss_7_10)) all_nil))⟩ (all_cons ⟨C10, rfl, ⟨(⟨pg10, hd10, po10, sa10⟩ : Cls K C10), ha10, hn, htk, hm10⟩, tysB_all (kit_ty (by decide +kernel) bs_bool_10) (kit_ty (by decide +kernel) bs_int_10) (kit_ty (by decide +kernel) bs_str_10) (kit_ty (by decide +kernel) bs_tuple_10) (kit_ty (by decide +kernel) bs_list_10) (kit_ty (by decide +kernel) bs_dict_10), tysA_all (kit_sub nofun ic10 tc10 sb_none_10) (kit_sub nofun ic10 tc10 sb_bool_10) (kit_sub nofun ic10 tc10 sb_int_10) (kit_sub nofun ic10 tc10 sb_str_10) (kit_sub nofun ic10 tc10 sb_tuple_10) (kit_sub nofun ic10 tc10 sb_list_10) (kit_sub nofun ic10 tc10 sb_dict_10), (all_cons (at_cls (p := fun C => PySem.W.kitOne K (.ref C10) (.ref C) = some (isiS 10 7)) (C := C7) rfl (kit_sub ne_10_7 ic7 tc7 ss_10_7)) (all_cons (at_cls (p := fun C => PySem.W.kitOne K (.ref C10) (.ref C) = some (isiS 10 10)) (C := C10) rfl kit_self) all_nil))⟩ all_nil))⟩⟩
  refine ⟨PySem.W.fnOf "law" "law" (defArgs s_law) (defBody s_law) (defScope s_law) .none kV30 dc30 pm30 an30 (.ref cc30) ct30, [(cc29, PT29), (cc30, PT30)], [(PT29, lamq "_law_read_right"), (PT30, lamq "law")], (all_cons ⟨"_law_read_right", List.mem_cons_self, tn29⟩ (all_cons ⟨"law", (List.mem_cons_of_mem _ List.mem_cons_self), tn30⟩ all_nil)), (all_cons tl29 (all_cons tl30 all_nil)), (all_cons ⟨(cc29, PT29), List.mem_cons_self, rfl⟩ (all_cons ⟨(cc30, PT30), (List.mem_cons_of_mem _ List.mem_cons_self), rfl⟩ all_nil)), fun s v => .of_eq rfl, fun base _ _ tb => ?_⟩
  have KR : KRX l.prog w K mg base cs := ⟨⟨C8, f1, _, _, rfl, ox8, a1, xi1, exi1 F1 sc_BadRow_init ox8 na8_at rfl, b1, PySem.W.mg_of X G aC8⟩,
    ⟨C2, f2, _, _, rfl, ox2, a2, xi2, exi2 F2 sc_BadText_init ox2 na2_line na2_word rfl, b2, PySem.W.mg_of X G aC2⟩,
    ⟨C5, f3, _, _, rfl, ox5, a3, xi3, exi1 F3 sc_BadWord_init ox5 na5_value rfl, b3, PySem.W.mg_of X G aC5⟩,
    ⟨C6, f4, _, _, rfl, ox6, a4, xi4, exi2 F4 sc_TooMany_init ox6 na6_what na6_most rfl, b4, PySem.W.mg_of X G aC6⟩⟩
  have D_is_text : FnD l.prog w K mg base cs 1 "is_text" 1 0 S_is_text := ⟨f5, _, _, ok_is_text F5 T KF , PySem.W.mg_of X G a5, k5, b5⟩
  have D_Word_init : MkD l.prog w K mg base cs 3 "Word" 7 2 0 S_Word_init := ⟨C7, f6, _, _, rfl, ⟨mk7, a6, i6, kp7⟩, ok_Word_init F6 T KF KR D_is_text, PySem.W.mg_of X G aC7, b6⟩
  have D_Word_of : StD l.prog w K mg base cs 5 7 "of" 1 0 S_Word_of := ⟨C7, p7, f7, _, _, _, rs7, rfl, ⟨rd7, gd7⟩, q7, a7, k7, ok_Word_of F7 T KF D_Word_init, b7⟩
  have D_Word_eq : MtD l.prog w K mg base cs 1 7 (cmpInfo CmpOp.Eq).2.1 2 0 S_Word_eq := ⟨C7, f8, _, _, rfl, (⟨pg7, hd7, po7, sa7⟩ : Cls K C7), ⟨(by rw [show (cmpInfo CmpOp.Eq).2.1 = "__eq__" by decide +kernel]; exact a8), i8, k8⟩, ok_Word_eq F8 T KF , b8⟩
  have D_is_word : FnD l.prog w K mg base cs 2 "is_word" 1 0 S_is_word := ⟨f9, _, _, ok_is_word F9 T KF D_is_text, PySem.W.mg_of X G a9, k9, b9⟩
  have D_Row_init : MkS l.prog w K mg base cs 6 "Row" 10 0 S_Row_init := ⟨C10, f10, rfl, ⟨mk10, a10, i10, kp10⟩, ok_Row_init F10 (fun u rest => match rest with | [] => rfl | _ :: _ => rfl) T KF KR D_is_word D_Word_of, PySem.W.mg_of X G aC10⟩
  have D_Row_or : MtD l.prog w K mg base cs 8 10 (PySem.dunder (Operator.BitOr).info.2) 2 0 S_Row_or := ⟨C10, f11, _, _, rfl, (⟨pg10, hd10, po10, sa10⟩ : Cls K C10), ⟨(by rw [show (PySem.dunder (Operator.BitOr).info.2) = "__or__" by decide +kernel]; exact a11), i11, k11⟩, ok_Row_or F11 T KF D_Word_of D_Row_init, b11⟩
  have D_Row_read : CmD l.prog w K mg base cs 8 10 "read" 2 0 S_Row_read := ⟨C10, p12, f12, _, _, _, rfl, ⟨rd10, gd10⟩, ⟨q12, ⟨_, a12⟩, fi12⟩, ok_Row_read F12 T KF KR D_Row_init D_is_text, b12⟩
  have KD_Row_read_text : CmK l.prog w K mg base cs 8 10 "read" 2 0 S_Row_read ["text"] [0] := ⟨C10, p12, f12, _, _, _, rfl, ⟨rd10, gd10⟩, ⟨q12, ⟨_, a12⟩, fi12⟩, ok_Row_read F12 T KF KR D_Row_init D_is_text, (kwB_all fun us ws h1 h2 => match us, ws, h1, h2 with | [_], [_], _, _ => rfl)⟩
  have D_Row_eq : MtD l.prog w K mg base cs 3 10 (cmpInfo CmpOp.Eq).2.1 2 0 S_Row_eq := ⟨C10, f13, _, _, rfl, (⟨pg10, hd10, po10, sa10⟩ : Cls K C10), ⟨(by rw [show (cmpInfo CmpOp.Eq).2.1 = "__eq__" by decide +kernel]; exact a13), i13, k13⟩, ok_Row_eq F13 T KF D_Word_eq, b13⟩
  have D_Row_str : MtD l.prog w K mg base cs 1 10 "__str__" 1 0 S_Row_str := ⟨C10, f14, _, _, rfl, (⟨pg10, hd10, po10, sa10⟩ : Cls K C10), ⟨a14, i14, k14⟩, ok_Row_str F14 T KF , b14⟩
  have D_law_draw : FnD l.prog w K mg base cs 1 "_law_draw" 2 1 S_law_draw := ⟨f16, _, _, ok_law_draw F16 T , PySem.W.mg_of X G a16, k16, b16⟩
  have D_law_pick : FnD l.prog w K mg base cs 2 "_law_pick" 2 1 S_law_pick := ⟨f17, _, _, ok_law_pick F17 T D_law_draw, PySem.W.mg_of X G a17, k17, b17⟩
  have D_law_heard : HrD l.prog w K mg base cs 0 "_law_heard" 0 0 S_law_heard := ok_law_heard F18 T KF (PySem.W.mg_of X G a18) b18 (PySem.W.mg_of X G aC0) ⟨(all_cons (exm_at (C := C0) rfl (PySem.W.exm_ref xe0 xh0 xt0 sx_0_0)) (all_cons (exm_at (C := C2) rfl (PySem.W.exm_ref xe0 xh0 xt0 sx_2_0)) (all_cons (exm_at (C := C4) rfl (PySem.W.exm_ref xe0 xh0 xt0 sx_4_0)) (all_cons (exm_at (C := C5) rfl (PySem.W.exm_ref xe0 xh0 xt0 sx_5_0)) (all_cons (exm_at (C := C6) rfl (PySem.W.exm_ref xe0 xh0 xt0 sx_6_0)) (all_cons (exm_at (C := C8) rfl (PySem.W.exm_ref xe0 xh0 xt0 sx_8_0)) (all_cons (exm_at (C := C9) rfl (PySem.W.exm_ref xe0 xh0 xt0 sx_9_0)) all_nil))))))), all_nil⟩ 
  have D_law_sorted : FnD l.prog w K mg base cs 1 "_law_sorted" 1 0 S_law_sorted := ⟨f19, _, _, ok_law_sorted F19 T , PySem.W.mg_of X G a19, k19, b19⟩
  have D_law_is_text : FnD l.prog w K mg base cs 1 "_law_is_text" 1 0 S_law_is_text := ⟨f20, _, _, ok_law_is_text F20 T KF , PySem.W.mg_of X G a20, k20, b20⟩
  have D_law_letters : FnD l.prog w K mg base cs 3 "_law_letters" 3 9223372036854775810 S_law_letters := ⟨f21, _, _, ok_law_letters F21 T D_law_pick D_law_draw, PySem.W.mg_of X G a21, k21, b21⟩
  have D_law_texts : FnD l.prog w K mg base cs 4 "_law_texts" 2 85070591730234615902737140005361156097 S_law_texts := ⟨f22, _, _, ok_law_texts F22 T D_law_draw D_law_pick D_law_letters, PySem.W.mg_of X G a22, k22, b22⟩
  have D_law_all_sorted : FnD l.prog w K mg base cs 2 "_law_all_sorted" 1 0 S_law_all_sorted := ⟨f23, _, _, ok_law_all_sorted F23  D_law_sorted, PySem.W.mg_of X G a23, k23, b23⟩
  have D_law_row : FnD l.prog w K mg base cs 9 "_law_row" 1 0 S_law_row := ⟨f24, _, _, ok_law_row F24 KF ni D_Row_init D_Row_or, PySem.W.mg_of X G a24, k24, b24⟩
  have D_law_told : FnD l.prog w K mg base cs 1 "_law_told" 1 0 S_law_told := ⟨f25, _, _, ok_law_told F25 KF , PySem.W.mg_of X G a25, k25, b25⟩
  have D_law_page : FnD l.prog w K mg base cs 1 "_law_page" 1 0 S_law_page := ⟨f26, _, _, ok_law_page F26  , PySem.W.mg_of X G a26, k26, b26⟩
  have D_law_due : FnD l.prog w K mg base cs 3 "_law_due" 1 0 S_law_due := ⟨f27, _, _, ok_law_due F27 T D_law_is_text D_law_all_sorted, PySem.W.mg_of X G a27, k27, b27⟩
  have D_law_bent : FnD l.prog w K mg base cs 3 "_law_bent" 2 3 S_law_bent := ⟨f28, _, _, ok_law_bent F28 T D_law_draw D_law_pick, PySem.W.mg_of X G a28, k28, b28⟩
  have D_law_read_right : FnD l.prog w K mg base cs 11 "_law_read_right" 1 0 S_law_read_right := ⟨f29, _, _, ok_law_read_right F29 (tb (cc29, PT29) List.mem_cons_self) List.mem_cons_self (fun p hp e => (List.mem_cons.mp hp).elim (fun q => (by subst q; first | exact absurd e pn30_29 | rfl)) (fun hp => (List.mem_cons.mp hp).elim (fun q => (by subst q; first | exact absurd e pn30_29 | rfl)) (fun hp => absurd hp List.not_mem_nil))) T D_law_heard D_law_told D_Row_read D_law_due KD_Row_read_text, PySem.W.mg_of X G a29, k29, b29⟩
  have PEN := pen_of (P := l.prog) (w := w) (mg := mg) (base := base) F15 sc_law_pen T.list rfl
  exact ok_law F30 (tb (cc30, PT30) (List.mem_cons_of_mem _ List.mem_cons_self)) (List.mem_cons_of_mem _ List.mem_cons_self) (fun p hp e => (List.mem_cons.mp hp).elim (fun q => (by subst q; first | exact absurd e pn29_30 | rfl)) (fun hp => (List.mem_cons.mp hp).elim (fun q => (by subst q; first | exact absurd e pn29_30 | rfl)) (fun hp => absurd hp List.not_mem_nil))) T KF PEN (PySem.W.mg_of X G a15) k15 b15 D_law_texts D_law_pick D_law_row D_law_page D_Row_str D_law_all_sorted D_Row_read D_Row_eq D_law_bent D_law_read_right D_law_heard
end K14
open PySem PySem.W PyProof.Rows
set_option maxRecDepth 100000 in
set_option maxHeartbeats 0 in
theorem PySem.Challenge.cw_everystop_k14_rows_written_and_read_holds : PySem.Challenge.rw_everystop_k14_rows_written_and_read.Holds := by
  w_on; o_law; k_head; (case hw => w_witness2)
  k_fill
  refine Ev.walkGT (l := PySem.Challenge.rw_everystop_k14_rows_written_and_read) (k := 12) (x := "_law_script") ["_law_read_right", "law"] (by decide +kernel) rfl rfl ⟨rfl, by decide, by decide⟩ (fun w h Y => PySem.W.km_in_of Y) ?F
  case F =>
    intro w mg fa h KX G hmg
    refine' K14.all_mk KX G hmg ?aC0 ?aC2 ?aC4 ?aC5 ?aC6 ?aC7 ?aC8 ?aC9 ?aC10 ?z_abs ?z_all ?z_enumerate ?z_int ?z_isinstance ?z_len ?z_range ?z_repr ?z_sorted ?z_str ?z_tuple ?v_LETTERS_words ?v_MOST_LETTERS ?v_MOST_WORDS ?v_TAB ?v_EMPTY ?z_list ?pg7 ?hd7 ?po7 ?sa7 ?na7_text ?pg10 ?hd10 ?po10 ?sa10 ?na10_words ?nf_dict_10 ?nf_list_10 ?nf_tuple_10 ?nf_str_10 ?nf_int_10 ?nf_bool_10 ?nf_none_10 ?no_10_10 ?mo10 ?fo10 ?nn10 ?sf10 ?ro10_BitOr ?sb_str_10 ?hn ?htk ?ic2 ?tc2 ?xg2 ?xq2 ?xe2 ?xh2 ?xa2 ?xm2 ?na2_line ?na2_word ?ic7 ?tc7 ?ic10 ?tc10 ?ha10 ?hm10 ?bs_bool_10 ?bs_int_10 ?bs_str_10 ?bs_tuple_10 ?bs_list_10 ?bs_dict_10 ?sb_none_10 ?sb_bool_10 ?sb_int_10 ?sb_tuple_10 ?sb_list_10 ?sb_dict_10 ?ss_10_7 ?ne_10_7 ?ha7 ?hm7 ?bs_bool_7 ?bs_int_7 ?bs_str_7 ?bs_tuple_7 ?bs_list_7 ?bs_dict_7 ?sb_none_7 ?sb_bool_7 ?sb_int_7 ?sb_str_7 ?sb_tuple_7 ?sb_list_7 ?sb_dict_7 ?ss_7_10 ?ne_7_10 ?a1 ?i1 ?l1 ?c1 ?k1 ?xL8 ?xr8 ?xs8 ?xe8 ?xt8 ?xk8 ?xi1 ?na8_at ?a2 ?i2 ?l2 ?c2 ?k2 ?xL2 ?xr2 ?xs2 ?xt2 ?xk2 ?xi2 ?a3 ?i3 ?l3 ?c3 ?k3 ?xL5 ?xr5 ?xs5 ?xe5 ?xt5 ?xk5 ?xi3 ?na5_value ?a4 ?i4 ?l4 ?c4 ?k4 ?xL6 ?xr6 ?xs6 ?xe6 ?xt6 ?xk6 ?xi4 ?na6_what ?na6_most ?a5 ?l5 ?c5 ?k5 ?a6 ?i6 ?l6 ?c6 ?k6 ?rd7 ?gd7 ?q7 ?a7 ?l7 ?c7 ?k7 ?a8 ?i8 ?l8 ?c8 ?k8 ?a9 ?l9 ?c9 ?k9 ?a10 ?i10 ?l10 ?c10 ?k10 ?a11 ?i11 ?l11 ?c11 ?k11 ?rd10 ?gd10 ?q12 ?a12 ?fi12 ?l12 ?c12 ?k12 ?a13 ?i13 ?l13 ?c13 ?k13 ?a14 ?i14 ?l14 ?c14 ?k14 ?a15 ?l15 ?c15 ?k15 ?a16 ?l16 ?c16 ?k16 ?a17 ?l17 ?c17 ?k17 ?a18 ?l18 ?c18 ?k18 ?a19 ?l19 ?c19 ?k19 ?a20 ?l20 ?c20 ?k20 ?a21 ?l21 ?c21 ?k21 ?a22 ?l22 ?c22 ?k22 ?a23 ?l23 ?c23 ?k23 ?a24 ?l24 ?c24 ?k24 ?a25 ?l25 ?c25 ?k25 ?a26 ?l26 ?c26 ?k26 ?a27 ?l27 ?c27 ?k27 ?a28 ?l28 ?c28 ?k28 ?a29 ?l29 ?c29 ?k29 ?lc29 ?vt29 ?tl29 ?a30 ?l30 ?c30 ?k30 ?lc30 ?vt30 ?tl30 ?mk7 ?kp7 ?mk10 ?kp10 ?xe0 ?xh0 ?xt0 ?sx_9_0 ?sx_8_0 ?sx_6_0 ?sx_5_0 ?sx_4_0 ?sx_2_0 ?sx_0_0 ?pn29_30 ?pn30_29
    (case aC0 => k_is)
    (case aC2 => k_is)
    (case aC4 => k_is)
    (case aC5 => k_is)
    (case aC6 => k_is)
    (case aC7 => k_is)
    (case aC8 => k_is)
    (case aC9 => k_is)
    (case aC10 => k_is)
    (case z_abs => k_is)
    (case z_all => k_is)
    (case z_enumerate => k_is)
    (case z_int => k_is)
    (case z_isinstance => k_is)
    (case z_len => k_is)
    (case z_range => k_is)
    (case z_repr => k_is)
    (case z_sorted => k_is)
    (case z_str => k_is)
    (case z_tuple => k_is)
    (case v_LETTERS_words => k_is)
    (case v_MOST_LETTERS => k_is)
    (case v_MOST_WORDS => k_is)
    (case v_TAB => k_is)
    (case v_EMPTY => k_is)
    (case z_list => k_is)
    (case pg7 => k_is)
    (case hd7 => k_is)
    (case po7 => k_is)
    (case sa7 => k_is)
    (case na7_text => k_is)
    (case pg10 => k_is)
    (case hd10 => k_is)
    (case po10 => k_is)
    (case sa10 => k_is)
    (case na10_words => k_is)
    (case nf_dict_10 => k_is)
    (case nf_list_10 => k_is)
    (case nf_tuple_10 => k_is)
    (case nf_str_10 => k_is)
    (case nf_int_10 => k_is)
    (case nf_bool_10 => k_is)
    (case nf_none_10 => k_is)
    (case no_10_10 => k_is)
    (case mo10 => k_is)
    (case fo10 => k_is)
    (case nn10 => k_is)
    (case sf10 => k_is)
    (case ro10_BitOr => k_is)
    (case sb_str_10 => k_is)
    (case hn => k_is)
    (case htk => k_is)
    (case ic2 => k_is)
    (case tc2 => k_is)
    (case xg2 => k_is)
    (case xq2 => k_is)
    (case xe2 => k_is)
    (case xh2 => k_is)
    (case xa2 => k_is)
    (case xm2 => k_is)
    (case na2_line => k_is)
    (case na2_word => k_is)
    (case ic7 => k_is)
    (case tc7 => k_is)
    (case ic10 => k_is)
    (case tc10 => k_is)
    (case ha10 => k_is)
    (case hm10 => k_is)
    (case bs_bool_10 => k_is)
    (case bs_int_10 => k_is)
    (case bs_str_10 => k_is)
    (case bs_tuple_10 => k_is)
    (case bs_list_10 => k_is)
    (case bs_dict_10 => k_is)
    (case sb_none_10 => k_is)
    (case sb_bool_10 => k_is)
    (case sb_int_10 => k_is)
    (case sb_tuple_10 => k_is)
    (case sb_list_10 => k_is)
    (case sb_dict_10 => k_is)
    (case ss_10_7 => k_is)
    (case ne_10_7 => (intro z; injection z with z; revert z; decide))
    (case ha7 => k_is)
    (case hm7 => k_is)
    (case bs_bool_7 => k_is)
    (case bs_int_7 => k_is)
    (case bs_str_7 => k_is)
    (case bs_tuple_7 => k_is)
    (case bs_list_7 => k_is)
    (case bs_dict_7 => k_is)
    (case sb_none_7 => k_is)
    (case sb_bool_7 => k_is)
    (case sb_int_7 => k_is)
    (case sb_str_7 => k_is)
    (case sb_tuple_7 => k_is)
    (case sb_list_7 => k_is)
    (case sb_dict_7 => k_is)
    (case ss_7_10 => k_is)
    (case ne_7_10 => (intro z; injection z with z; revert z; decide))
    (case a1 => k_is)
    (case i1 => k_is)
    (case l1 => k_is)
    (case c1 => k_is)
    (case k1 => k_is)
    (case xL8 => k_is)
    (case xr8 => first | rfl | decide +kernel)
    (case xs8 => k_is)
    (case xe8 => k_is)
    (case xt8 => k_is)
    (case xk8 => k_is)
    (case xi1 => k_is)
    (case na8_at => k_is)
    (case a2 => k_is)
    (case i2 => k_is)
    (case l2 => k_is)
    (case c2 => k_is)
    (case k2 => k_is)
    (case xL2 => k_is)
    (case xr2 => first | rfl | decide +kernel)
    (case xs2 => k_is)
    (case xt2 => k_is)
    (case xk2 => k_is)
    (case xi2 => k_is)
    (case a3 => k_is)
    (case i3 => k_is)
    (case l3 => k_is)
    (case c3 => k_is)
    (case k3 => k_is)
    (case xL5 => k_is)
    (case xr5 => first | rfl | decide +kernel)
    (case xs5 => k_is)
    (case xe5 => k_is)
    (case xt5 => k_is)
    (case xk5 => k_is)
    (case xi3 => k_is)
    (case na5_value => k_is)
    (case a4 => k_is)
    (case i4 => k_is)
    (case l4 => k_is)
    (case c4 => k_is)
    (case k4 => k_is)
    (case xL6 => k_is)
    (case xr6 => first | rfl | decide +kernel)
    (case xs6 => k_is)
    (case xe6 => k_is)
    (case xt6 => k_is)
    (case xk6 => k_is)
    (case xi4 => k_is)
    (case na6_what => k_is)
    (case na6_most => k_is)
    (case a5 => k_is)
    (case l5 => k_is)
    (case c5 => k_is)
    (case k5 => k_is)
    (case a6 => k_is)
    (case i6 => k_is)
    (case l6 => k_is)
    (case c6 => k_is)
    (case k6 => k_is)
    (case rd7 => k_is)
    (case gd7 => k_is)
    (case q7 => k_is)
    (case a7 => k_is)
    (case l7 => k_is)
    (case c7 => k_is)
    (case k7 => k_is)
    (case a8 => k_is)
    (case i8 => k_is)
    (case l8 => k_is)
    (case c8 => k_is)
    (case k8 => k_is)
    (case a9 => k_is)
    (case l9 => k_is)
    (case c9 => k_is)
    (case k9 => k_is)
    (case a10 => k_is)
    (case i10 => k_is)
    (case l10 => k_is)
    (case c10 => k_is)
    (case k10 => k_is)
    (case a11 => k_is)
    (case i11 => k_is)
    (case l11 => k_is)
    (case c11 => k_is)
    (case k11 => k_is)
    (case rd10 => k_is)
    (case gd10 => k_is)
    (case q12 => k_is)
    (case a12 => k_is)
    (case fi12 => k_is)
    (case l12 => k_is)
    (case c12 => k_is)
    (case k12 => k_is)
    (case a13 => k_is)
    (case i13 => k_is)
    (case l13 => k_is)
    (case c13 => k_is)
    (case k13 => k_is)
    (case a14 => k_is)
    (case i14 => k_is)
    (case l14 => k_is)
    (case c14 => k_is)
    (case k14 => k_is)
    (case a15 => k_is)
    (case l15 => k_is)
    (case c15 => k_is)
    (case k15 => k_is)
    (case a16 => k_is)
    (case l16 => k_is)
    (case c16 => k_is)
    (case k16 => k_is)
    (case a17 => k_is)
    (case l17 => k_is)
    (case c17 => k_is)
    (case k17 => k_is)
    (case a18 => k_is)
    (case l18 => k_is)
    (case c18 => k_is)
    (case k18 => k_is)
    (case a19 => k_is)
    (case l19 => k_is)
    (case c19 => k_is)
    (case k19 => k_is)
    (case a20 => k_is)
    (case l20 => k_is)
    (case c20 => k_is)
    (case k20 => k_is)
    (case a21 => k_is)
    (case l21 => k_is)
    (case c21 => k_is)
    (case k21 => k_is)
    (case a22 => k_is)
    (case l22 => k_is)
    (case c22 => k_is)
    (case k22 => k_is)
    (case a23 => k_is)
    (case l23 => k_is)
    (case c23 => k_is)
    (case k23 => k_is)
    (case a24 => k_is)
    (case l24 => k_is)
    (case c24 => k_is)
    (case k24 => k_is)
    (case a25 => k_is)
    (case l25 => k_is)
    (case c25 => k_is)
    (case k25 => k_is)
    (case a26 => k_is)
    (case l26 => k_is)
    (case c26 => k_is)
    (case k26 => k_is)
    (case a27 => k_is)
    (case l27 => k_is)
    (case c27 => k_is)
    (case k27 => k_is)
    (case a28 => k_is)
    (case l28 => k_is)
    (case c28 => k_is)
    (case k28 => k_is)
    (case a29 => k_is)
    (case l29 => k_is)
    (case c29 => k_is)
    (case k29 => k_is)
    (case lc29 => k_is)
    (case vt29 => first | rfl | kernel_rfl)
    (case tl29 => first | kernel_rfl | k_is | rfl)
    (case a30 => k_is)
    (case l30 => k_is)
    (case c30 => k_is)
    (case k30 => k_is)
    (case lc30 => k_is)
    (case vt30 => first | rfl | kernel_rfl)
    (case tl30 => first | kernel_rfl | k_is | rfl)
    (case mk7 => k_is)
    (case kp7 => k_is)
    (case mk10 => k_is)
    (case kp10 => k_is)
    (case xe0 => k_is)
    (case xh0 => k_is)
    (case xt0 => k_is)
    (case sx_9_0 => k_is)
    (case sx_8_0 => k_is)
    (case sx_6_0 => k_is)
    (case sx_5_0 => k_is)
    (case sx_4_0 => k_is)
    (case sx_2_0 => k_is)
    (case sx_0_0 => k_is)
    (case pn29_30 => decide)
    (case pn30_29 => decide)
