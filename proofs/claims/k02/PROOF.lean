import PyProof.Rows.All
import Wide.All
import OpenK.AllK
import Wide.FinOn
import HandS.ForMost
import HandS.ForExc
import HandS.AnyAll
import HandS.IsInst
import HandS.TupAny
import HandS.Zip
import HandS.ExcOwn
import HandS.Wide
import HandS.Defaults
import HandS.Style
import HandS.EndTab
import HandS.HeadHook4
import HandS.Nested
import HandS.Lambda
import HandS.ExcInit
import HandS.ExcField
import HandS.ExcIs
import HandS.RaiseMore
import HandS.TryOnly
import HandS.TryMany
import KE.GoesMore
import KE.GoesEnum
import HandS.Head0
import HandS.Head1
import HandS.Head2
import HandS.HeadEnd
import HandS.HeadHook1
import HandS.HeadHook2
import HandS.HeadHook3
import HandS.HeadWalk
import HandS.NestedK
import HandS.DictTup
import HandS.TupLen
import HandS.SortInts
import KE.SortData
import HandS.Conv
import HandS.SetFor
import HandS.Strs
import KE.KDictDisplayH
import KE.KDictCopyH
import KE.KDictOf
import KE.KExcIs
import HandS.TupMul
import HandS.Property
import PyProof.Rows.SeqMore
import HandS.Words
import PySem.Challenge.RW_wrongclock_k02_almanacs_refused
set_option Elab.async false
set_option linter.all false
set_option maxRecDepth 100000
set_option maxHeartbeats 0
namespace Pd
open PySem PySem.Spec PyProof.Rows L2

/-! ## data -/
theorem sameT {K : PySem.W.Frag} {F F' : Hp} {a : Addr} {xs : List V} (s : Same F F') (h : SqT K F a xs) : SqT K F' a xs := by
  rcases h with (h | ⟨o, h⟩) | h
  · exact .inl (.inl (s _ _ h))
  · exact .inl (.inr ⟨o, s _ _ h⟩)
  · exact .inr h
mutual
/-- v is the data d: tuples stand plainly in F -/
inductive Dp (K : PySem.W.Frag) (F : Hp) : V → PyData → Prop
  | non : Dp K F .non .none
  | bl (b : Bool) : Dp K F (.bl b) (.bool b)
  | int (i : Int) : Dp K F (.int i) (.int i)
  | str (x : Str) : Dp K F (.str x) (.str x)
  | lst {a : Addr} {xs : List V} {ds : List PyData} : SqL K F a xs → DpAll K F xs ds → Dp K F (.ref a) (.list ds)
  | tup {a : Addr} {xs : List V} {ds : List PyData} : F a = some (.tup xs) → DpAll K F xs ds → Dp K F (.ref a) (.tuple ds)
  | dct {a : Addr} {o : Obj} : F a = some (.frz o (.dK [])) → Dp K F (.ref a) (.dict [])
inductive DpAll (K : PySem.W.Frag) (F : Hp) : List V → List PyData → Prop
  | nil : DpAll K F [] []
  | cons {v : V} {vs : List V} {d : PyData} {ds : List PyData} : Dp K F v d → DpAll K F vs ds → DpAll K F (v :: vs) (d :: ds)
end
theorem tupS {K : PySem.W.Frag} {F : Hp} {a : Addr} {xs : List V} (h : F a = some (.tup xs)) : SqT K F a xs := .inl (.inl h)
mutual
/-- no dict in it -/
def noD : PyData → Bool
  | .list ds => noDAll ds
  | .tuple ds => noDAll ds
  | .dict _ => false
  | _ => true
def noDAll : List PyData → Bool
  | [] => true
  | d :: ds => noD d && noDAll ds
end
mutual
theorem noD_of : ∀ d : PyData, d.canLay0 = true → noD d = true
  | .none, _ => rfl
  | .bool _, _ => rfl
  | .int _, _ => rfl
  | .str _, _ => rfl
  | .list ds, h => noDAll_of ds h
  | .tuple ds, h => noDAll_of ds h
  | .dict _, h => by cases h
theorem noDAll_of : ∀ ds : List PyData, PyData.canLayAll0 ds = true → noDAll ds = true
  | [], _ => rfl
  | d :: ds, h => by
    obtain ⟨h1, h2⟩ := Bool.and_eq_true_iff.mp (show (d.canLay0 && PyData.canLayAll0 ds) = true from h)
    show (noD d && noDAll ds) = true
    rw [noD_of d h1, noDAll_of ds h2]
    rfl
end
theorem noD_shaped {d : PyData} (h : SeqAt.shaped d = true) : noD d = true := noD_of d (SeqAt.canLay_of_shaped h)
theorem noDAll_ints : ∀ ns : List Int, noDAll (ns.map PyData.int) = true
  | [] => rfl
  | n :: ns => by
    show (noD (.int n) && noDAll (ns.map PyData.int)) = true
    rw [noDAll_ints ns]
    rfl
mutual
theorem dpK {K : PySem.W.Frag} {F : Hp} : ∀ (d : PyData) (v : V), noD d = true → Dp K F v d → L2.Dp K F v d
  | .none, _, _, h => by cases h; exact .non
  | .bool b, _, _, h => by cases h; exact .bl b
  | .int i, _, _, h => by cases h; exact .int i
  | .str x, _, _, h => by cases h; exact .str x
  | .list ds, _, n, h => by
    cases h with
    | lst h1 h2 => exact .lst h1 (dpAllK ds _ n h2)
  | .tuple ds, _, n, h => by
    cases h with
    | tup h1 h2 => exact .tup (tupS h1) (dpAllK ds _ n h2)
  | .dict _, _, n, h => by cases n
theorem dpAllK {K : PySem.W.Frag} {F : Hp} : ∀ (ds : List PyData) (vs : List V), noDAll ds = true → DpAll K F vs ds → L2.DpAll K F vs ds
  | [], _, _, h => by cases h; exact .nil
  | d :: ds, _, n, h => by
    obtain ⟨n1, n2⟩ := Bool.and_eq_true_iff.mp (show (noD d && noDAll ds) = true from n)
    cases h with
    | cons h1 h2 => exact .cons (dpK d _ n1 h1) (dpAllK ds _ n2 h2)
end
mutual
theorem dp_mono {K : PySem.W.Frag} {F F' : Hp} (s : Same F F') : ∀ (d : PyData) (v : V), Dp K F v d → Dp K F' v d
  | .none, _, h => by cases h; exact .non
  | .bool b, _, h => by cases h; exact .bl b
  | .int i, _, h => by cases h; exact .int i
  | .str x, _, h => by cases h; exact .str x
  | .list ds, _, h => by
    cases h with
    | lst h1 h2 => exact .lst (s.seq h1) (dpAll_mono s ds _ h2)
  | .tuple ds, _, h => by
    cases h with
    | tup h1 h2 => exact .tup (s _ _ h1) (dpAll_mono s ds _ h2)
  | .dict _, _, h => by
    cases h with
    | dct h1 => exact .dct (s _ _ h1)
theorem dpAll_mono {K : PySem.W.Frag} {F F' : Hp} (s : Same F F') : ∀ (ds : List PyData) (vs : List V), DpAll K F vs ds → DpAll K F' vs ds
  | [], _, h => by cases h; exact .nil
  | d :: ds, _, h => by
    cases h with
    | cons h1 h2 => exact .cons (dp_mono s d _ h1) (dpAll_mono s ds _ h2)
end
section
variable {K : PySem.W.Frag} {F : Hp}
theorem dpAll_len : ∀ {vs : List V} {ds : List PyData}, DpAll K F vs ds → vs.length = ds.length
  | _, _, .nil => rfl
  | _, _, .cons _ t => by simp [dpAll_len t]
theorem dpAll_get : ∀ {vs : List V} {ds : List PyData} {i : Nat} {d : PyData}, DpAll K F vs ds → ds[i]? = some d → ∃ v, vs[i]? = some v ∧ Dp K F v d
  | _, _, _, _, .nil, e => by simp at e
  | _, _, 0, _, .cons r _, e => by simp at e; subst e; exact ⟨_, rfl, r⟩
  | _, _, i + 1, d, .cons _ t, e => by
    obtain ⟨u, h1, h2⟩ := dpAll_get (i := i) (d := d) t (by simpa using e)
    exact ⟨u, by simpa using h1, h2⟩
theorem dpAll_getV : ∀ {vs : List V} {ds : List PyData} {i : Nat} {v : V}, DpAll K F vs ds → vs[i]? = some v → ∃ d, ds[i]? = some d ∧ Dp K F v d
  | _, _, _, _, .nil, e => by simp at e
  | _, _, 0, _, .cons r _, e => by simp at e; subst e; exact ⟨_, rfl, r⟩
  | _, _, i + 1, d, .cons _ t, e => by
    obtain ⟨u, h1, h2⟩ := dpAll_getV (i := i) (v := d) t (by simpa using e)
    exact ⟨u, by simpa using h1, h2⟩
theorem dpAll_app : ∀ {vs us : List V} {ds es : List PyData}, DpAll K F vs ds → DpAll K F us es → DpAll K F (vs ++ us) (ds ++ es)
  | _, _, _, _, .nil, s => s
  | _, _, _, _, .cons r t, s => .cons r (dpAll_app t s)
theorem dpAll_take : ∀ {vs : List V} {ds : List PyData} (n : Nat), DpAll K F vs ds → DpAll K F (vs.take n) (ds.take n)
  | _, _, 0, _ => .nil
  | _, _, _ + 1, .nil => .nil
  | _, _, n + 1, .cons r t => .cons r (dpAll_take n t)
theorem dpAll_drop : ∀ {vs : List V} {ds : List PyData} (n : Nat), DpAll K F vs ds → DpAll K F (vs.drop n) (ds.drop n)
  | _, _, 0, r => r
  | _, _, _ + 1, .nil => .nil
  | _, _, n + 1, .cons _ t => dpAll_drop n t
theorem dpAll_ints : ∀ {vs : List V} {ns : List Int}, DpAll K F vs (ns.map PyData.int) → vs = ns.map V.int
  | _, [], h => by cases h; rfl
  | _, n :: ns, h => by
    cases h with
    | cons h1 h2 =>
      cases h1
      rw [dpAll_ints h2]
      rfl
theorem dpAll_ofInts : ∀ (ns : List Int), DpAll K F (ns.map V.int) (ns.map PyData.int)
  | [] => .nil
  | n :: ns => .cons (.int n) (dpAll_ofInts ns)
end

/-! ## the owned objects, the slots -/
/-- a lambda without parameters: what stands in its def's text -/
structure LamD where
  qual : Str
  params : Arguments
  body : Expr
  scope : Scope
  names : List Str
/-- the lambdas of a law -/
class Lams where
  of : Nat → LamD
  q : Str
  wd : He.Defn
/-- a captured value: plain data, or an owned object -/
abbrev Cap : Type := PyData ⊕ Nat
/-- a value: plain data, the k-th owned object, a lambda, a list of lambdas, the caught exception (in a slot alone) -/
inductive Rv where
  | dat (d : PyData)
  | own (k : Nat)
  | fn (j : Nat) (caps : List Cap)
  | fns (fs : List (Nat × List Cap))
  | exv
/-- an owned object's content; fz: a list that may no more be changed -/
inductive Oc where
  | lst (rs : List Rv)
  | fz (ds : List PyData)
  | dk (kvs : List (Key × Rv))
  | dt (kvs : List (List Key × Rv))
  | ins (n : Str) (fs : List (Str × Rv))
  | fk (kvs : List (Key × Rv))
  | ft (kvs : List (List Key × Rv))
  | ltab
  | any
structure En where
  sl : List (Option Rv)
  ob : List Oc
/-- an exception: its class's name, its own field -/
structure Ex where
  cls : Str
  fld : Option (Str × PyData)
inductive Out (α : Type) where
  | ok (a : α) (e : En)
  | exc (x : Ex) (e : En)
  | bad
def M (α : Type) : Type := En → Out α
def ret {α : Type} (a : α) : M α := fun e => .ok a e
def bnd {α β : Type} (m : M α) (k : α → M β) : M β := fun e => match m e with
  | .ok a e' => k a e'
  | .exc x e' => .exc x e'
  | .bad => .bad
def lift {α : Type} (o : Option α) : M α := fun e => match o with
  | some a => .ok a e
  | none => .bad

variable [Lams]
def CapR (K : PySem.W.Frag) (F : Hp) (al : List Addr) (v : V) : Cap → Prop
  | .inl d => Dp K F v d
  | .inr k => ∃ a, al[k]? = some a ∧ v = .ref a
inductive CapAll (K : PySem.W.Frag) (F : Hp) (al : List Addr) : List V → List Cap → Prop
  | nil : CapAll K F al [] []
  | cons {v : V} {vs : List V} {r : Cap} {rs : List Cap} : CapR K F al v r → CapAll K F al vs rs → CapAll K F al (v :: vs) (r :: rs)
/-- a lambda's object -/
def FunO (L : LamD) (f c' : Addr) (clo : List (Str × Addr)) : HO := .ext fun h => ∃ (pm ctv : Value), h.get? f = some (PySem.W.kla_obj "<lambda>" L.qual L.params L.body L.scope clo pm c' ctv)
/-- f is the j-th lambda, which has captured caps -/
def FnAt (K : PySem.W.Frag) (F : Hp) (al : List Addr) (f : Addr) (j : Nat) (caps : List Cap) : Prop :=
  ∃ (c' : Addr) (clo : List (Str × Addr)) (vs : List V), F f = some (FunO (Lams.of j) f c' clo) ∧ F c' = some (LamX.CodeO c' (Lams.of j).qual) ∧ clo.map (·.1) = (Lams.of j).names ∧ (clo.map (·.2)).Nodup ∧
    vs.length = clo.length ∧ (∀ (i : Nat) (p : Str × Addr) (v : V), clo[i]? = some p → vs[i]? = some v → ∃ (o : Obj) (w : Value), F p.2 = some (.frz o (.own 0)) ∧ o.data = .cell (some w) ∧ L2.RelV v w) ∧ CapAll K F al vs caps
inductive FnsAt (K : PySem.W.Frag) (F : Hp) (al : List Addr) : List V → List (Nat × List Cap) → Prop
  | nil : FnsAt K F al [] []
  | cons {f : Addr} {p : Nat × List Cap} {vs : List V} {js : List (Nat × List Cap)} : FnAt K F al f p.1 p.2 → FnsAt K F al vs js → FnsAt K F al (.ref f :: vs) (p :: js)
def RvR (K : PySem.W.Frag) (F : Hp) (al : List Addr) (v : V) : Rv → Prop
  | .dat d => Dp K F v d
  | .own k => ∃ a, al[k]? = some a ∧ v = .ref a
  | .fn j caps => ∃ f, v = .ref f ∧ FnAt K F al f j caps
  | .fns js => ∃ a xs, v = .ref a ∧ F a = some (.lst xs) ∧ FnsAt K F al xs js
  | .exv => False
inductive RvAll (K : PySem.W.Frag) (F : Hp) (al : List Addr) : List V → List Rv → Prop
  | nil : RvAll K F al [] []
  | cons {v : V} {vs : List V} {r : Rv} {rs : List Rv} : RvR K F al v r → RvAll K F al vs rs → RvAll K F al (v :: vs) (r :: rs)
/-- .. the second components of pairs -/
inductive KvR (K : PySem.W.Frag) (F : Hp) (al : List Addr) {κ : Type} : List (κ × V) → List (κ × Rv) → Prop
  | nil : KvR K F al [] []
  | cons {k : κ} {v : V} {vs : List (κ × V)} {r : Rv} {rs : List (κ × Rv)} : RvR K F al v r → KvR K F al vs rs → KvR K F al ((k, v) :: vs) ((k, r) :: rs)
def OcOk (K : PySem.W.Frag) (F : Hp) (al : List Addr) (H : Hp) (a : Addr) : Oc → Prop
  | .lst rs => F a = none ∧ ∃ xs, H a = some (.lst xs) ∧ RvAll K F al xs rs
  | .fz ds => ∃ xs, F a = some (.lst xs) ∧ DpAll K F xs ds
  | .dk kvs => F a = none ∧ ∃ vs, H a = some (.dK vs) ∧ KvR K F al vs kvs
  | .dt kvs => F a = none ∧ ∃ vs, H a = some (.dT vs) ∧ KvR K F al vs kvs
  | .ins n fs => F a = none ∧ ∃ dx vs, H a = some (.ins (He.ga K n) dx vs) ∧ KvR K F al vs fs
  | .fk kvs => ∃ od vs, F a = some (.frz od (.dK vs)) ∧ KvR K F al vs kvs
  | .ft kvs => ∃ od vs, F a = some (.frz od (.dT vs)) ∧ KvR K F al vs kvs
  | .ltab => a = (He.cT K Lams.wd).2 ∧ F a = none ∧ ∃ ps : Array Value, H a = some (.tbl ps) ∧ TriplesOk ps.toList ∧ ∀ (pos : Pos) (cv : Value), codeAmong pos ps.toList = some cv → ∃ c, cv = .ref c ∧ F c = some (LamX.CodeO c Lams.q)
  | .any => ∃ o, H a = some o ∧ (∀ xs, o ≠ .tup xs) ∧ ∀ ob, o ≠ .frz ob (.own 0)
/-- the tables of the defs' code objects; the caught exception -/
structure Tt where
  t : Addr → Prop
  ev : Addr
  ex : Ex
  ecls : Value
  edO : Option Addr
/-- how an exception lies -/
def ExAt (K : PySem.W.Frag) (F _H : Hp) (x : Ex) (cls : Value) (dO : Option Addr) : Prop :=
  cls = .ref (He.ga K x.cls) ∧ match x.fld with
    | none => dO = none
    | some (f, d) => ∃ dd v, dO = some dd ∧ F dd = some (.xd [(f, v)]) ∧ Dp K F v d
instance : CoeFun Tt (fun _ => Addr → Prop) := ⟨Tt.t⟩
def Tabs (TT : Tt) (F H : Hp) : Prop := ∀ P, TT P → GxR.TabG H P ∧ F P = none
/-- what is fixed through a def's run: its entry, the objects lent to it -/
structure Gh where
  F0 : Hp
  H0 : Hp
  bor : Addr → Prop
/-- nothing stands there, or a tuple: what may be frozen freely -/
def Im (H : Hp) (b : Addr) : Prop := H b = none ∨ ∃ xs, H b = some (.tup xs)
theorem Im.no {H : Hp} {b : Addr} {o : HO} (e : H b = some o) (n : ∀ xs, o ≠ .tup xs) : ¬ Im H b := fun h => by
  rcases h with h | ⟨xs, h⟩
  · rw [h] at e; cases e
  · rw [h] at e; exact n xs (Option.some.inj e).symm
/-- a slot -/
def SlR (K : PySem.W.Frag) (TT : Tt) (F : Hp) (al : List Addr) (v : V) : Rv → Prop
  | .exv => v = .ref TT.ev ∧ ExAt K F F TT.ex TT.ecls TT.edO
  | r => RvR K F al v r
structure Sv (K : PySem.W.Frag) (TT : Tt) (g : Gh) (al : List Addr) (en : En) (F : Hp) (σ : L2.St) (H : Hp) : Prop where
  sub : Same F H
  frF : Same g.F0 F
  nF : ∀ b, F b ≠ none → g.F0 b ≠ none ∨ Im g.H0 b ∨ g.bor b
  frame : ∀ b o, g.H0 b = some o → ¬ TT b → ¬ g.bor b → H b = some o
  tabs : Tabs TT F H
  len : σ.length = en.sl.length
  slots : ∀ (i : Nat) (r : Rv), en.sl[i]? = some (some r) → ∃ v, σ[i]? = some (some v) ∧ SlR K TT F al v r
  alen : al.length = en.ob.length
  objs : ∀ (k : Nat) (a : Addr) (oc : Oc), al[k]? = some a → en.ob[k]? = some oc → OcOk K F al H a oc
  anew : ∀ (k : Nat) (a : Addr), al[k]? = some a → g.H0 a = none ∨ g.bor a
  bin : ∀ b, g.bor b → b ∈ al
  anod : al.Nodup
  atab : ∀ a, a ∈ al → ¬ TT a

section
variable {K : PySem.W.Frag} {TT : Tt} {g : Gh} {al al' : List Addr} {en en' : En} {F F' : Hp} {σ σ' : L2.St} {H H' : Hp}
/-- later: more frozen, more owned -/
structure Le (F : Hp) (al : List Addr) (F' : Hp) (al' : List Addr) : Prop where
  f : Same F F'
  a : al <+: al'
theorem Le.refl (F : Hp) (al : List Addr) : Le F al F al := ⟨Same.refl _, List.prefix_rfl⟩
theorem Le.trans {F F1 F2 : Hp} {al a1 a2 : List Addr} (h : Le F al F1 a1) (h' : Le F1 a1 F2 a2) : Le F al F2 a2 := ⟨h.f.trans h'.f, h.a.trans h'.a⟩
theorem pre_get {α : Type} {l l' : List α} (h : l <+: l') {k : Nat} {a : α} (e : l[k]? = some a) : l'[k]? = some a := by
  obtain ⟨t, rfl⟩ := h
  obtain ⟨hk, _⟩ := List.getElem?_eq_some_iff.mp e
  rw [List.getElem?_append_left hk]; exact e
theorem CapR.mono {v : V} {r : Cap} (h : CapR K F al v r) (l : Le F al F' al') : CapR K F' al' v r := by
  cases r with
  | inl d => exact dp_mono l.f d v h
  | inr k => obtain ⟨a, e, q⟩ := h; exact ⟨a, pre_get l.a e, q⟩
theorem CapAll.mono (l : Le F al F' al') : ∀ {vs : List V} {rs : List Cap}, CapAll K F al vs rs → CapAll K F' al' vs rs
  | _, _, .nil => .nil
  | _, _, .cons r t => .cons (r.mono l) (CapAll.mono l t)
theorem FnAt.mono {f : Addr} {j : Nat} {caps : List Cap} (h : FnAt K F al f j caps) (l : Le F al F' al') : FnAt K F' al' f j caps := by
  obtain ⟨c', clo, vs, h1, h2, h3, h4, h5, h6, h7⟩ := h
  exact ⟨c', clo, vs, l.f _ _ h1, l.f _ _ h2, h3, h4, h5, fun i p v e1 e2 => by
    obtain ⟨o, w, z1, z2⟩ := h6 i p v e1 e2
    exact ⟨o, w, l.f _ _ z1, z2⟩, h7.mono l⟩
theorem FnsAt.mono (l : Le F al F' al') : ∀ {vs : List V} {js : List (Nat × List Cap)}, FnsAt K F al vs js → FnsAt K F' al' vs js
  | _, _, .nil => .nil
  | _, _, .cons r t => .cons (r.mono l) (FnsAt.mono l t)
theorem RvR.mono {v : V} {r : Rv} (h : RvR K F al v r) (l : Le F al F' al') : RvR K F' al' v r := by
  cases r with
  | dat d => exact dp_mono l.f d v h
  | own k => obtain ⟨a, e, q⟩ := h; exact ⟨a, pre_get l.a e, q⟩
  | fn j caps => obtain ⟨f, e, q⟩ := h; exact ⟨f, e, q.mono l⟩
  | fns js => obtain ⟨a, xs, e, z, q⟩ := h; exact ⟨a, xs, e, l.f _ _ z, q.mono l⟩
  | exv => exact h.elim
theorem RvR.sl {v : V} {r : Rv} (h : RvR K F al v r) : SlR K TT F al v r := by
  cases r with
  | exv => exact h.elim
  | _ => exact h
theorem SlR.rv {v : V} {r : Rv} (h : SlR K TT F al v r) (n : r ≠ .exv) : RvR K F al v r := by
  cases r with
  | exv => exact absurd rfl n
  | _ => exact h
theorem ExAt.mono {H H' : Hp} {x : Ex} {cls : Value} {dO : Option Addr} (h : ExAt K F H x cls dO) (s : Same F F') : ExAt K F' H' x cls dO := by
  obtain ⟨h1, h2⟩ := h
  refine ⟨h1, ?_⟩
  cases q : x.fld with
  | none => rw [q] at h2; exact h2
  | some p =>
    rw [q] at h2
    obtain ⟨dd, v, e1, e2, e3⟩ := h2
    exact ⟨dd, v, e1, s _ _ e2, dp_mono s _ _ e3⟩
theorem SlR.mono {v : V} {r : Rv} (h : SlR K TT F al v r) (l : Le F al F' al') : SlR K TT F' al' v r := by
  cases r with
  | exv => exact ⟨h.1, h.2.mono l.f⟩
  | _ => exact (RvR.mono (SlR.rv h (by intro z; cases z)) l).sl
theorem RvAll.mono (l : Le F al F' al') : ∀ {vs : List V} {rs : List Rv}, RvAll K F al vs rs → RvAll K F' al' vs rs
  | _, _, .nil => .nil
  | _, _, .cons r t => .cons (r.mono l) (RvAll.mono l t)
theorem KvR.mono {κ : Type} (l : Le F al F' al') : ∀ {vs : List (κ × V)} {rs : List (κ × Rv)}, KvR K F al vs rs → KvR K F' al' vs rs
  | _, _, .nil => .nil
  | _, _, .cons r t => .cons (r.mono l) (KvR.mono l t)
theorem RvAll.len : ∀ {vs : List V} {rs : List Rv}, RvAll K F al vs rs → vs.length = rs.length
  | _, _, .nil => rfl
  | _, _, .cons _ t => by simp [RvAll.len t]
theorem RvAll.app : ∀ {vs us : List V} {rs qs : List Rv}, RvAll K F al vs rs → RvAll K F al us qs → RvAll K F al (vs ++ us) (rs ++ qs)
  | _, _, _, _, .nil, s => s
  | _, _, _, _, .cons r t, s => .cons r (RvAll.app t s)
theorem RvAll.get : ∀ {vs : List V} {rs : List Rv} {i : Nat} {r : Rv}, RvAll K F al vs rs → rs[i]? = some r → ∃ v, vs[i]? = some v ∧ RvR K F al v r
  | _, _, _, _, .nil, e => by simp at e
  | _, _, 0, _, .cons r _, e => by simp at e; subst e; exact ⟨_, rfl, r⟩
  | _, _, i + 1, d, .cons _ t, e => by
    obtain ⟨u, h1, h2⟩ := RvAll.get (i := i) (r := d) t (by simpa using e)
    exact ⟨u, by simpa using h1, h2⟩
theorem RvAll.getV : ∀ {vs : List V} {rs : List Rv} {i : Nat} {v : V}, RvAll K F al vs rs → vs[i]? = some v → ∃ r, rs[i]? = some r ∧ RvR K F al v r
  | _, _, _, _, .nil, e => by simp at e
  | _, _, 0, _, .cons r _, e => by simp at e; subst e; exact ⟨_, rfl, r⟩
  | _, _, i + 1, d, .cons _ t, e => by
    obtain ⟨u, h1, h2⟩ := RvAll.getV (i := i) (v := d) t (by simpa using e)
    exact ⟨u, by simpa using h1, h2⟩
theorem RvAll.set : ∀ {vs : List V} {rs : List Rv} (i : Nat) {v : V} {r : Rv}, RvAll K F al vs rs → RvR K F al v r → RvAll K F al (vs.set i v) (rs.set i r)
  | _, _, _, _, _, .nil, _ => .nil
  | _, _, 0, _, _, .cons _ t, q => .cons q t
  | _, _, i + 1, _, _, .cons r t, q => .cons r (RvAll.set i t q)
theorem rvAll_dat : ∀ {vs : List V} {ds : List PyData}, DpAll K F vs ds → RvAll K F al vs (ds.map Rv.dat)
  | _, _, .nil => .nil
  | _, _, .cons r t => .cons r (rvAll_dat t)

/-- all of a list plain data -/
def dats : List Rv → Option (List PyData)
  | [] => some []
  | .dat d :: rs => match dats rs with
    | some ds => some (d :: ds)
    | none => none
  | _ :: _ => none
theorem dats_map (ds : List PyData) : dats (ds.map Rv.dat) = some ds := by
  induction ds with
  | nil => rfl
  | cons d ds ih => simp [dats, ih]
theorem dats_eq : ∀ {rs : List Rv} {ds : List PyData}, dats rs = some ds → rs = ds.map Rv.dat
  | [], ds, h => by simp [dats] at h; subst h; rfl
  | .dat d :: rs, ds, h => by
    unfold dats at h
    cases e : dats rs with
    | none => rw [e] at h; cases h
    | some es =>
      rw [e] at h
      have h' : d :: es = ds := Option.some.inj h
      subst h'
      rw [dats_eq e]; rfl
  | .own _ :: _, _, h => by simp [dats] at h
  | .fn _ _ :: _, _, h => by simp [dats] at h
  | .fns _ :: _, _, h => by simp [dats] at h
  | .exv :: _, _, h => by simp [dats] at h
theorem rvAll_dats : ∀ {vs : List V} {rs : List Rv} {ds : List PyData}, RvAll K F al vs rs → dats rs = some ds → DpAll K F vs ds
  | _, _, _, .nil, e => by simp [dats] at e; subst e; exact .nil
  | _, _, ds, .cons (r := r) (rs := rs) q t, e => by
    cases r with
    | own k => simp [dats] at e
    | fn j caps => simp [dats] at e
    | fns j => simp [dats] at e
    | exv => simp [dats] at e
    | dat d =>
      unfold dats at e
      cases e2 : dats rs with
      | none => rw [e2] at e; cases e
      | some es =>
        rw [e2] at e
        have h' : d :: es = ds := Option.some.inj e
        subst h'
        exact .cons q (rvAll_dats t e2)

theorem Sv.nt (s : Sv K TT g al en F σ H) {p : Addr} (hp : H p = none) : ¬ TT p := fun h => by
  obtain ⟨⟨ps, e, _⟩, _⟩ := s.tabs p h
  rw [hp] at e; cases e
theorem Sv.na (s : Sv K TT g al en F σ H) {p : Addr} (hp : H p = none) : p ∉ al := fun h => by
  obtain ⟨k, hk, e⟩ := List.getElem_of_mem h
  have ek : al[k]? = some p := by rw [List.getElem?_eq_getElem hk, e]
  have hk2 : k < en.ob.length := by rw [← s.alen]; exact hk
  have o := s.objs k p _ ek (List.getElem?_eq_getElem hk2)
  cases q : en.ob[k] with
  | lst rs =>
    rw [q] at o
    obtain ⟨_, xs, e2, _⟩ := o
    rw [hp] at e2; cases e2
  | fz ds =>
    rw [q] at o
    obtain ⟨xs, e2, _⟩ := o
    rw [s.sub _ _ e2] at hp; cases hp
  | dk kvs =>
    rw [q] at o
    obtain ⟨_, xs, e2, _⟩ := o
    rw [hp] at e2; cases e2
  | dt kvs =>
    rw [q] at o
    obtain ⟨_, xs, e2, _⟩ := o
    rw [hp] at e2; cases e2
  | ins n fs =>
    rw [q] at o
    obtain ⟨_, dx, xs, e2, _⟩ := o
    rw [hp] at e2; cases e2
  | fk kvs =>
    rw [q] at o
    obtain ⟨od, xs, e2, _⟩ := o
    rw [s.sub _ _ e2] at hp; cases hp
  | ft kvs =>
    rw [q] at o
    obtain ⟨od, xs, e2, _⟩ := o
    rw [s.sub _ _ e2] at hp; cases hp
  | ltab =>
    rw [q] at o
    obtain ⟨_, _, ps, e2, _⟩ := o
    rw [hp] at e2; cases e2
  | any =>
    rw [q] at o
    obtain ⟨_, e2, _⟩ := o
    rw [hp] at e2; cases e2
theorem Sv.g0 (s : Sv K TT g al en F σ H) {p : Addr} (hp : H p = none) : g.H0 p = none := by
  cases e : g.H0 p with
  | none => rfl
  | some o =>
    have nt := s.nt hp
    by_cases b : g.bor p
    · exact absurd (s.bin p b) (s.na hp)
    · rw [s.frame p o e nt b] at hp; cases hp
theorem Sv.im0 (s : Sv K TT g al en F σ H) {p : Addr} (hp : Im H p) : Im g.H0 p ∨ g.bor p := by
  by_cases b : g.bor p
  · exact .inr b
  · refine .inl ?_
    cases e : g.H0 p with
    | none => exact .inl e
    | some o =>
      by_cases t : TT p
      · obtain ⟨⟨ps, e2, _⟩, _⟩ := s.tabs p t
        exact absurd hp (Im.no e2 fun xs z => by cases z)
      · have e2 := s.frame p o e t b
        rcases hp with q | ⟨xs, q⟩
        · rw [q] at e2; cases e2
        · rw [q] at e2
          exact .inr ⟨xs, by rw [e]; exact e2.symm⟩
end
end Pd

namespace Pd
open PySem PySem.Spec PyProof.Rows L2
variable [Lams]
section
variable {K : PySem.W.Frag} {TT : Tt} {g : Gh} {al al' : List Addr} {en en' : En} {F F' : Hp} {σ σ' : L2.St} {H H' : Hp}
theorem OcOk.mono {a : Addr} {oc : Oc} (h : OcOk K F al H a oc) (l : Le F al F' al') (k : H a ≠ none → ¬ TT a → H' a = H a) (nt : ¬ TT a) (hn : H a ≠ none → ¬ Im H a → F a = none → F' a = none) : OcOk K F' al' H' a oc := by
  cases oc with
  | lst rs =>
    obtain ⟨h1, xs, h2, h3⟩ := h
    have hne : H a ≠ none := by rw [h2]; intro z; cases z
    exact ⟨hn hne (Im.no h2 fun xs z => by cases z) h1, xs, (k hne nt).trans h2, h3.mono l⟩
  | fz ds =>
    obtain ⟨xs, h1, h2⟩ := h
    exact ⟨xs, l.f _ _ h1, dpAll_mono l.f _ _ h2⟩
  | dk kvs =>
    obtain ⟨h1, xs, h2, h3⟩ := h
    have hne : H a ≠ none := by rw [h2]; intro z; cases z
    exact ⟨hn hne (Im.no h2 fun xs z => by cases z) h1, xs, (k hne nt).trans h2, h3.mono l⟩
  | dt kvs =>
    obtain ⟨h1, xs, h2, h3⟩ := h
    have hne : H a ≠ none := by rw [h2]; intro z; cases z
    exact ⟨hn hne (Im.no h2 fun xs z => by cases z) h1, xs, (k hne nt).trans h2, h3.mono l⟩
  | ins n fs =>
    obtain ⟨h1, dx, xs, h2, h3⟩ := h
    have hne : H a ≠ none := by rw [h2]; intro z; cases z
    exact ⟨hn hne (Im.no h2 fun xs z => by cases z) h1, dx, xs, (k hne nt).trans h2, h3.mono l⟩
  | fk kvs =>
    obtain ⟨od, xs, h2, h3⟩ := h
    exact ⟨od, xs, l.f _ _ h2, h3.mono l⟩
  | ft kvs =>
    obtain ⟨od, xs, h2, h3⟩ := h
    exact ⟨od, xs, l.f _ _ h2, h3.mono l⟩
  | ltab =>
    obtain ⟨h0, h1, ps, h2, h3, h4⟩ := h
    have hne : H a ≠ none := by rw [h2]; intro z; cases z
    exact ⟨h0, hn hne (Im.no h2 fun xs z => by cases z) h1, ps, (k hne nt).trans h2, h3, fun pos cv hc => by
      obtain ⟨c, e1, e2⟩ := h4 pos cv hc
      exact ⟨c, e1, l.f _ _ e2⟩⟩
  | any =>
    obtain ⟨o, h1, h2, h3⟩ := h
    exact ⟨o, (k (by rw [h1]; intro z; cases z) nt).trans h1, h2, h3⟩
theorem same_ne {F H : Hp} (s : Same F H) {b : Addr} (h : F b ≠ none) : H b ≠ none := by
  cases e : F b with
  | none => exact absurd e h
  | some o => rw [s b o e]; intro z; cases z
/-- a step of which only this is known: what stood stands, what is newly frozen is new -/
theorem Sv.ext (s : Sv K TT g al en F σ H) (h1 : Same F F') (h2 : Same F' H') (h3 : Tabs TT F' H') (h4 : ∀ b o, H b = some o → ¬ TT b → H' b = some o) (h5 : ∀ b, F' b ≠ none → F b ≠ none ∨ Im H b) :
    Sv K TT g al en F' σ H' where
  sub := h2
  frF := s.frF.trans h1
  nF := fun b hb => by
    rcases h5 b hb with z | z
    · exact s.nF b z
    · exact .inr (s.im0 z)
  frame := fun b o e nt nb => h4 b o (s.frame b o e nt nb) nt
  tabs := h3
  len := s.len
  slots := fun i r e => by
    obtain ⟨v, e1, q⟩ := s.slots i r e
    exact ⟨v, e1, q.mono ⟨h1, List.prefix_rfl⟩⟩
  alen := s.alen
  objs := fun k a oc e1 e2 => by
    have nt := s.atab a (List.mem_of_getElem? e1)
    refine (s.objs k a oc e1 e2).mono ⟨h1, List.prefix_rfl⟩ (fun hne _ => ?_) nt fun hne him hz => ?_
    · cases q : H a with
      | none => exact absurd q hne
      | some o => exact h4 a o q nt
    · cases q : F' a with
      | none => rfl
      | some o =>
        rcases h5 a (by rw [q]; intro z; cases z) with z | z
        · exact absurd hz z
        · exact absurd z him
  anew := s.anew
  bin := s.bin
  anod := s.anod
  atab := s.atab
theorem Tabs.new (t : Tabs TT F H) {p : Addr} {o u : HO} (hp : H p = none) : Tabs TT (upd F p o) (upd H p u) := fun P hP => by
  obtain ⟨⟨ps, e, q⟩, n⟩ := t P hP
  have ne : P ≠ p := fun z => by rw [z, hp] at e; cases e
  exact ⟨⟨ps, by rw [upd_ne ne]; exact e, q⟩, by rw [upd_ne ne]; exact n⟩
theorem Tabs.newH (t : Tabs TT F H) {p : Addr} {u : HO} (hp : ¬ TT p) : Tabs TT F (upd H p u) := fun P hP => by
  obtain ⟨⟨ps, e, q⟩, n⟩ := t P hP
  have ne : P ≠ p := fun z => hp (z ▸ hP)
  exact ⟨⟨ps, by rw [upd_ne ne]; exact e, q⟩, n⟩
theorem same_new {p : Addr} {o : HO} (hp : F p = none) : Same F (upd F p o) := fun b u e => by
  rw [upd_ne (ne_of_none e hp)]; exact e
theorem Sv.fnone (s : Sv K TT g al en F σ H) {p : Addr} (hp : H p = none) : F p = none := s.sub.free hp
/-- a new frozen object -/
theorem Sv.newF (s : Sv K TT g al en F σ H) {p : Addr} (o : HO) (hp : H p = none) : Sv K TT g al en (upd F p o) σ (upd H p o) := by
  refine s.ext (same_new (s.fnone hp)) (fun b u e => ?_) (s.tabs.new hp) (fun b u e _ => ?_) fun b hb => ?_
  · by_cases h : b = p
    · subst h; rw [upd_same] at e ⊢; exact e
    · rw [upd_ne h] at e ⊢; exact s.sub b u e
  · rw [upd_ne (ne_of_none e hp)]; exact e
  · by_cases h : b = p
    · subst h; exact .inr (.inl hp)
    · rw [upd_ne h] at hb; exact .inl hb
theorem le_newF (s : Sv K TT g al en F σ H) {p : Addr} (o : HO) (hp : H p = none) : Le F al (upd F p o) al := ⟨same_new (s.fnone hp), List.prefix_rfl⟩
theorem dp_tup {p : Addr} {xs : List V} {ds : List PyData} (h : DpAll K F xs ds) (hp : F p = none) : Dp K (upd F p (.tup xs)) (.ref p) (.tuple ds) :=
  .tup (upd_same) (dpAll_mono (same_new hp) _ _ h)
theorem dp_lst {p : Addr} {xs : List V} {ds : List PyData} (h : DpAll K F xs ds) (hp : F p = none) : Dp K (upd F p (.lst xs)) (.ref p) (.list ds) :=
  .lst (.inl (.inl upd_same)) (dpAll_mono (same_new hp) _ _ h)
theorem le_own {p : Addr} : Le F al F (al ++ [p]) := ⟨Same.refl _, List.prefix_append _ _⟩
/-- a new owned list -/
theorem Sv.newOwn (s : Sv K TT g al en F σ H) {p : Addr} {xs : List V} {rs : List Rv} (hp : H p = none) (h : RvAll K F al xs rs) :
    Sv K TT g (al ++ [p]) { en with ob := en.ob ++ [.lst rs] } F σ (upd H p (.lst xs)) where
  sub := fun b u e => by rw [upd_ne (ne_of_none (s.sub b u e) hp)]; exact s.sub b u e
  frF := s.frF
  nF := s.nF
  frame := fun b o e nt nb => by
    have z := s.frame b o e nt nb
    rw [upd_ne (ne_of_none z hp)]; exact z
  tabs := s.tabs.newH (s.nt hp)
  len := s.len
  slots := fun i r e => by
    obtain ⟨v, e1, q⟩ := s.slots i r e
    exact ⟨v, e1, q.mono le_own⟩
  alen := by simp [s.alen]
  objs := fun k a oc e1 e2 => by
    by_cases hk : k < al.length
    · rw [List.getElem?_append_left hk] at e1
      rw [List.getElem?_append_left (by rw [← s.alen]; exact hk)] at e2
      refine (s.objs k a oc e1 e2).mono (TT := TT) le_own (fun hne _ => ?_) (s.atab a (List.mem_of_getElem? e1)) fun _ _ z => z
      rw [upd_ne (fun z => hne (by rw [z]; exact hp))]
    · have hk2 : al.length ≤ k := Nat.le_of_not_lt hk
      rw [List.getElem?_append_right hk2] at e1
      rw [List.getElem?_append_right (by rw [← s.alen]; exact hk2)] at e2
      have e0 : k - al.length = 0 := by
        cases q : k - al.length with
        | zero => rfl
        | succ n => rw [q] at e1; simp at e1
      rw [e0] at e1
      rw [← s.alen, e0] at e2
      simp at e1 e2
      subst e1 e2
      exact ⟨s.fnone hp, xs, upd_same, h.mono le_own⟩
  anew := fun k a e1 => by
    by_cases hk : k < al.length
    · rw [List.getElem?_append_left hk] at e1
      exact s.anew k a e1
    · have hk2 : al.length ≤ k := Nat.le_of_not_lt hk
      rw [List.getElem?_append_right hk2] at e1
      cases q : k - al.length with
      | zero =>
        rw [q] at e1; simp at e1; subst e1
        exact .inl (s.g0 hp)
      | succ n => rw [q] at e1; simp at e1
  bin := fun b hb => List.mem_append_left _ (s.bin b hb)
  anod := by
    rw [List.nodup_append]
    refine ⟨s.anod, by simp, fun a ha b hb z => ?_⟩
    have e : b = p := by simpa using hb
    subst z
    rw [e] at ha
    exact s.na hp ha
  atab := fun a ha => by
    rcases List.mem_append.mp ha with z | z
    · exact s.atab a z
    · have e : a = p := by simpa using z
      rw [e]; exact s.nt hp
theorem nodup_get {α : Type} {l : List α} (h : l.Nodup) {i j : Nat} {x : α} (a : l[i]? = some x) (b : l[j]? = some x) : i = j := by
  obtain ⟨h1, e1⟩ := List.getElem?_eq_some_iff.mp a
  obtain ⟨h2, e2⟩ := List.getElem?_eq_some_iff.mp b
  exact (List.getElem_inj h).mp (e1.trans e2.symm)
theorem Sv.lst (s : Sv K TT g al en F σ H) {k : Nat} {a : Addr} {rs : List Rv} (e1 : al[k]? = some a) (e2 : en.ob[k]? = some (.lst rs)) : F a = none ∧ ∃ xs, H a = some (.lst xs) ∧ RvAll K F al xs rs := s.objs k a _ e1 e2
/-- an owned list is changed -/
theorem Sv.write (s : Sv K TT g al en F σ H) {k : Nat} {a : Addr} {rs rs' : List Rv} {xs' : List V} (e1 : al[k]? = some a) (e2 : en.ob[k]? = some (.lst rs)) (h : RvAll K F al xs' rs') :
    Sv K TT g al { en with ob := en.ob.set k (.lst rs') } F σ (upd H a (.lst xs')) where
  sub := fun b u e => by
    obtain ⟨n, _⟩ := s.lst e1 e2
    rw [upd_ne (ne_of_none e n)]; exact s.sub b u e
  frF := s.frF
  nF := s.nF
  frame := fun b o e nt nb => by
    have z := s.frame b o e nt nb
    have ne : b ≠ a := fun q => by
      rcases s.anew k a e1 with w | w
      · rw [q, w] at e; cases e
      · exact nb (q ▸ w)
    rw [upd_ne ne]; exact z
  tabs := s.tabs.newH (s.atab a (List.mem_of_getElem? e1))
  len := s.len
  slots := s.slots
  alen := by simp [s.alen]
  objs := fun j b oc f1 f2 => by
    by_cases hj : j = k
    · subst hj
      rw [e1] at f1
      cases f1
      rw [List.getElem?_set_self (by rw [← s.alen]; exact (List.getElem?_eq_some_iff.mp e1).1)] at f2
      cases f2
      exact ⟨(s.lst e1 e2).1, xs', upd_same, h⟩
    · rw [List.getElem?_set_ne (Ne.symm hj)] at f2
      have ne : b ≠ a := fun z => hj (nodup_get s.anod f1 (z ▸ e1))
      refine (s.objs j b oc f1 f2).mono (TT := TT) (Le.refl _ _) (fun _ _ => upd_ne ne) (s.atab b (List.mem_of_getElem? f1)) fun _ _ z => z
  anew := s.anew
  bin := s.bin
  anod := s.anod
  atab := s.atab
/-- an owned list is frozen -/
theorem Sv.freeze (s : Sv K TT g al en F σ H) {k : Nat} {a : Addr} {rs : List Rv} {ds : List PyData} {xs : List V} (e1 : al[k]? = some a) (e2 : en.ob[k]? = some (.lst rs)) (hd : dats rs = some ds) (hx : H a = some (.lst xs)) (ha : RvAll K F al xs rs) :
    Sv K TT g al { en with ob := en.ob.set k (.fz ds) } (upd F a (.lst xs)) σ H := by
  have fn := (s.lst e1 e2).1
  have hle : Le F al (upd F a (.lst xs)) al := ⟨same_new fn, List.prefix_rfl⟩
  exact {
  sub := fun b u e => by
    by_cases h : b = a
    · subst h; rw [upd_same] at e; rw [← e]; exact hx
    · rw [upd_ne h] at e; exact s.sub b u e
  frF := s.frF.trans hle.f
  nF := fun b hb => by
    by_cases h : b = a
    · subst h
      rcases s.anew k b e1 with w | w
      · exact .inr (.inl (.inl w))
      · exact .inr (.inr w)
    · rw [upd_ne h] at hb; exact s.nF b hb
  frame := s.frame
  tabs := fun P hP => by
    obtain ⟨q1, q2⟩ := s.tabs P hP
    have ne : P ≠ a := fun z => s.atab a (List.mem_of_getElem? e1) (z ▸ hP)
    exact ⟨q1, by rw [upd_ne ne]; exact q2⟩
  len := s.len
  slots := fun i r e => by
    obtain ⟨v, f1, q⟩ := s.slots i r e
    exact ⟨v, f1, q.mono hle⟩
  alen := by simp [s.alen]
  objs := fun j b oc f1 f2 => by
    by_cases hj : j = k
    · subst hj
      rw [e1] at f1
      cases f1
      rw [List.getElem?_set_self (by rw [← s.alen]; exact (List.getElem?_eq_some_iff.mp e1).1)] at f2
      cases f2
      exact ⟨xs, upd_same, dpAll_mono hle.f _ _ (rvAll_dats ha hd)⟩
    · rw [List.getElem?_set_ne (Ne.symm hj)] at f2
      have ne : b ≠ a := fun z => hj (nodup_get s.anod f1 (z ▸ e1))
      exact (s.objs j b oc f1 f2).mono (TT := TT) hle (fun _ _ => rfl) (s.atab b (List.mem_of_getElem? f1)) fun _ _ z => by rw [upd_ne ne]; exact z
  anew := s.anew
  bin := s.bin
  anod := s.anod
  atab := s.atab }
/-- a slot is set -/
theorem Sv.setS (s : Sv K TT g al en F σ H) {i : Nat} {v : V} {r : Rv} (h : RvR K F al v r) : Sv K TT g al { en with sl := en.sl.set i (some r) } F (σ.set i (some v)) H :=
  { s with
    len := by rw [List.length_set, List.length_set]; exact s.len
    slots := fun j q e => by
      by_cases hj : i = j
      · subst hj
        by_cases hi : i < en.sl.length
        · rw [List.getElem?_set_self hi] at e
          cases e
          exact ⟨v, List.getElem?_set_self (by rw [s.len]; exact hi), h.sl⟩
        · rw [List.getElem?_eq_none (by simpa using hi)] at e; cases e
      · rw [List.getElem?_set_ne hj] at e
        obtain ⟨u, f1, f2⟩ := s.slots j q e
        exact ⟨u, by rw [List.getElem?_set_ne hj]; exact f1, f2⟩ }
/-- the slots of a comprehension's own names -/
def wipeL (l : List (Option Rv)) : List Nat → List (Option Rv)
  | [] => l
  | v :: vs => (wipeL l vs).set v none
theorem wipeL_len (l : List (Option Rv)) : ∀ vs, (wipeL l vs).length = l.length
  | [] => rfl
  | v :: vs => by unfold wipeL; rw [List.length_set, wipeL_len l vs]
theorem wipeL_get {l : List (Option Rv)} {i : Nat} {r : Rv} : ∀ {vs : List Nat}, (wipeL l vs)[i]? = some (some r) → l[i]? = some (some r) ∧ i ∉ vs
  | [], h => ⟨h, by simp⟩
  | v :: vs, h => by
    unfold wipeL at h
    by_cases hi : v = i
    · subst hi
      by_cases hv : v < (wipeL l vs).length
      · rw [List.getElem?_set_self hv] at h; cases h
      · rw [List.getElem?_eq_none (by simpa using hv)] at h; cases h
    · rw [List.getElem?_set_ne hi] at h
      obtain ⟨h1, h2⟩ := wipeL_get h
      exact ⟨h1, by simp only [List.mem_cons, not_or]; exact ⟨fun e => hi e.symm, h2⟩⟩
theorem wipe_get {σ : L2.St} {i : Nat} : ∀ {vs : List Nat}, i ∉ vs → (wipe σ vs)[i]? = σ[i]?
  | [], _ => rfl
  | v :: vs, h => by
    simp only [List.mem_cons, not_or] at h
    unfold wipe
    rw [List.getElem?_set_ne (fun z => h.1 z.symm)]
    exact wipe_get h.2
theorem Sv.wiped (s : Sv K TT g al en F σ H) (vs : List Nat) : Sv K TT g al { en with sl := wipeL en.sl vs } F (wipe σ vs) H :=
  { s with
    len := by rw [wipe_length, wipeL_len]; exact s.len
    slots := fun j q e => by
      obtain ⟨h1, h2⟩ := wipeL_get e
      obtain ⟨u, f1, f2⟩ := s.slots j q h1
      exact ⟨u, by rw [wipe_get h2]; exact f1, f2⟩ }
/-- other slots, of which something is known -/
theorem Sv.reslot (s : Sv K TT g al en F σ H) {sl : List (Option Rv)} {σ' : L2.St} (hl : σ'.length = sl.length) (h : ∀ (i : Nat) (r : Rv), sl[i]? = some (some r) → ∃ v, σ'[i]? = some (some v) ∧ SlR K TT F al v r) :
    Sv K TT g al { en with sl := sl } F σ' H := { s with len := hl, slots := h }
/-- a table has grown -/
theorem Sv.tabbed (s : Sv K TT g al en F σ H) {P : Addr} (hP : TT P) (h : GxR.Tabbed P H H') : Sv K TT g al en F σ H' := by
  obtain ⟨h1, h2⟩ := h
  have fP := (s.tabs P hP).2
  refine s.ext (Same.refl F) (fun b o e => ?_) (fun Q hQ => ?_) (fun b o e nt => ?_) fun b hb => .inl hb
  · rw [h2 b (ne_of_none e fP)]; exact s.sub b o e
  · by_cases q : Q = P
    · subst q; exact ⟨h1, fP⟩
    · obtain ⟨⟨ps, e, w⟩, n⟩ := s.tabs Q hQ
      exact ⟨⟨ps, by rw [h2 Q q]; exact e, w⟩, n⟩
  · rw [h2 b (fun z => nt (z ▸ hP))]; exact e
end

/-! ## judgements -/
/-- what is wanted behind: R of the value at the way on, W of an exception -/
def Post {α : Type} (K : PySem.W.Frag) (TT : Tt) (W : WX) (g : Gh) (F : Hp) (al : List Addr) (σ : L2.St) (o : Out α) (R : α → En → Hp → List Addr → Hp → Prop) : Prop :=
  match o with
  | .ok a e => ∀ F' al' H', Le F al F' al' → Sv K TT g al' e F' σ H' → R a e F' al' H'
  | .exc x e => ∀ F' al' H' cls dO, Le F al F' al' → Sv K TT g al' e F' σ H' → ExAt K F' H' x cls dO → W cls dO σ H'
  | .bad => False
section
variable {K : PySem.W.Frag} {TT : Tt} {W : WX} {g : Gh} {al al' : List Addr} {en : En} {F F' : Hp} {σ : L2.St} {H : Hp} {α β : Type}
theorem Post.up {o : Out α} {R : α → En → Hp → List Addr → Hp → Prop} (h : Post K TT W g F al σ o R) (l : Le F al F' al') : Post K TT W g F' al' σ o R := by
  cases o with
  | ok a e => exact fun F2 a2 H2 l2 s2 => h F2 a2 H2 (l.trans l2) s2
  | exc x e => exact fun F2 a2 H2 c d l2 s2 => h F2 a2 H2 c d (l.trans l2) s2
  | bad => exact h
theorem Post.imp {o : Out α} {R R' : α → En → Hp → List Addr → Hp → Prop} (h : Post K TT W g F al σ o R) (hi : ∀ a e F' al' H', Le F al F' al' → Sv K TT g al' e F' σ H' → R a e F' al' H' → R' a e F' al' H') : Post K TT W g F al σ o R' := by
  cases o with
  | ok a e => exact fun F2 a2 H2 l2 s2 => hi _ _ _ _ _ l2 s2 (h F2 a2 H2 l2 s2)
  | exc x e => exact h
  | bad => exact h
/-- the first part of a sequence -/
theorem Post.seq {m : M α} {k : α → M β} {R : β → En → Hp → List Addr → Hp → Prop} {R' : α → En → Hp → List Addr → Hp → Prop} (h : Post K TT W g F al σ (bnd m k en) R)
    (hk : ∀ a e F' al' H', Le F al F' al' → Sv K TT g al' e F' σ H' → Post K TT W g F' al' σ (k a e) R → R' a e F' al' H') : Post K TT W g F al σ (m en) R' := by
  unfold bnd at h
  cases q : m en with
  | ok a e =>
    rw [q] at h
    exact fun F2 a2 H2 l2 s2 => hk a e F2 a2 H2 l2 s2 (Post.up h l2)
  | exc x e => rw [q] at h; exact h
  | bad => rw [q] at h; exact h
/-- the end, at once -/
theorem Post.here {a : α} {e : En} {R : α → En → Hp → List Addr → Hp → Prop} (s : Sv K TT g al e F σ H) (h : Post K TT W g F al σ (.ok a e) R) : R a e F al H := h F al H (Le.refl _ _) s
theorem Post.at {a : α} {e : En} {F' : Hp} {al' : List Addr} {R : α → En → Hp → List Addr → Hp → Prop} (h : Post K TT W g F al σ (.ok a e) R) (l : Le F al F' al') (s : Sv K TT g al' e F' σ H) : R a e F' al' H := h F' al' H l s
end
structure PD (X : Cx) (TT : Tt) (W : WX) (e : Expr) (f : M Rv) : Prop where
  ex : ∃ t : TE, PE X e t ∧ ∀ g al en F σ H Q, Sv X.K TT g al en F σ H → Post X.K TT W g F al σ (f en) (fun r _ F' al' H' => ∀ v, RvR X.K F' al' v r → Q v H') → t σ H Q
structure PBt (X : Cx) (TT : Tt) (W : WX) (e : Expr) (f : M Bool) : Prop where
  ex : ∃ t : L2.TT, PT X e t ∧ ∀ g al en F σ H Q, Sv X.K TT g al en F σ H → Post X.K TT W g F al σ (f en) (fun b _ _ _ H' => Q b H') → t σ H Q
end Pd

namespace Pd
open PySem PySem.Spec PyProof.Rows L2
variable [Lams]
/-! ## looking at a value -/
def peek (e : En) : Rv → Option PyData
  | .dat d => some d
  | .own k => match e.ob[k]? with
    | some (.fz ds) => some (.list ds)
    | some (.lst rs) => (dats rs).map PyData.list
    | _ => none
  | _ => none
/-- v is d to look at -/
def PkR (K : PySem.W.Frag) (F H : Hp) (v : V) (d : PyData) : Prop :=
  Dp K F v d ∨ ∃ a xs ds, v = .ref a ∧ d = .list ds ∧ H a = some (.lst xs) ∧ DpAll K F xs ds
section
variable {K : PySem.W.Frag} {TT : Tt} {g : Gh} {al al' : List Addr} {en en' : En} {F F' : Hp} {σ σ' : L2.St} {H H' : Hp} {v : V} {d : PyData} {r : Rv}
theorem peek_ok (s : Sv K TT g al en F σ H) (h : RvR K F al v r) (e : peek en r = some d) : PkR K F H v d := by
  cases r with
  | dat z =>
    have e' : z = d := Option.some.inj e
    subst e'
    exact .inl h
  | fn j caps => cases e
  | fns j => cases e
  | exv => cases e
  | own k =>
    obtain ⟨a, ea, rfl⟩ := h
    unfold peek at e
    simp only at e
    have hk : k < al.length := (List.getElem?_eq_some_iff.mp ea).1
    have hk2 : k < en.ob.length := by rw [← s.alen]; exact hk
    rw [List.getElem?_eq_getElem hk2] at e
    have o := s.objs k a _ ea (List.getElem?_eq_getElem hk2)
    cases q : en.ob[k] with
    | lst rs =>
      rw [q] at e o
      obtain ⟨_, xs, hx, hr⟩ := o
      cases q2 : dats rs with
      | none => simp [q2] at e
      | some ds =>
        simp [q2] at e
        subst e
        exact .inr ⟨a, xs, ds, rfl, rfl, hx, rvAll_dats hr q2⟩
    | fz ds =>
      rw [q] at e o
      simp at e
      subst e
      obtain ⟨xs, hf, ha⟩ := o
      exact .inl (.lst (.inl (.inl hf)) ha)
    | _ => rw [q] at e; cases e
theorem PkR.list {ds : List PyData} (h : PkR K F H v (.list ds)) (s : Same F H) : ∃ a xs, v = .ref a ∧ SqL K H a xs ∧ DpAll K F xs ds := by
  rcases h with h | ⟨a, xs, es, rfl, e, hx, ha⟩
  · cases h with
    | lst h1 h2 => exact ⟨_, _, rfl, s.seq h1, h2⟩
  · cases e
    exact ⟨a, xs, rfl, .of hx, ha⟩
theorem PkR.tup {ds : List PyData} (h : PkR K F H v (.tuple ds)) (s : Same F H) : ∃ a xs, v = .ref a ∧ SqT K H a xs ∧ DpAll K F xs ds := by
  rcases h with h | ⟨a, xs, es, rfl, e, hx, ha⟩
  · cases h with
    | tup h1 h2 => exact ⟨_, _, rfl, sameT s (tupS h1), h2⟩
  · cases e
theorem PkR.int {i : Int} (h : PkR K F H v (.int i)) : v = .int i := by
  rcases h with h | ⟨a, xs, es, rfl, e, hx, ha⟩
  · cases h; rfl
  · cases e
theorem PkR.bool {i : Bool} (h : PkR K F H v (.bool i)) : v = .bl i := by
  rcases h with h | ⟨a, xs, es, rfl, e, hx, ha⟩
  · cases h; rfl
  · cases e
theorem PkR.str {i : Str} (h : PkR K F H v (.str i)) : v = .str i := by
  rcases h with h | ⟨a, xs, es, rfl, e, hx, ha⟩
  · cases h; rfl
  · cases e
theorem PkR.non (h : PkR K F H v .none) : v = .non := by
  rcases h with h | ⟨a, xs, es, rfl, e, hx, ha⟩
  · cases h; rfl
  · cases e
theorem PkR.dp (h : PkR K F H v d) (n : noD d = true) (s : Same F H) : L2.Dp K H v d := by
  rcases h with h | ⟨a, xs, es, rfl, rfl, hx, ha⟩
  · exact dpK _ _ n (dp_mono s _ _ h)
  · exact .lst (.of hx) (dpAllK _ _ n (dpAll_mono s _ _ ha))
theorem PkR.dq (h : PkR K F H v d) (s : Same F H) : Dp K H v d := by
  rcases h with h | ⟨a, xs, es, rfl, rfl, hx, ha⟩
  · exact dp_mono s _ _ h
  · exact .lst (.of hx) (dpAll_mono s _ _ ha)
theorem PkR.tupH {ds : List PyData} (h : PkR K F H v (.tuple ds)) (s : Same F H) : ∃ a xs, v = .ref a ∧ H a = some (.tup xs) ∧ DpAll K F xs ds := by
  rcases h with h | ⟨a, xs, es, rfl, e, hx, ha⟩
  · cases h with
    | tup h1 h2 => exact ⟨_, _, rfl, s _ _ h1, h2⟩
  · cases e
end
/-! ## atoms -/
section
variable {X : Cx} {TT : Tt} {W : WX} {pos : Pos}
def fVar (i : Nat) : M Rv := fun en => match en.sl[i]? with
  | some (some .exv) => .bad
  | some (some r) => .ok r en
  | _ => .bad
theorem pd_var (i : Nat) {x : Str} (hN : X.N[i]? = some x := by rfl) (hv : Vis X.env.scope x := by first | exact Or.inl rfl | exact Or.inr (Or.inl rfl) | exact Or.inr (Or.inr rfl)) (hd : (x == ("__debug__" : Str)) = false := by decide)
    (hcd : (x == ("__classdict__" : Str)) = false := by decide) : PD X TT W (.Name x pos) (fVar i) := by
  refine ⟨⟨tVar i, pv i hN hv hd hcd, fun g al en F σ H Q s h => ?_⟩⟩
  unfold fVar at h
  cases e : en.sl[i]? with
  | none => rw [e] at h; exact h.elim
  | some o =>
    cases o with
    | none => rw [e] at h; exact h.elim
    | some r =>
      rw [e] at h
      obtain ⟨v, e1, q⟩ := s.slots i r e
      have n : r ≠ .exv := fun z => by subst z; exact h
      have h2 : Post X.K TT W g F al σ (.ok r en) (fun r _ F' al' H' => ∀ v, RvR X.K F' al' v r → Q v H') := by
        cases r <;> first | exact h | exact absurd rfl n
      exact ⟨v, e1, h2.here s v (q.rv n)⟩
def fC (d : PyData) : M Rv := ret (.dat d)
theorem pd_of {e : Expr} {v : V} {d : PyData} (h : PE X e (tC v)) (hd : ∀ F, Dp X.K F v d) : PD X TT W e (fC d) :=
  ⟨⟨tC v, h, fun g al en F σ H Q s h => h.here s v (hd F)⟩⟩
theorem pd_int {i : Int} {j} : PD X TT W (.Constant (.int i) j pos) (fC (.int i)) := pd_of pe_int fun _ => .int i
theorem pd_bl {b : Bool} {j} : PD X TT W (.Constant (.bool b) j pos) (fC (.bool b)) := pd_of pe_bl fun _ => .bl b
theorem pd_non {j} : PD X TT W (.Constant .none j pos) (fC .none) := pd_of pe_non fun _ => .non
theorem pd_str {x : Str} {j} : PD X TT W (.Constant (.str x) j pos) (fC (.str x)) := pd_of pe_str fun _ => .str x
/-- a module's number -/
theorem pd_gint {x : Str} {i : Int} {t : Tok} (hg : Gl X x) (hm : X.mg x = some (.int i t)) (hd : (x == ("__debug__" : Str)) = false := by decide) : PD X TT W (.Name x pos) (fC (.int i)) :=
  pd_of (pe_glob (v := V.int i) hg hm ⟨t, rfl⟩ hd) fun _ => .int i
theorem pd_gstr {x z : Str} {t : Tok} (hg : Gl X x) (hm : X.mg x = some (.str z t)) (hd : (x == ("__debug__" : Str)) = false := by decide) : PD X TT W (.Name x pos) (fC (.str z)) :=
  pd_of (pe_glob (v := V.str z) hg hm ⟨t, rfl⟩ hd) fun _ => .str z
end
/-! ## operators by values -/
/-- nothing new, or one new frozen object -/
def RStep (F H F' H' : Hp) : Prop := (F' = F ∧ H' = H) ∨ ∃ p o, H p = none ∧ F' = upd F p o ∧ H' = upd H p o
theorem RStep.same (F H : Hp) : RStep F H F H := .inl ⟨rfl, rfl⟩
section
variable {K : PySem.W.Frag} {TT : Tt} {g : Gh} {al : List Addr} {en : En} {F F' : Hp} {σ : L2.St} {H H' : Hp}
theorem Sv.rstep (s : Sv K TT g al en F σ H) (h : RStep F H F' H') : Sv K TT g al en F' σ H' ∧ Le F al F' al := by
  rcases h with ⟨rfl, rfl⟩ | ⟨p, o, hp, rfl, rfl⟩
  · exact ⟨s, Le.refl _ _⟩
  · exact ⟨s.newF o hp, le_newF s o hp⟩
end
/-- the value z comes, as it must -/
abbrev Gv (K : PySem.W.Frag) (F H : Hp) (z : PyData) (Q : VK) : Prop := ∀ v F' H', RStep F H F' H' → Dp K F' v z → Q v H'
/-- r does on values what gg does on data -/
def Op2 (K : PySem.W.Frag) (r : R2) (gg : PyData → PyData → Option PyData) : Prop :=
  ∀ F H x y d e z Q, Same F H → PkR K F H x d → PkR K F H y e → gg d e = some z → Gv K F H z Q → r x y H Q
def app1 (gg : PyData → Option PyData) (x : Rv) : M Rv := fun en => match peek en x with
  | some d => (match gg d with
    | some z => .ok (.dat z) en
    | none => .bad)
  | none => .bad
def app2 (gg : PyData → PyData → Option PyData) (x y : Rv) : M Rv := fun en => match peek en x, peek en y with
  | some d, some e => (match gg d e with
    | some z => .ok (.dat z) en
    | none => .bad)
  | _, _ => .bad
def f2 (gg : PyData → PyData → Option PyData) (fa fb : M Rv) : M Rv := bnd fa fun x => bnd fb fun y => app2 gg x y
section
variable {X : Cx} {TT : Tt} {W : WX} {a b c : Expr} {fa fb fc : M Rv} {pos : Pos}
/-- both operands, then what is asked of their values -/
theorem two {ta tb : TE} {g : Gh} {al : List Addr} {en : En} {F : Hp} {σ : L2.St} {H : Hp} {Q : VK} {r : R2} {gg : PyData → PyData → Option PyData}
    (ha : ∀ g al en F σ H Q, Sv X.K TT g al en F σ H → Post X.K TT W g F al σ (fa en) (fun r _ F' al' H' => ∀ v, RvR X.K F' al' v r → Q v H') → ta σ H Q)
    (hb : ∀ g al en F σ H Q, Sv X.K TT g al en F σ H → Post X.K TT W g F al σ (fb en) (fun r _ F' al' H' => ∀ v, RvR X.K F' al' v r → Q v H') → tb σ H Q)
    (hr : Op2 X.K r gg) (s : Sv X.K TT g al en F σ H) (h : Post X.K TT W g F al σ (f2 gg fa fb en) (fun r _ F' al' H' => ∀ v, RvR X.K F' al' v r → Q v H')) : tOp r ta tb σ H Q := by
  refine ha g al en F σ H _ s (Post.seq h fun x e1 F1 a1 H1 l1 s1 p1 v1 r1 => ?_)
  refine hb g a1 e1 F1 σ H1 _ s1 (Post.seq p1 fun y e2 F2 a2 H2 l2 s2 p2 v2 r2 => ?_)
  unfold app2 at p2
  cases ex : peek e2 x with
  | none => rw [ex] at p2; exact p2.elim
  | some dx =>
    cases ey : peek e2 y with
    | none => rw [ex, ey] at p2; exact p2.elim
    | some dy =>
      rw [ex, ey] at p2
      simp only at p2
      cases ez : gg dx dy with
      | none => rw [ez] at p2; exact p2.elim
      | some z =>
        rw [ez] at p2
        refine hr F2 H2 v1 v2 dx dy z Q s2.sub (peek_ok s2 (r1.mono l2) ex) (peek_ok s2 r2 ey) ez fun v F3 H3 hs hd => ?_
        obtain ⟨s3, l3⟩ := s2.rstep hs
        exact p2.at l3 s3 v hd
theorem pd_bin {op : Operator} {r : R2} {gg : PyData → PyData → Option PyData} (ho : OpR X (binaryOp op) r) (hr : Op2 X.K r gg) (ha : PD X TT W a fa) (hb : PD X TT W b fb) : PD X TT W (.BinOp a op b pos) (f2 gg fa fb) := by
  obtain ⟨⟨ta, pa, qa⟩⟩ := ha
  obtain ⟨⟨tb, pb, qb⟩⟩ := hb
  exact ⟨⟨_, pe_op ho pa pb, fun g al en F σ H Q s h => two qa qb hr s h⟩⟩
/-- a comparison as a value -/
theorem pd_cmp {op : CmpOp} {r : R2} {gg : PyData → PyData → Option PyData} (ho : OpR X (compareOp op) r) (hr : Op2 X.K r gg) (ha : PD X TT W a fa) (hb : PD X TT W b fb) (hm : behindInMarks op b = false) : PD X TT W (.Compare a [op] [b] pos) (f2 gg fa fb) := by
  obtain ⟨⟨ta, pa, qa⟩⟩ := ha
  obtain ⟨⟨tb, pb, qb⟩⟩ := hb
  exact ⟨⟨_, pe_cmpR ho pa pb hm, fun g al en F σ H Q s h => two qa qb hr s h⟩⟩
/-- a value that must be a bool -/
def toB (x : Rv) : M Bool := fun en => match x with
  | .dat (.bool b) => .ok b en
  | _ => .bad
theorem toB_post {K : PySem.W.Frag} {g : Gh} {al : List Addr} {en : En} {F : Hp} {σ : L2.St} {H : Hp} {x : Rv} {v : V} {R : Bool → En → Hp → List Addr → Hp → Prop} (s : Sv K TT g al en F σ H) (r : RvR K F al v x) (h : Post K TT W g F al σ (toB x en) R) : ∃ b, v = .bl b ∧ R b en F al H := by
  unfold toB at h
  split at h
  · cases r
    exact ⟨_, rfl, h.here s⟩
  · exact h.elim
def fB (fa : M Rv) : M Bool := bnd fa toB
theorem tst {ta : TE} {t : L2.TT} (ht : ∀ σ H Q, ta σ H (fun x H' => ∃ k, x = .bl k ∧ Q k H') → t σ H Q)
    (ha : ∀ g al en F σ H Q, Sv X.K TT g al en F σ H → Post X.K TT W g F al σ (fa en) (fun r _ F' al' H' => ∀ v, RvR X.K F' al' v r → Q v H') → ta σ H Q)
    {g : Gh} {al : List Addr} {en : En} {F : Hp} {σ : L2.St} {H : Hp} {Q : Bool → Hp → Prop} (s : Sv X.K TT g al en F σ H) (h : Post X.K TT W g F al σ (fB fa en) (fun b _ _ _ H' => Q b H')) : t σ H Q := by
  refine ht σ H Q (ha g al en F σ H _ s (Post.seq h fun x e1 F1 a1 H1 l1 s1 p1 v1 r1 => ?_))
  obtain ⟨b, e, q⟩ := toB_post s1 r1 p1
  exact ⟨b, e, q⟩
theorem pb_cmp {op : CmpOp} {r : R2} {gg : PyData → PyData → Option PyData} (ho : OpR X (compareOp op) r) (hr : Op2 X.K r gg) (ha : PD X TT W a fa) (hb : PD X TT W b fb) (hm : behindInMarks op b = false) : PBt X TT W (.Compare a [op] [b] pos) (fB (f2 gg fa fb)) := by
  obtain ⟨⟨ta, pa, qa⟩⟩ := ha
  obtain ⟨⟨tb, pb, qb⟩⟩ := hb
  exact ⟨⟨_, pt_cmpR ho pa pb hm, fun g al en F σ H Q s h => tst (ta := tOp r ta tb) (fun _ _ _ z => z) (fun g al en F σ H Q s h => two qa qb hr s h) s h⟩⟩
theorem pb_val (h : PD X TT W a fa) (he : ∀ whole, isTrue a X.env whole = (do let v ← whole; standAt a.pos; holding [v] (truthy v)) := by intro _; rfl) : PBt X TT W a (fB fa) := by
  obtain ⟨⟨ta, pa, qa⟩⟩ := h
  exact ⟨⟨_, pt_val pa he, fun g al en F σ H Q s h => tst (ta := ta) (fun _ _ _ z => z) qa s h⟩⟩
/-- an operator on two values, then more -/
theorem app2_seq {α : Type} {K : PySem.W.Frag} {g : Gh} {al : List Addr} {en : En} {F : Hp} {σ : L2.St} {H : Hp} {x y : Rv} {v1 v2 : V} {r : R2} {gg : PyData → PyData → Option PyData} {k : Rv → M α} {R : α → En → Hp → List Addr → Hp → Prop} {Q : VK}
    (hr : Op2 K r gg) (s : Sv K TT g al en F σ H) (r1 : RvR K F al v1 x) (r2 : RvR K F al v2 y) (h : Post K TT W g F al σ (bnd (app2 gg x y) k en) R)
    (hk : ∀ z v F' H', Sv K TT g al en F' σ H' → Le F al F' al → Dp K F' v z → Post K TT W g F' al σ (k (.dat z) en) R → Q v H') : r v1 v2 H Q := by
  have p := Post.seq (R' := fun a e F' al' H' => Post K TT W g F' al' σ (k a e) R) h fun a e F' al' H' _ _ p => p
  unfold app2 at p
  cases ex : peek en x with
  | none => rw [ex] at p; exact p.elim
  | some dx =>
    cases ey : peek en y with
    | none => rw [ex, ey] at p; exact p.elim
    | some dy =>
      rw [ex, ey] at p
      simp only at p
      cases ez : gg dx dy with
      | none => rw [ez] at p; exact p.elim
      | some z =>
        rw [ez] at p
        refine hr F H v1 v2 dx dy z _ s.sub (peek_ok s r1 ex) (peek_ok s r2 ey) ez fun v F3 H3 hs hd => ?_
        obtain ⟨s3, l3⟩ := s.rstep hs
        exact hk z v F3 H3 s3 l3 hd (p.at l3 s3)
/-- a chain of two -/
def fCh (g1 g2 : PyData → PyData → Option PyData) (fa fb fc : M Rv) : M Rv := bnd fa fun x => bnd fb fun y => bnd (app2 g1 x y) fun k => match k with
  | .dat (.bool true) => bnd fc fun z => app2 g2 y z
  | .dat (.bool false) => ret (.dat (.bool false))
  | _ => fun _ => .bad
theorem chn {r r' : R2} {ta tb tc : TE} {g1 g2 : PyData → PyData → Option PyData} {g : Gh} {al : List Addr} {en : En} {F : Hp} {σ : L2.St} {H : Hp} {Q : VK}
    (ha : ∀ g al en F σ H Q, Sv X.K TT g al en F σ H → Post X.K TT W g F al σ (fa en) (fun r _ F' al' H' => ∀ v, RvR X.K F' al' v r → Q v H') → ta σ H Q)
    (hb : ∀ g al en F σ H Q, Sv X.K TT g al en F σ H → Post X.K TT W g F al σ (fb en) (fun r _ F' al' H' => ∀ v, RvR X.K F' al' v r → Q v H') → tb σ H Q)
    (hc : ∀ g al en F σ H Q, Sv X.K TT g al en F σ H → Post X.K TT W g F al σ (fc en) (fun r _ F' al' H' => ∀ v, RvR X.K F' al' v r → Q v H') → tc σ H Q)
    (h1 : Op2 X.K r g1) (h2 : Op2 X.K r' g2) (s : Sv X.K TT g al en F σ H) (h : Post X.K TT W g F al σ (fCh g1 g2 fa fb fc en) (fun r _ F' al' H' => ∀ v, RvR X.K F' al' v r → Q v H')) :
    tChain r r' ta tb tc σ H Q := by
  refine ha g al en F σ H _ s (Post.seq h fun x e1 F1 a1 H1 l1 s1 p1 v1 r1 => ?_)
  refine hb g a1 e1 F1 σ H1 _ s1 (Post.seq p1 fun y0 e2 F2 a2 H2 l2 s2 p2 v2 r2 => ?_)
  refine app2_seq h1 s2 (r1.mono l2) r2 p2 fun z v F3 H3 s3 l3 hd p3 => ?_
  have dead : ∀ {P : Prop}, Post X.K TT W g F3 a2 σ (Out.bad : Out Rv) (fun r _ F' al' H' => ∀ v, RvR X.K F' al' v r → Q v H') → P := fun z => z.elim
  cases z with
  | bool k =>
    cases k with
    | true =>
      cases hd
      refine ⟨true, rfl, ?_⟩
      rw [if_pos rfl]
      have p3 : Post X.K TT W g F3 a2 σ (bnd fc (fun z => app2 g2 y0 z) e2) (fun r _ F' al' H' => ∀ v, RvR X.K F' al' v r → Q v H') := p3
      refine hc g a2 e2 F3 σ H3 _ s3 (Post.seq p3 fun y e4 F4 a4 H4 l4 s4 p4 v4 r4 => ?_)
      have p5 : Post X.K TT W g F4 a4 σ (bnd (app2 g2 y0 y) ret e4) (fun r _ F' al' H' => ∀ v, RvR X.K F' al' v r → Q v H') := by
        unfold bnd
        generalize app2 g2 y0 y e4 = o at p4 ⊢
        cases o <;> exact p4
      exact app2_seq h2 s4 ((r2.mono l3).mono l4) r4 p5 fun z v F5 H5 s5 l5 hd p6 => p6.here s5 v hd
    | false =>
      cases hd
      refine ⟨false, rfl, ?_⟩
      rw [if_neg Bool.false_ne_true]
      exact Post.here (a := Rv.dat (.bool false)) (R := fun r _ F' al' H' => ∀ v, RvR X.K F' al' v r → Q v H') s3 p3 _ (Dp.bl false)
  | none => exact dead p3
  | int i => exact dead p3
  | str i => exact dead p3
  | list i => exact dead p3
  | tuple i => exact dead p3
  | dict i => exact dead p3
theorem pd_chain {op op' : CmpOp} {r r' : R2} {g1 g2 : PyData → PyData → Option PyData} (ho : OpR X (compareOp op) r) (h1 : Op2 X.K r g1) (ho' : OpR X (compareOp op') r') (h2 : Op2 X.K r' g2) (ha : PD X TT W a fa) (hb : PD X TT W b fb) (hc : PD X TT W c fc)
    (hm : lastMarks [op, op'] [b, c] = false := by with_unfolding_all rfl) : PD X TT W (.Compare a [op, op'] [b, c] pos) (fCh g1 g2 fa fb fc) := by
  obtain ⟨⟨ta, pa, qa⟩⟩ := ha
  obtain ⟨⟨tb, pb, qb⟩⟩ := hb
  obtain ⟨⟨tc, pc, qc⟩⟩ := hc
  exact ⟨⟨_, pe_chain ho ho' pa pb pc hm, fun g al en F σ H Q s h => chn qa qb qc h1 h2 s h⟩⟩
theorem pb_chain {op op' : CmpOp} {r r' : R2} {g1 g2 : PyData → PyData → Option PyData} (ho : OpR X (compareOp op) r) (h1 : Op2 X.K r g1) (ho' : OpR X (compareOp op') r') (h2 : Op2 X.K r' g2) (ha : PD X TT W a fa) (hb : PD X TT W b fb) (hc : PD X TT W c fc)
    (hm : lastMarks [op, op'] [b, c] = false := by with_unfolding_all rfl) : PBt X TT W (.Compare a [op, op'] [b, c] pos) (fB (fCh g1 g2 fa fb fc)) := by
  obtain ⟨⟨ta, pa, qa⟩⟩ := ha
  obtain ⟨⟨tb, pb, qb⟩⟩ := hb
  obtain ⟨⟨tc, pc, qc⟩⟩ := hc
  exact ⟨⟨_, pt_chain ho ho' pa pb pc hm, fun g al en F σ H Q s h => tst (ta := tChain r r' ta tb tc) (fun _ _ _ z => z) (fun g al en F σ H Q s h => chn qa qb qc h1 h2 s h) s h⟩⟩
/-! ## and, or, not -/
structure PWd (X : Cx) (TT : Tt) (W : WX) (e : Expr) (f : M Bool) : Prop where
  ex : ∃ t : L2.TT, PW X e t ∧ ∀ g al en F σ H Q, Sv X.K TT g al en F σ H → Post X.K TT W g F al σ (f en) (fun b _ _ _ H' => Q b H') → t σ H Q
theorem pb_of {e : Expr} {f : M Bool} (h : PWd X TT W e f) : PBt X TT W e f := by
  obtain ⟨⟨t, p, q⟩⟩ := h
  exact ⟨⟨t, p.pt, q⟩⟩
def fAnd (fa fb : M Bool) : M Bool := bnd fa fun b => if b = true then fb else ret false
def fOr (fa fb : M Bool) : M Bool := bnd fa fun b => if b = true then ret true else fb
def fNot (fa : M Bool) : M Bool := bnd fa fun b => ret (!b)
variable {ga gb : M Bool} {rest : List Expr}
theorem pw_a1 (ha : PBt X TT W a ga) : PWd X TT W (.BoolOp .And [a] pos) ga := by
  obtain ⟨⟨t, p, q⟩⟩ := ha
  exact ⟨⟨t, pw_and1 p, q⟩⟩
theorem pw_o1 (ha : PBt X TT W a ga) : PWd X TT W (.BoolOp .Or [a] pos) ga := by
  obtain ⟨⟨t, p, q⟩⟩ := ha
  exact ⟨⟨t, pw_or1 p, q⟩⟩
theorem pw_a (ha : PBt X TT W a ga) (hb : PWd X TT W (.BoolOp .And (b :: rest) pos) gb) : PWd X TT W (.BoolOp .And (a :: b :: rest) pos) (fAnd ga gb) := by
  obtain ⟨⟨t, p, q⟩⟩ := ha
  obtain ⟨⟨u, p', q'⟩⟩ := hb
  refine ⟨⟨_, pw_and p p', fun g al en F σ H Q s h => ?_⟩⟩
  refine q g al en F σ H _ s (Post.seq h fun x e1 F1 a1 H1 l1 s1 p1 => ?_)
  cases x with
  | true => rw [if_pos rfl] at p1 ⊢; exact q' g a1 e1 F1 σ H1 Q s1 p1
  | false => rw [if_neg Bool.false_ne_true] at p1 ⊢; exact p1.here s1
theorem pw_o (ha : PBt X TT W a ga) (hb : PWd X TT W (.BoolOp .Or (b :: rest) pos) gb) : PWd X TT W (.BoolOp .Or (a :: b :: rest) pos) (fOr ga gb) := by
  obtain ⟨⟨t, p, q⟩⟩ := ha
  obtain ⟨⟨u, p', q'⟩⟩ := hb
  refine ⟨⟨_, pw_or p p', fun g al en F σ H Q s h => ?_⟩⟩
  refine q g al en F σ H _ s (Post.seq h fun x e1 F1 a1 H1 l1 s1 p1 => ?_)
  cases x with
  | true => rw [if_pos rfl] at p1 ⊢; exact p1.here s1
  | false => rw [if_neg Bool.false_ne_true] at p1 ⊢; exact q' g a1 e1 F1 σ H1 Q s1 p1
theorem pb_not (ha : PBt X TT W a ga) : PBt X TT W (.UnaryOp .Not a pos) (fNot ga) := by
  obtain ⟨⟨t, p, q⟩⟩ := ha
  exact ⟨⟨_, pt_not p, fun g al en F σ H Q s h => q g al en F σ H _ s (Post.seq h fun x e1 F1 a1 H1 l1 s1 p1 => p1.here s1)⟩⟩
/-- as values -/
def vAnd (fa fb : M Rv) : M Rv := bnd (fB fa) fun b => if b = true then fb else ret (.dat (.bool false))
def vOr (fa fb : M Rv) : M Rv := bnd (fB fa) fun b => if b = true then ret (.dat (.bool true)) else fb
def vNot (fa : M Rv) : M Rv := bnd (fB fa) fun b => ret (.dat (.bool (!b)))
theorem bseq {β : Type} {ta : TE} {g : Gh} {al : List Addr} {en : En} {F : Hp} {σ : L2.St} {H : Hp} {Q : VK} {k : Bool → M β} {R : β → En → Hp → List Addr → Hp → Prop}
    (ha : ∀ g al en F σ H Q, Sv X.K TT g al en F σ H → Post X.K TT W g F al σ (fa en) (fun r _ F' al' H' => ∀ v, RvR X.K F' al' v r → Q v H') → ta σ H Q) (s : Sv X.K TT g al en F σ H) (h : Post X.K TT W g F al σ (bnd (fB fa) k en) R)
    (hk : ∀ c e1 F1 a1 H1, Le F al F1 a1 → Sv X.K TT g a1 e1 F1 σ H1 → Post X.K TT W g F1 a1 σ (k c e1) R → Q (.bl c) H1) : ta σ H Q := by
  have h1 := Post.seq (R' := fun c e F' al' H' => Post X.K TT W g F' al' σ (k c e) R) h fun c e F' al' H' _ _ p => p
  refine ha g al en F σ H _ s (Post.seq h1 fun x e1 F1 a1 H1 l1 s1 p1 v1 r1 => ?_)
  obtain ⟨c, rfl, q⟩ := toB_post s1 r1 p1
  exact hk c e1 F1 a1 H1 l1 s1 q
theorem pd_one {op} (h : PD X TT W a fa) : PD X TT W (.BoolOp op [a] pos) fa := by
  obtain ⟨⟨t, p, q⟩⟩ := h
  exact ⟨⟨t, pe_one p, q⟩⟩
theorem pd_and (ha : PD X TT W a fa) (hb : PD X TT W (.BoolOp .And (b :: rest) pos) fb) : PD X TT W (.BoolOp .And (a :: b :: rest) pos) (vAnd fa fb) := by
  obtain ⟨⟨t, p, q⟩⟩ := ha
  obtain ⟨⟨u, p', q'⟩⟩ := hb
  refine ⟨⟨_, pe_and p p', fun g al en F σ H Q s h => ?_⟩⟩
  show t σ H fun x H1 => ∃ c, x = V.bl c ∧ if c = true then u σ H1 Q else Q (.bl false) H1
  refine bseq q s h fun c e1 F1 a1 H1 l1 s1 p1 => ⟨c, rfl, ?_⟩
  cases c with
  | true => rw [if_pos rfl] at p1 ⊢; exact q' g a1 e1 F1 σ H1 Q s1 p1
  | false => rw [if_neg Bool.false_ne_true] at p1 ⊢; exact p1.here s1 _ (Dp.bl false)
theorem pd_or (ha : PD X TT W a fa) (hb : PD X TT W (.BoolOp .Or (b :: rest) pos) fb) : PD X TT W (.BoolOp .Or (a :: b :: rest) pos) (vOr fa fb) := by
  obtain ⟨⟨t, p, q⟩⟩ := ha
  obtain ⟨⟨u, p', q'⟩⟩ := hb
  refine ⟨⟨_, pe_or p p', fun g al en F σ H Q s h => ?_⟩⟩
  show t σ H fun x H1 => ∃ c, x = V.bl c ∧ if c = true then Q (.bl true) H1 else u σ H1 Q
  refine bseq q s h fun c e1 F1 a1 H1 l1 s1 p1 => ⟨c, rfl, ?_⟩
  cases c with
  | true => rw [if_pos rfl] at p1 ⊢; exact p1.here s1 _ (Dp.bl true)
  | false => rw [if_neg Bool.false_ne_true] at p1 ⊢; exact q' g a1 e1 F1 σ H1 Q s1 p1
theorem pd_not (ha : PD X TT W a fa) : PD X TT W (.UnaryOp .Not a pos) (vNot fa) := by
  obtain ⟨⟨t, p, q⟩⟩ := ha
  refine ⟨⟨_, pe_not p, fun g al en F σ H Q s h => ?_⟩⟩
  show t σ H fun x H1 => ∃ c, x = V.bl c ∧ Q (.bl (!c)) H1
  exact bseq q s h fun c e1 F1 a1 H1 l1 s1 p1 => ⟨c, rfl, p1.here s1 _ (Dp.bl _)⟩
def fIf (c : M Bool) (fa fb : M Rv) : M Rv := bnd c fun b => if b = true then fa else fb
theorem pd_if {gc : M Bool} (hc : PBt X TT W c gc) (ha : PD X TT W a fa) (hb : PD X TT W b fb) : PD X TT W (.IfExp c a b pos) (fIf gc fa fb) := by
  obtain ⟨⟨t, p, q⟩⟩ := hc
  obtain ⟨⟨ta, pa, qa⟩⟩ := ha
  obtain ⟨⟨tb, pb, qb⟩⟩ := hb
  refine ⟨⟨_, pe_ifExp p pa pb, fun g al en F σ H Q s h => ?_⟩⟩
  refine q g al en F σ H _ s (Post.seq h fun x e1 F1 a1 H1 l1 s1 p1 => ?_)
  cases x with
  | true => rw [if_pos rfl] at p1 ⊢; exact qa g a1 e1 F1 σ H1 Q s1 p1
  | false => rw [if_neg Bool.false_ne_true] at p1 ⊢; exact qb g a1 e1 F1 σ H1 Q s1 p1
end
end Pd

namespace Pd
open PySem PySem.Spec PyProof.Rows L2
variable [Lams]
/-! ## the operators -/
section
variable {K : PySem.W.Frag}
theorem Op2.or {r r' : R2} {gg gg' : PyData → PyData → Option PyData} (h : Op2 K r gg) (h' : Op2 K r' gg') : Op2 K (fun x y H Q => r x y H Q ∨ r' x y H Q) (fun d e => match gg d e with
    | some z => some z
    | none => gg' d e) := by
  intro F H x y d e z Q s hx hy hg k
  cases q : gg d e with
  | some w =>
    simp only [q] at hg
    exact .inl (h F H x y d e z Q s hx hy (q.trans hg) k)
  | none =>
    simp only [q] at hg
    exact .inr (h' F H x y d e z Q s hx hy hg k)
def addI : PyData → PyData → Option PyData
  | .int i, .int j => some (.int (i + j))
  | _, _ => none
def addT : PyData → PyData → Option PyData
  | .tuple xs, .tuple ys => if xs.length + ys.length ≤ sizeLine then some (.tuple (xs ++ ys)) else none
  | _, _ => none
def addS : PyData → PyData → Option PyData
  | .str i, .str j => if i.length + j.length ≤ sizeLine then some (.str (i ++ j)) else none
  | _, _ => none
def subG : PyData → PyData → Option PyData
  | .int i, .int j => some (.int (i - j))
  | _, _ => none
def mulG : PyData → PyData → Option PyData
  | .int i, .int j => if (-(2 ^ 64) < i ∧ i < 2 ^ 64) ∨ (-(2 ^ 64) < j ∧ j < 2 ^ 64) then some (.int (i * j)) else none
  | _, _ => none
def divG : PyData → PyData → Option PyData
  | .int i, .int j => if 0 < j ∧ j < 1073741824 then some (.int (i / j)) else none
  | _, _ => none
def modG : PyData → PyData → Option PyData
  | .int i, .int j => if 0 < j then some (.int (i % j)) else none
  | _, _ => none
def powG : PyData → PyData → Option PyData
  | .int i, .int j => if 0 ≤ j ∧ j ≤ 1000000 ∧ i.natAbs < 2 ^ 64 then some (.int (i ^ j.toNat)) else none
  | _, _ => none
/-- two ints, a condition -/
theorem o2_int {C : Int → Int → Prop} {gg : PyData → PyData → Option PyData} {h : Int → Int → V} {h' : Int → Int → PyData}
    (hv : ∀ F i j, Dp K F (h i j) (h' i j)) (hg : ∀ d e z, gg d e = some z → ∃ i j, d = .int i ∧ e = .int j ∧ C i j ∧ z = h' i j) : Op2 K (rI C h) gg := by
  intro F H x y d e z Q s hx hy hz k
  obtain ⟨i, j, rfl, rfl, c, rfl⟩ := hg d e z hz
  exact ⟨i, j, hx.int, hy.int, c, k _ F H (.same _ _) (hv F i j)⟩
theorem o2_int0 {gg : PyData → PyData → Option PyData} {h : Int → Int → V} {h' : Int → Int → PyData}
    (hv : ∀ F i j, Dp K F (h i j) (h' i j)) (hg : ∀ d e z, gg d e = some z → ∃ i j, d = .int i ∧ e = .int j ∧ z = h' i j) : Op2 K (rI0 h) gg := by
  intro F H x y d e z Q s hx hy hz k
  obtain ⟨i, j, rfl, rfl, rfl⟩ := hg d e z hz
  exact ⟨i, j, hx.int, hy.int, k _ F H (.same _ _) (hv F i j)⟩
theorem o_addI : Op2 K (rI0 fun i j => .int (i + j)) addI := o2_int0 (h' := fun i j => .int (i + j)) (fun _ _ _ => .int _) fun d e z h => by
  unfold addI at h; split at h
  · cases h; exact ⟨_, _, rfl, rfl, rfl⟩
  · cases h
theorem o_sub : Op2 K (rI0 fun i j => .int (i - j)) subG := o2_int0 (h' := fun i j => .int (i - j)) (fun _ _ _ => .int _) fun d e z h => by
  unfold subG at h; split at h
  · cases h; exact ⟨_, _, rfl, rfl, rfl⟩
  · cases h
theorem o_mul : Op2 K (rI CMul fun i j => .int (i * j)) mulG := o2_int (h' := fun i j => .int (i * j)) (fun _ _ _ => .int _) fun d e z h => by
  unfold mulG at h; split at h
  · split at h
    · rename_i c; cases h; exact ⟨_, _, rfl, rfl, c, rfl⟩
    · cases h
  · cases h
theorem o_div : Op2 K (rI CDiv fun i j => .int (i / j)) divG := o2_int (h' := fun i j => .int (i / j)) (fun _ _ _ => .int _) fun d e z h => by
  unfold divG at h; split at h
  · split at h
    · rename_i c; cases h; exact ⟨_, _, rfl, rfl, c, rfl⟩
    · cases h
  · cases h
theorem o_mod : Op2 K (rI (fun _ j => 0 < j) fun i j => .int (i % j)) modG := o2_int (C := fun _ j => 0 < j) (h' := fun i j => .int (i % j)) (fun _ _ _ => .int _) fun d e z h => by
  unfold modG at h; split at h
  · split at h
    · rename_i c; cases h; exact ⟨_, _, rfl, rfl, c, rfl⟩
    · cases h
  · cases h
theorem o_pow : Op2 K (rI CPow fun i j => .int (i ^ j.toNat)) powG := o2_int (h' := fun i j => .int (i ^ j.toNat)) (fun _ _ _ => .int _) fun d e z h => by
  unfold powG at h; split at h
  · split at h
    · rename_i c; cases h; exact ⟨_, _, rfl, rfl, c, rfl⟩
    · cases h
  · cases h
theorem o_addT : Op2 K (rCatA K) addT := by
  intro F H x y d e z Q s hx hy hg k
  unfold addT at hg
  split at hg
  · rename_i xs ys
    split at hg
    · rename_i hz
      cases hg
      obtain ⟨a, us, rfl, h1, h2⟩ := hx.tup s
      obtain ⟨b, ws, rfl, h3, h4⟩ := hy.tup s
      have l1 := dpAll_len h2
      have l2 := dpAll_len h4
      refine ⟨a, b, us, ws, rfl, rfl, h1, h3, by omega, fun q => ?_, fun q1 q2 => ?_, fun q1 q2 p hp => ?_⟩
      · subst q
        have e : xs = [] := List.length_eq_zero_iff.mp l1.symm
        subst e
        rcases hy with w | ⟨_, _, _, _, w, _⟩
        · exact k _ F H (.same _ _) w
        · cases w
      · subst q2
        have e : ys = [] := List.length_eq_zero_iff.mp l2.symm
        subst e
        rw [List.append_nil] at k
        rcases hx with w | ⟨_, _, _, _, w, _⟩
        · exact k _ F H (.same _ _) w
        · cases w
      · exact k _ (upd F p (.tup (us ++ ws))) _ (.inr ⟨p, _, hp, rfl, rfl⟩) (dp_tup (dpAll_app h2 h4) (s.free hp))
    · cases hg
  · cases hg
theorem o_addS : Op2 K (fun x y H Q => ∃ i j, x = .str i ∧ y = .str j ∧ i.length + j.length ≤ sizeLine ∧ Q (.str (i ++ j)) H) addS := by
  intro F H x y d e z Q s hx hy hg k
  unfold addS at hg
  split at hg
  · split at hg
    · rename_i hz
      cases hg
      exact ⟨_, _, hx.str, hy.str, hz, k _ F H (.same _ _) (.str _)⟩
    · cases hg
  · cases hg
def cmpG (p : Int → Int → Bool) : PyData → PyData → Option PyData
  | .int i, .int j => some (.bool (p i j))
  | _, _ => none
theorem o_cmp {p : Int → Int → Bool} : Op2 K (rI0 fun i j => .bl (p i j)) (cmpG p) := o2_int0 (h' := fun i j => .bool (p i j)) (fun _ _ _ => .bl _) fun d e z h => by
  unfold cmpG at h; split at h
  · cases h; exact ⟨_, _, rfl, rfl, rfl⟩
  · cases h
abbrev ltG := cmpG fun i j => decide (i < j)
abbrev leG := cmpG fun i j => decide (i ≤ j)
abbrev gtG := cmpG fun i j => decide (j < i)
abbrev geG := cmpG fun i j => decide (j ≤ i)
def eqG (d e : PyData) : Option PyData := if SeqAt.shaped d = true ∧ SeqAt.shaped e = true then some (.bool (PyData.eqv d e)) else none
def neG (d e : PyData) : Option PyData := if SeqAt.shaped d = true ∧ SeqAt.shaped e = true then some (.bool (!PyData.eqv d e)) else none
theorem o_eq : Op2 K (rEqD K) eqG := by
  intro F H x y d e z Q s hx hy hg k
  unfold eqG at hg
  split at hg
  · rename_i c
    cases hg
    exact ⟨d, e, hx.dp (noD_shaped c.1) s, hy.dp (noD_shaped c.2) s, c.1, c.2, k _ F H (.same _ _) (.bl _)⟩
  · cases hg
theorem o_ne : Op2 K (rNeD K) neG := by
  intro F H x y d e z Q s hx hy hg k
  unfold neG at hg
  split at hg
  · rename_i c
    cases hg
    exact ⟨d, e, hx.dp (noD_shaped c.1) s, hy.dp (noD_shaped c.2) s, c.1, c.2, k _ F H (.same _ _) (.bl _)⟩
  · cases hg
/-- flat data as a value -/
def toV : PyData → Option V
  | .none => some .non
  | .bool b => some (.bl b)
  | .int i => some (.int i)
  | .str x => some (.str x)
  | _ => none
def toVs : List PyData → Option (List V)
  | [] => some []
  | d :: ds => match toV d, toVs ds with
    | some v, some vs => some (v :: vs)
    | _, _ => none
theorem toV_ok {F : Hp} {d : PyData} {v u : V} (h : Dp K F v d) (e : toV d = some u) : v = u ∧ flatV u = true := by
  cases h <;> simp [toV] at e <;> subst e <;> exact ⟨rfl, rfl⟩
theorem toVs_ok {F : Hp} : ∀ {ds : List PyData} {vs us : List V}, DpAll K F vs ds → toVs ds = some us → vs = us ∧ us.all flatV = true
  | [], _, _, h, e => by
    cases h
    simp [toVs] at e
    subst e
    exact ⟨rfl, rfl⟩
  | d :: ds, _, us, h, e => by
    cases h with
    | cons h1 h2 =>
      unfold toVs at e
      cases q1 : toV d with
      | none => rw [q1] at e; cases e
      | some w =>
        cases q2 : toVs ds with
        | none => rw [q1, q2] at e; cases e
        | some ws =>
          rw [q1, q2] at e
          cases e
          obtain ⟨r1, f1⟩ := toV_ok h1 q1
          obtain ⟨r2, f2⟩ := toVs_ok h2 q2
          rw [r1, r2]
          exact ⟨rfl, by rw [List.all_cons, f1, f2]; rfl⟩
def items : PyData → Option (List PyData)
  | .list ds => some ds
  | .tuple ds => some ds
  | _ => none
def inG (neg : Bool) (d e : PyData) : Option PyData := match toV d, items e with
  | some v, some ds => (match toVs ds with
    | some vs => some (.bool (if neg then !inV v vs else inV v vs))
    | none => none)
  | _, _ => none
theorem o_in (neg : Bool) : Op2 K (rIn K neg) (inG neg) := by
  intro F H x y d e z Q s hx hy hg k
  unfold inG at hg
  cases q1 : toV d with
  | none => rw [q1] at hg; cases hg
  | some v =>
    cases q2 : items e with
    | none => rw [q1, q2] at hg; cases hg
    | some ds =>
      rw [q1, q2] at hg
      simp only at hg
      cases q3 : toVs ds with
      | none => rw [q3] at hg; cases hg
      | some vs =>
        rw [q3] at hg
        cases hg
        obtain ⟨rfl, f1⟩ := toV_ok (hx.dq s) q1
        have key : ∃ a xs, y = .ref a ∧ (SqL K H a xs ∨ SqT K H a xs) ∧ DpAll K F xs ds := by
          cases e with
          | list es =>
            cases q2
            obtain ⟨a, xs, e1, e2, e3⟩ := hy.list s
            exact ⟨a, xs, e1, .inl e2, e3⟩
          | tuple es =>
            cases q2
            obtain ⟨a, xs, e1, e2, e3⟩ := hy.tup s
            exact ⟨a, xs, e1, .inr e2, e3⟩
          | _ => cases q2
        obtain ⟨a, xs, rfl, e2, e3⟩ := key
        obtain ⟨rfl, f2⟩ := toVs_ok e3 q3
        exact ⟨a, _, rfl, e2, f1, f2, k _ F H (.same _ _) (.bl _)⟩
def isNo : PyData → Bool
  | .none => true
  | _ => false
def isNG (neg : Bool) (d e : PyData) : Option PyData := match e with
  | .none => some (.bool (if neg then !isNo d else isNo d))
  | _ => none
theorem dp_non {F H : Hp} {x : V} {d : PyData} (s : Same F H) (h : PkR K F H x d) : decide (x = V.non) = isNo d := by
  have q := h.dq s
  cases q <;> simp [isNo]
theorem o_isN : Op2 K (fun x y H Q => y = .non ∧ Q (.bl (decide (x = .non))) H) (isNG false) := by
  intro F H x y d e z Q s hx hy hg k
  unfold isNG at hg
  split at hg
  · cases hg
    refine ⟨hy.non, k _ F H (.same _ _) ?_⟩
    rw [dp_non s hx]
    exact .bl _
  · cases hg
theorem o_isnN : Op2 K (fun x y H Q => y = .non ∧ Q (.bl (!decide (x = .non))) H) (isNG true) := by
  intro F H x y d e z Q s hx hy hg k
  unfold isNG at hg
  split at hg
  · cases hg
    refine ⟨hy.non, k _ F H (.same _ _) ?_⟩
    rw [dp_non s hx]
    exact .bl _
  · cases hg
def ixG : PyData → PyData → Option PyData
  | .list ds, .int i => atI ds i
  | .tuple ds, .int i => atI ds i
  | _, _ => none
theorem atI_dp {F : Hp} {xs : List V} {ds : List PyData} {i : Int} {z : PyData} (h : DpAll K F xs ds) (e : atI ds i = some z) : ∃ v, atI xs i = some v ∧ Dp K F v z := by
  unfold atI at e ⊢
  rw [dpAll_len h]
  cases q : ixN ds.length i with
  | none => rw [q] at e; cases e
  | some j =>
    rw [q] at e
    exact dpAll_get h e
theorem o_ix : Op2 K (fun x y H Q => rIxL K x y H Q ∨ rIxT K x y H Q) ixG := by
  intro F H x y d e z Q s hx hy hg k
  unfold ixG at hg
  split at hg
  · obtain ⟨a, xs, rfl, h1, h2⟩ := hx.list s
    obtain ⟨v, e1, e2⟩ := atI_dp h2 hg
    exact .inl ⟨a, xs, _, v, rfl, hy.int, h1, e1, k _ F H (.same _ _) e2⟩
  · obtain ⟨a, xs, rfl, h1, h2⟩ := hx.tup s
    obtain ⟨v, e1, e2⟩ := atI_dp h2 hg
    exact .inr ⟨a, xs, _, v, rfl, hy.int, h1, e1, k _ F H (.same _ _) e2⟩
  · cases hg
end
/-! ## with the expressions -/
section
variable {X : Cx} {TT : Tt} {W : WX} {a b c : Expr} {fa fb fc : M Rv} {pos : Pos}
def addG (d e : PyData) : Option PyData := match addI d e with
  | some z => some z
  | none => match addT d e with
    | some z => some z
    | none => addS d e
theorem pd_add (ha : PD X TT W a fa) (hb : PD X TT W b fb) : PD X TT W (.BinOp a .Add b pos) (f2 addG fa fb) := pd_bin (op_add.or (op_catA.or op_add_str)) (o_addI.or (o_addT.or o_addS)) ha hb
theorem pd_sub (ha : PD X TT W a fa) (hb : PD X TT W b fb) : PD X TT W (.BinOp a .Sub b pos) (f2 subG fa fb) := pd_bin op_sub o_sub ha hb
theorem pd_mul (ha : PD X TT W a fa) (hb : PD X TT W b fb) : PD X TT W (.BinOp a .Mult b pos) (f2 mulG fa fb) := pd_bin op_mul o_mul ha hb
theorem pd_div (ha : PD X TT W a fa) (hb : PD X TT W b fb) : PD X TT W (.BinOp a .FloorDiv b pos) (f2 divG fa fb) := pd_bin op_fdiv o_div ha hb
theorem pd_mod (ha : PD X TT W a fa) (hb : PD X TT W b fb) : PD X TT W (.BinOp a .Mod b pos) (f2 modG fa fb) := pd_bin op_mod o_mod ha hb
theorem pd_pow (ha : PD X TT W a fa) (hb : PD X TT W b fb) : PD X TT W (.BinOp a .Pow b pos) (f2 powG fa fb) := pd_bin op_pow o_pow ha hb
theorem pb_lt (ha : PD X TT W a fa) (hb : PD X TT W b fb) : PBt X TT W (.Compare a [.Lt] [b] pos) (fB (f2 ltG fa fb)) := pb_cmp op_lt o_cmp ha hb (nomark _)
theorem pb_le (ha : PD X TT W a fa) (hb : PD X TT W b fb) : PBt X TT W (.Compare a [.LtE] [b] pos) (fB (f2 leG fa fb)) := pb_cmp op_le o_cmp ha hb (nomark _)
theorem pb_gt (ha : PD X TT W a fa) (hb : PD X TT W b fb) : PBt X TT W (.Compare a [.Gt] [b] pos) (fB (f2 gtG fa fb)) := pb_cmp op_gt o_cmp ha hb (nomark _)
theorem pb_ge (ha : PD X TT W a fa) (hb : PD X TT W b fb) : PBt X TT W (.Compare a [.GtE] [b] pos) (fB (f2 geG fa fb)) := pb_cmp op_ge o_cmp ha hb (nomark _)
theorem pb_eq (hu : X.A.units + 64 < cLine) (ha : PD X TT W a fa) (hb : PD X TT W b fb) : PBt X TT W (.Compare a [.Eq] [b] pos) (fB (f2 eqG fa fb)) := pb_cmp (op_eqD hu) o_eq ha hb (nomark _)
theorem pb_ne (hu : X.A.units + 64 < cLine) (ha : PD X TT W a fa) (hb : PD X TT W b fb) : PBt X TT W (.Compare a [.NotEq] [b] pos) (fB (f2 neG fa fb)) := pb_cmp (op_neD hu) o_ne ha hb (nomark _)
theorem pb_in (ha : PD X TT W a fa) (hb : PD X TT W b fb) (hm : behindInMarks .In b = false := by rfl) : PBt X TT W (.Compare a [.In] [b] pos) (fB (f2 (inG false) fa fb)) := pb_cmp op_in_seq (o_in false) ha hb hm
theorem pb_nin (ha : PD X TT W a fa) (hb : PD X TT W b fb) (hm : behindInMarks .NotIn b = false := by rfl) : PBt X TT W (.Compare a [.NotIn] [b] pos) (fB (f2 (inG true) fa fb)) := pb_cmp op_notIn_seq (o_in true) ha hb hm
theorem pb_isN (ha : PD X TT W a fa) (hb : PD X TT W b fb) : PBt X TT W (.Compare a [.Is] [b] pos) (fB (f2 (isNG false) fa fb)) := pb_cmp op_isN o_isN ha hb (nomark _)
theorem pb_isnN (ha : PD X TT W a fa) (hb : PD X TT W b fb) : PBt X TT W (.Compare a [.IsNot] [b] pos) (fB (f2 (isNG true) fa fb)) := pb_cmp op_notN o_isnN ha hb (nomark _)
theorem pd_lt (ha : PD X TT W a fa) (hb : PD X TT W b fb) : PD X TT W (.Compare a [.Lt] [b] pos) (f2 ltG fa fb) := pd_cmp op_lt o_cmp ha hb (nomark _)
theorem pd_le (ha : PD X TT W a fa) (hb : PD X TT W b fb) : PD X TT W (.Compare a [.LtE] [b] pos) (f2 leG fa fb) := pd_cmp op_le o_cmp ha hb (nomark _)
theorem pd_gt (ha : PD X TT W a fa) (hb : PD X TT W b fb) : PD X TT W (.Compare a [.Gt] [b] pos) (f2 gtG fa fb) := pd_cmp op_gt o_cmp ha hb (nomark _)
theorem pd_ge (ha : PD X TT W a fa) (hb : PD X TT W b fb) : PD X TT W (.Compare a [.GtE] [b] pos) (f2 geG fa fb) := pd_cmp op_ge o_cmp ha hb (nomark _)
theorem pd_eq (hu : X.A.units + 64 < cLine) (ha : PD X TT W a fa) (hb : PD X TT W b fb) : PD X TT W (.Compare a [.Eq] [b] pos) (f2 eqG fa fb) := pd_cmp (op_eqD hu) o_eq ha hb (nomark _)
theorem pd_ne (hu : X.A.units + 64 < cLine) (ha : PD X TT W a fa) (hb : PD X TT W b fb) : PD X TT W (.Compare a [.NotEq] [b] pos) (f2 neG fa fb) := pd_cmp (op_neD hu) o_ne ha hb (nomark _)
theorem pd_in (ha : PD X TT W a fa) (hb : PD X TT W b fb) (hm : behindInMarks .In b = false := by rfl) : PD X TT W (.Compare a [.In] [b] pos) (f2 (inG false) fa fb) := pd_cmp op_in_seq (o_in false) ha hb hm
theorem pd_nin (ha : PD X TT W a fa) (hb : PD X TT W b fb) (hm : behindInMarks .NotIn b = false := by rfl) : PD X TT W (.Compare a [.NotIn] [b] pos) (f2 (inG true) fa fb) := pd_cmp op_notIn_seq (o_in true) ha hb hm
theorem pd_isN (ha : PD X TT W a fa) (hb : PD X TT W b fb) : PD X TT W (.Compare a [.Is] [b] pos) (f2 (isNG false) fa fb) := pd_cmp op_isN o_isN ha hb (nomark _)
theorem pd_isnN (ha : PD X TT W a fa) (hb : PD X TT W b fb) : PD X TT W (.Compare a [.IsNot] [b] pos) (f2 (isNG true) fa fb) := pd_cmp op_notN o_isnN ha hb (nomark _)
theorem pd_ix (ha : PD X TT W a fa) (hb : PD X TT W b fb) (hs : PlainIx b := by intro _ _; rfl) : PD X TT W (.Subscript a b pos) (f2 ixG fa fb) := by
  obtain ⟨⟨ta, pa, qa⟩⟩ := ha
  obtain ⟨⟨tb, pb, qb⟩⟩ := hb
  exact ⟨⟨_, pe_ix (ix_list.or ix_tup) pa pb hs, fun g al en F σ H Q s h => two qa qb o_ix s h⟩⟩
/-! ## argument lists -/
structure PAD (X : Cx) (TT : Tt) (W : WX) (es : List Expr) (f : M (List Rv)) : Prop where
  ex : ∃ t : TA, PA X es t ∧ ∀ g al en F σ H Q, Sv X.K TT g al en F σ H → Post X.K TT W g F al σ (f en) (fun rs _ F' al' H' => ∀ vs, RvAll X.K F' al' vs rs → Q vs H') → t σ H Q
def fNil : M (List Rv) := ret []
def fCons (fa : M Rv) (fs : M (List Rv)) : M (List Rv) := bnd fa fun r => bnd fs fun rs => ret (r :: rs)
theorem ad_nil : PAD X TT W [] fNil := ⟨⟨_, pa_nil, fun g al en F σ H Q s h => h.here s [] .nil⟩⟩
theorem ad_cons {es : List Expr} {fs : M (List Rv)} (ha : PD X TT W a fa) (hr : PAD X TT W es fs) (hs : starEach (a :: es) X.env = (false, eval a X.env) :: starEach es X.env := by rfl) : PAD X TT W (a :: es) (fCons fa fs) := by
  obtain ⟨⟨ta, pa, qa⟩⟩ := ha
  obtain ⟨⟨t, p, q⟩⟩ := hr
  refine ⟨⟨_, pa_cons pa p hs, fun g al en F σ H Q s h => ?_⟩⟩
  refine qa g al en F σ H _ s (Post.seq h fun x e1 F1 a1 H1 l1 s1 p1 v1 r1 => ?_)
  refine q g a1 e1 F1 σ H1 _ s1 (Post.seq p1 fun rs e2 F2 a2 H2 l2 s2 p2 vs r2 => ?_)
  exact p2.here s2 (v1 :: vs) (.cons (r1.mono l2) r2)
def peeks (e : En) : List Rv → Option (List PyData)
  | [] => some []
  | r :: rs => match peek e r, peeks e rs with
    | some d, some ds => some (d :: ds)
    | _, _ => none
inductive PkAll (K : PySem.W.Frag) (F H : Hp) : List V → List PyData → Prop
  | nil : PkAll K F H [] []
  | cons {v : V} {vs : List V} {d : PyData} {ds : List PyData} : PkR K F H v d → PkAll K F H vs ds → PkAll K F H (v :: vs) (d :: ds)
theorem peeks_ok {K : PySem.W.Frag} {g : Gh} {al : List Addr} {en : En} {F : Hp} {σ : L2.St} {H : Hp} (s : Sv K TT g al en F σ H) : ∀ {vs : List V} {rs : List Rv} {ds : List PyData}, RvAll K F al vs rs → peeks en rs = some ds → PkAll K F H vs ds
  | _, _, _, .nil, e => by simp [peeks] at e; subst e; exact .nil
  | _, _, _, .cons (r := r) (rs := rs) q t, e => by
    unfold peeks at e
    cases q1 : peek en r with
    | none => rw [q1] at e; cases e
    | some d =>
      cases q2 : peeks en rs with
      | none => rw [q1, q2] at e; cases e
      | some ds =>
        rw [q1, q2] at e
        cases e
        exact .cons (peek_ok s q q1) (peeks_ok s t q2)
/-- a built-in by values: one frozen thing comes -/
def OpN (K : PySem.W.Frag) (r : List V → Hp → VK → Prop) (gg : List PyData → Option PyData) : Prop :=
  ∀ F H xs ds z Q, Same F H → PkAll K F H xs ds → gg ds = some z → Gv K F H z Q → r xs H Q
def appN (gg : List PyData → Option PyData) (rs : List Rv) : M Rv := fun en => match peeks en rs with
  | some ds => (match gg ds with
    | some z => .ok (.dat z) en
    | none => .bad)
  | none => .bad
/-- a new list comes -/
def OpL (K : PySem.W.Frag) (r : List V → Hp → VK → Prop) (gg : List PyData → Option (List PyData)) : Prop :=
  ∀ F H xs ds z Q, Same F H → PkAll K F H xs ds → gg ds = some z → (∀ p us, H p = none → DpAll K F us z → Q (.ref p) (upd H p (.lst us))) → r xs H Q
def newL (rs : List Rv) : M Rv := fun en => .ok (.own en.ob.length) { en with ob := en.ob ++ [.lst rs] }
def appL (gg : List PyData → Option (List PyData)) (rs : List Rv) : M Rv := fun en => match peeks en rs with
  | some ds => (match gg ds with
    | some z => newL (z.map Rv.dat) en
    | none => .bad)
  | none => .bad
theorem newL_post {K : PySem.W.Frag} {g : Gh} {al : List Addr} {en : En} {F : Hp} {σ : L2.St} {H : Hp} {p : Addr} {us : List V} {rs : List Rv} {Q : VK} (s : Sv K TT g al en F σ H) (hp : H p = none) (hu : RvAll K F al us rs)
    (h : Post K TT W g F al σ (newL rs en) (fun r _ F' al' H' => ∀ v, RvR K F' al' v r → Q v H')) : Q (.ref p) (upd H p (.lst us)) := by
  refine h F _ _ le_own (s.newOwn hp hu) _ ⟨p, ?_, rfl⟩
  rw [← s.alen, List.getElem?_append_right (Nat.le_refl _)]
  simp
def fN (gg : List PyData → Option PyData) (fs : M (List Rv)) : M Rv := bnd fs (appN gg)
def fL (gg : List PyData → Option (List PyData)) (fs : M (List Rv)) : M Rv := bnd fs (appL gg)
theorem argN {t : TA} {fs : M (List Rv)} {r : List V → Hp → VK → Prop} {gg : List PyData → Option PyData} {g : Gh} {al : List Addr} {en : En} {F : Hp} {σ : L2.St} {H : Hp} {Q : VK}
    (q : ∀ g al en F σ H Q, Sv X.K TT g al en F σ H → Post X.K TT W g F al σ (fs en) (fun rs _ F' al' H' => ∀ vs, RvAll X.K F' al' vs rs → Q vs H') → t σ H Q) (hr : OpN X.K r gg) (s : Sv X.K TT g al en F σ H)
    (h : Post X.K TT W g F al σ (fN gg fs en) (fun r _ F' al' H' => ∀ v, RvR X.K F' al' v r → Q v H')) : t σ H fun vs H1 => r vs H1 Q := by
  refine q g al en F σ H _ s (Post.seq h fun rs e1 F1 a1 H1 l1 s1 p1 vs r1 => ?_)
  unfold appN at p1
  cases e : peeks e1 rs with
  | none => rw [e] at p1; exact p1.elim
  | some ds =>
    rw [e] at p1
    simp only at p1
    cases e2 : gg ds with
    | none => rw [e2] at p1; exact p1.elim
    | some z =>
      rw [e2] at p1
      refine hr F1 H1 vs ds z Q s1.sub (peeks_ok s1 r1 e) e2 fun v F3 H3 hs hd => ?_
      obtain ⟨s3, l3⟩ := s1.rstep hs
      exact p1.at l3 s3 v hd
theorem argL {t : TA} {fs : M (List Rv)} {r : List V → Hp → VK → Prop} {gg : List PyData → Option (List PyData)} {g : Gh} {al : List Addr} {en : En} {F : Hp} {σ : L2.St} {H : Hp} {Q : VK}
    (q : ∀ g al en F σ H Q, Sv X.K TT g al en F σ H → Post X.K TT W g F al σ (fs en) (fun rs _ F' al' H' => ∀ vs, RvAll X.K F' al' vs rs → Q vs H') → t σ H Q) (hr : OpL X.K r gg) (s : Sv X.K TT g al en F σ H)
    (h : Post X.K TT W g F al σ (fL gg fs en) (fun r _ F' al' H' => ∀ v, RvR X.K F' al' v r → Q v H')) : t σ H fun vs H1 => r vs H1 Q := by
  refine q g al en F σ H _ s (Post.seq h fun rs e1 F1 a1 H1 l1 s1 p1 vs r1 => ?_)
  unfold appL at p1
  cases e : peeks e1 rs with
  | none => rw [e] at p1; exact p1.elim
  | some ds =>
    rw [e] at p1
    simp only at p1
    cases e2 : gg ds with
    | none => rw [e2] at p1; exact p1.elim
    | some z =>
      rw [e2] at p1
      exact hr F1 H1 vs ds z Q s1.sub (peeks_ok s1 r1 e) e2 fun p us hp hu => newL_post s1 hp (rvAll_dat hu) p1
variable {es : List Expr} {fs : M (List Rv)} {x : Str} {p : Pos}
theorem pd_callB {id : String} {r : List V → Hp → VK → Prop} {gg : List PyData → Option PyData} (hc : CallR X (.builtin id) r) (hr : OpN X.K r gg) (hm : X.mg x = none) (hv : bootBuiltins x = some (.builtin id)) (ha : PAD X TT W (a :: es) fs) (hg : Gl X x := by rfl)
    (hn : x ≠ "__name__" := by decide) (hdb : (x == ("__debug__" : Str)) = false := by decide) (he : starEach (a :: es) X.env = (false, eval a X.env) :: starEach es X.env := by rfl) (hpl : (backTo pos (starEach es X.env)).any (·.1) = false := by rfl) :
    PD X TT W (.Call (.Name x p) (a :: es) [] pos) (fN gg fs) := by
  obtain ⟨⟨t, pt, q⟩⟩ := ha
  exact ⟨⟨_, pe_callB hc hg hm hv pt hn hdb he hpl, fun g al en F σ H Q s h => argN q hr s h⟩⟩
theorem pd_callTy {T : String} {r : List V → Hp → VK → Prop} {gg : List PyData → Option PyData} (hc : CallR X (.type T) r) (hr : OpN X.K r gg) (hm : X.mg x = none) (hv : bootBuiltins x = some (.type T)) (ha : PAD X TT W (a :: es) fs) (hg : Gl X x := by rfl)
    (hn : x ≠ "__name__" := by decide) (hdb : (x == ("__debug__" : Str)) = false := by decide) (he : starEach (a :: es) X.env = (false, eval a X.env) :: starEach es X.env := by rfl) (hpl : (backTo pos (starEach es X.env)).any (·.1) = false := by rfl) :
    PD X TT W (.Call (.Name x p) (a :: es) [] pos) (fN gg fs) := by
  obtain ⟨⟨t, pt, q⟩⟩ := ha
  exact ⟨⟨_, pe_callTy hc hg hm hv pt hn hdb he hpl, fun g al en F σ H Q s h => argN q hr s h⟩⟩
theorem pd_callTyL {T : String} {r : List V → Hp → VK → Prop} {gg : List PyData → Option (List PyData)} (hc : CallR X (.type T) r) (hr : OpL X.K r gg) (hm : X.mg x = none) (hv : bootBuiltins x = some (.type T)) (ha : PAD X TT W (a :: es) fs) (hg : Gl X x := by rfl)
    (hn : x ≠ "__name__" := by decide) (hdb : (x == ("__debug__" : Str)) = false := by decide) (he : starEach (a :: es) X.env = (false, eval a X.env) :: starEach es X.env := by rfl) (hpl : (backTo pos (starEach es X.env)).any (·.1) = false := by rfl) :
    PD X TT W (.Call (.Name x p) (a :: es) [] pos) (fL gg fs) := by
  obtain ⟨⟨t, pt, q⟩⟩ := ha
  exact ⟨⟨_, pe_callTy hc hg hm hv pt hn hdb he hpl, fun g al en F σ H Q s h => argL q hr s h⟩⟩
end
end Pd

namespace Pd
open PySem PySem.Spec PyProof.Rows L2
variable [Lams]
/-! ## built-ins -/
section
variable {K : PySem.W.Frag}
def lenG : List PyData → Option PyData
  | [.tuple ds] => some (.int ds.length)
  | [.list ds] => some (.int ds.length)
  | [.str x] => if x.length ≤ sizeLine then some (.int x.length) else none
  | _ => none
theorem n_len : OpN K (fun xs H Q => ∃ x n, xs = [x] ∧ LenV K x H n ∧ Q (.int n) H) lenG := by
  intro F H xs ds z Q s hx hg k
  unfold lenG at hg
  split at hg
  · cases hg
    cases hx with
    | cons h1 h2 =>
      cases h2
      obtain ⟨a, us, rfl, q1, q2⟩ := h1.tup s
      exact ⟨_, us.length, rfl, .inr ⟨us, q1, rfl⟩, k _ F H (.same _ _) (by rw [dpAll_len q2]; exact .int _)⟩
  · cases hg
    cases hx with
    | cons h1 h2 =>
      cases h2
      obtain ⟨a, us, rfl, q1, q2⟩ := h1.list s
      exact ⟨_, us.length, rfl, .inl ⟨us, q1, rfl⟩, k _ F H (.same _ _) (by rw [dpAll_len q2]; exact .int _)⟩
  · split at hg
    · rename_i hz
      cases hg
      cases hx with
      | cons h1 h2 =>
        cases h2
        rw [h1.str]
        exact ⟨_, _, rfl, ⟨hz, rfl⟩, k _ F H (.same _ _) (.int _)⟩
    · cases hg
  · cases hg
def maxG : List PyData → Option PyData
  | [.int i, .int j] => some (.int (if j > i then j else i))
  | _ => none
def minG : List PyData → Option PyData
  | [.int i, .int j] => some (.int (if j < i then j else i))
  | _ => none
theorem n_max : OpN K (fun xs H Q => ∃ i j, xs = [.int i, .int j] ∧ Q (.int (if j > i then j else i)) H) maxG := by
  intro F H xs ds z Q s hx hg k
  unfold maxG at hg
  split at hg
  · cases hg
    cases hx with
    | cons h1 h2 =>
      cases h2 with
      | cons h3 h4 =>
        cases h4
        rw [h1.int, h3.int]
        exact ⟨_, _, rfl, k _ F H (.same _ _) (.int _)⟩
  · cases hg
theorem n_min : OpN K (fun xs H Q => ∃ i j, xs = [.int i, .int j] ∧ Q (.int (if j < i then j else i)) H) minG := by
  intro F H xs ds z Q s hx hg k
  unfold minG at hg
  split at hg
  · cases hg
    cases hx with
    | cons h1 h2 =>
      cases h2 with
      | cons h3 h4 =>
        cases h4
        rw [h1.int, h3.int]
        exact ⟨_, _, rfl, k _ F H (.same _ _) (.int _)⟩
  · cases hg
def intG : List PyData → Option PyData
  | [.int i] => some (.int i)
  | [.bool b] => some (.int (if b then 1 else 0))
  | _ => none
theorem n_int : OpN K (fun xs H Q => (∃ i, xs = [.int i] ∧ Q (.int i) H) ∨ ∃ k, xs = [.bl k] ∧ Q (.int (if k then 1 else 0)) H) intG := by
  intro F H xs ds z Q s hx hg k
  unfold intG at hg
  split at hg
  · cases hg
    cases hx with
    | cons h1 h2 =>
      cases h2
      rw [h1.int]
      exact .inl ⟨_, rfl, k _ F H (.same _ _) (.int _)⟩
  · cases hg
    cases hx with
    | cons h1 h2 =>
      cases h2
      rw [h1.bool]
      exact .inr ⟨_, rfl, k _ F H (.same _ _) (.int _)⟩
  · cases hg
def tupG : List PyData → Option PyData
  | [.tuple ds] => some (.tuple ds)
  | [.list ds] => some (.tuple ds)
  | _ => none
theorem n_tup : OpN K (fun xs H Q => ∃ p ys, xs = [.ref p] ∧ ((SqL K H p ys ∧ ∀ l, H l = none → Q (.ref l) (upd H l (.tup ys))) ∨ (SqT K H p ys ∧ Q (.ref p) H))) tupG := by
  intro F H xs ds z Q s hx hg k
  unfold tupG at hg
  split at hg
  · cases hg
    cases hx with
    | cons h1 h2 =>
      cases h2
      obtain ⟨a, us, rfl, q1, q2⟩ := h1.tup s
      refine ⟨a, us, rfl, .inr ⟨q1, ?_⟩⟩
      rcases h1 with w | ⟨_, _, _, _, w, _⟩
      · exact k _ F H (.same _ _) w
      · cases w
  · cases hg
    cases hx with
    | cons h1 h2 =>
      cases h2
      obtain ⟨a, us, rfl, q1, q2⟩ := h1.list s
      exact ⟨a, us, rfl, .inl ⟨q1, fun l hl => k _ (upd F l (.tup us)) _ (.inr ⟨l, _, hl, rfl, rfl⟩) (dp_tup q2 (s.free hl))⟩⟩
  · cases hg
def lstG : List PyData → Option (List PyData)
  | [.tuple ds] => some ds
  | [.list ds] => some ds
  | _ => none
theorem l_lst : OpL K (fun xs H Q => ∃ p ys, xs = [.ref p] ∧ (SqL K H p ys ∨ SqT K H p ys) ∧ ∀ l, H l = none → Q (.ref l) (upd H l (.lst ys))) lstG := by
  intro F H xs ds z Q s hx hg k
  unfold lstG at hg
  split at hg
  · cases hg
    cases hx with
    | cons h1 h2 =>
      cases h2
      obtain ⟨a, us, rfl, q1, q2⟩ := h1.tup s
      exact ⟨a, us, rfl, .inr q1, fun l hl => k l us hl q2⟩
  · cases hg
    cases hx with
    | cons h1 h2 =>
      cases h2
      obtain ⟨a, us, rfl, q1, q2⟩ := h1.list s
      exact ⟨a, us, rfl, .inl q1, fun l hl => k l us hl q2⟩
  · cases hg
/-- all ints -/
def toIs : List PyData → Option (List Int)
  | [] => some []
  | .int i :: ds => (toIs ds).map (i :: ·)
  | _ :: _ => none
theorem toIs_eq : ∀ {ds : List PyData} {ns : List Int}, toIs ds = some ns → ds = ns.map PyData.int
  | [], ns, h => by simp [toIs] at h; subst h; rfl
  | d :: ds, ns, h => by
    cases d <;> simp [toIs] at h
    obtain ⟨ms, e, rfl⟩ := h
    rw [toIs_eq e]
    rfl
theorem toIs_map (ns : List Int) : toIs (ns.map PyData.int) = some ns := by
  induction ns with
  | nil => rfl
  | cons n ns ih => simp [toIs, ih]
def sumG : List PyData → Option PyData
  | [.list ds] => (toIs ds).map fun ns => .int ns.sum
  | _ => none
theorem n_sum : OpN K (rSum K) sumG := by
  intro F H xs ds z Q s hx hg k
  unfold sumG at hg
  split at hg
  · rename_i es
    cases q : toIs es with
    | none => rw [q] at hg; cases hg
    | some ns =>
      rw [q] at hg
      cases hg
      cases hx with
      | cons h1 h2 =>
        cases h2
        obtain ⟨a, us, rfl, q1, q2⟩ := h1.list s
        rw [toIs_eq q] at q2
        rw [dpAll_ints q2] at q1
        exact ⟨a, ns, rfl, q1, k _ F H (.same _ _) (.int _)⟩
  · cases hg
/-! ## isinstance -/
def tyN : PyData → String
  | .none => "NoneType"
  | .bool _ => "bool"
  | .int _ => "int"
  | .str _ => "str"
  | .list _ => "list"
  | .tuple _ => "tuple"
  | .dict _ => "dict"
theorem tyX {F H : Hp} {v : V} {d : PyData} (s : Same F H) (h : PkR K F H v d) : TyX K H v (.type (tyN d)) := by
  have h := h.dq s
  cases h with
  | non => exact .base .non
  | bl b => exact .base (.bl b)
  | int i => exact .base (.int i)
  | str x => exact .base (.str x)
  | lst h1 h2 =>
    rcases h1 with (h | ⟨o, h⟩) | ⟨o, its, n, h, c, _⟩
    · exact .base (.lst h)
    · exact .base (.frz h)
    · exact .kList h c
  | tup h1 h2 => exact .base (.tup h1)
  | dct h1 => exact .fDict h1
def isiG (n : String) (d : PyData) : Option PyData := (kitB (tyN d) n).map PyData.bool
end
end Pd

namespace Pd
open PySem PySem.Spec PyProof.Rows L2
variable [Lams]
section
variable {X : Cx} {TT : Tt} {W : WX} {a b c : Expr} {fa fb fc : M Rv} {pos : Pos} {es : List Expr} {fs : M (List Rv)} {x : Str} {p : Pos}
/-- isinstance(e, T) -/
theorem pd_isi {n : String} {y : Str} {p2 : Pos} (hm : X.mg "isinstance" = none) (hmy : X.mg y = none) (hv : bootBuiltins y = some (.type n)) (ha : PD X TT W a fa) (hg : Gl X "isinstance" := by rfl) (hgy : Gl X y := by rfl)
    (hny : y ≠ "__name__" := by decide) (hdy : (y == ("__debug__" : Str)) = false := by decide)
    (he : starEach [a, .Name y p2] X.env = (false, eval a X.env) :: starEach [.Name y p2] X.env := by rfl) (he2 : starEach [.Name y p2] X.env = (false, eval (.Name y p2) X.env) :: starEach [] X.env := by rfl) (hpl : (backTo pos (starEach [.Name y p2] X.env)).any (·.1) = false := by rfl) :
    PD X TT W (.Call (.Name "isinstance" p) [a, .Name y p2] [] pos) (bnd fa (app1 (isiG n))) := by
  obtain ⟨⟨ta, pa, qa⟩⟩ := ha
  refine ⟨⟨_, pe_callB call_isi hg hm boot_isinstance (pa_cons pa (pa_cons (pe_bltn (v := .ty n) hgy hmy hv rfl hny hdy) pa_nil he2) he) (by decide) (by decide) he hpl, fun g al en F σ H Q s h => ?_⟩⟩
  refine qa g al en F σ H _ s (Post.seq h fun r e1 F1 a1 H1 l1 s1 p1 v1 r1 => ?_)
  unfold app1 at p1
  cases e : peek e1 r with
  | none => rw [e] at p1; exact p1.elim
  | some d =>
    rw [e] at p1
    simp only at p1
    cases e2 : isiG n d with
    | none => rw [e2] at p1; exact p1.elim
    | some z =>
      rw [e2] at p1
      unfold isiG at e2
      cases e3 : kitB (tyN d) n with
      | none => rw [e3] at e2; cases e2
      | some k =>
        rw [e3] at e2
        cases e2
        exact ⟨v1, .ty n, .type (tyN d), .type n, k, rfl, .ty n, tyX s1.sub (peek_ok s1 r1 e), kit_ty e3, p1.here s1 _ (.bl k)⟩
/-- isinstance(e, (T, U)) -/
def isiG2 (n m : String) (d : PyData) : Option PyData := match kitB (tyN d) n, kitB (tyN d) m with
  | some b, some c => some (.bool (b || c))
  | _, _ => none
theorem kitAny2 {K : PySem.W.Frag} {t : Value} {n m : String} {b c : Bool} (h1 : PySem.W.kitOne K t (.type n) = some b) (h2 : PySem.W.kitOne K t (.type m) = some c) : PySem.W.kitAny K t [.type n, .type m] = some (b || c) := by
  have e : PySem.W.kitAny K t [.type m] = some c := kitAny_cons h2 (fun q => by rw [q]; rfl) fun q => q
  exact kitAny_cons h1 (fun q => by rw [q]; exact e) fun q => by rw [q]; rfl
theorem pd_isi2 {n m : String} {y z : Str} {p2 p3 p4 : Pos} {kk} (hm : X.mg "isinstance" = none) (hmy : X.mg y = none) (hmz : X.mg z = none) (hv : bootBuiltins y = some (.type n)) (hvz : bootBuiltins z = some (.type m)) (ha : PD X TT W a fa) (hg : Gl X "isinstance" := by rfl) (hgy : Gl X y := by rfl) (hgz : Gl X z := by rfl)
    (hny : y ≠ "__name__" := by decide) (hdy : (y == ("__debug__" : Str)) = false := by decide) (hnz : z ≠ "__name__" := by decide) (hdz : (z == ("__debug__" : Str)) = false := by decide)
    (he : starEach [a, .Tuple [.Name y p2, .Name z p3] kk p4] X.env = (false, eval a X.env) :: starEach [.Tuple [.Name y p2, .Name z p3] kk p4] X.env := by rfl) (he2 : starEach [.Tuple [.Name y p2, .Name z p3] kk p4] X.env = (false, eval (.Tuple [.Name y p2, .Name z p3] kk p4) X.env) :: starEach [] X.env := by rfl)
    (he3 : starEach [.Name y p2, .Name z p3] X.env = (false, eval (.Name y p2) X.env) :: starEach [.Name z p3] X.env := by rfl) (he4 : starEach [.Name z p3] X.env = (false, eval (.Name z p3) X.env) :: starEach [] X.env := by rfl)
    (hpl : (backTo pos (starEach [.Tuple [.Name y p2, .Name z p3] kk p4] X.env)).any (·.1) = false := by rfl) :
    PD X TT W (.Call (.Name "isinstance" p) [a, .Tuple [.Name y p2, .Name z p3] kk p4] [] pos) (bnd fa (app1 (isiG2 n m))) := by
  obtain ⟨⟨ta, pa, qa⟩⟩ := ha
  refine ⟨⟨_, pe_callB call_isiT hg hm boot_isinstance (pa_cons pa (pa_cons (pe_tup (pa_cons (pe_bltn (v := .ty n) hgy hmy hv rfl hny hdy) (pa_cons (pe_bltn (v := .ty m) hgz hmz hvz rfl hnz hdz) pa_nil he4) he3)) pa_nil he2) he) (by decide) (by decide) he hpl, fun g al en F σ H Q s h => ?_⟩⟩
  refine qa g al en F σ H _ s (Post.seq h fun r e1 F1 a1 H1 l1 s1 p1 v1 r1 => ?_)
  unfold app1 at p1
  cases e : peek e1 r with
  | none => rw [e] at p1; exact p1.elim
  | some d =>
    rw [e] at p1
    simp only at p1
    cases e2 : isiG2 n m d with
    | none => rw [e2] at p1; exact p1.elim
    | some z =>
      rw [e2] at p1
      unfold isiG2 at e2
      cases e3 : kitB (tyN d) n with
      | none => rw [e3] at e2; cases e2
      | some k =>
        cases e4 : kitB (tyN d) m with
        | none => rw [e3, e4] at e2; cases e2
        | some k2 =>
          rw [e3, e4] at e2
          cases e2
          refine ⟨by show 2 ≤ sizeLine; decide, fun tp htp => ?_⟩
          have s2 := s1.newF (.tup [.ty n, .ty m]) htp
          have l2 := le_newF s1 (.tup [V.ty n, V.ty m]) htp
          have pk : PkR X.K (upd F1 tp (.tup [.ty n, .ty m])) (upd H1 tp (.tup [.ty n, .ty m])) v1 d := by
            refine peek_ok s2 (r1.mono l2) e
          exact ⟨v1, tp, _, .type (tyN d), _, k || k2, rfl, upd_same, .cons (.ty n) (.cons (.ty m) .nil), tyX s2.sub pk, kitAny2 (kit_ty e3) (kit_ty e4), p1.at l2 s2 _ (.bl _)⟩

/-! ## freezing -/
def frz (r : Rv) : M PyData := fun en => match r with
  | .dat d => .ok d en
  | .own k => match en.ob[k]? with
    | some (.fz ds) => .ok (.list ds) en
    | some (.lst rs) => (match dats rs with
      | some ds => .ok (.list ds) { en with ob := en.ob.set k (.fz ds) }
      | none => .bad)
    | _ => .bad
  | _ => .bad
theorem frz_seq {α : Type} {K : PySem.W.Frag} {g : Gh} {al : List Addr} {en : En} {F : Hp} {σ : L2.St} {H : Hp} {r : Rv} {v : V} {k : PyData → M α} {R : α → En → Hp → List Addr → Hp → Prop} (s : Sv K TT g al en F σ H) (h : RvR K F al v r)
    (hp : Post K TT W g F al σ (bnd (frz r) k en) R) : ∃ d e' F', Sv K TT g al e' F' σ H ∧ Le F al F' al ∧ Dp K F' v d ∧ Post K TT W g F' al σ (k d e') R := by
  unfold bnd frz at hp
  cases r with
  | dat d => exact ⟨d, en, F, s, Le.refl _ _, h, hp⟩
  | fn _ _ => exact hp.elim
  | fns _ => exact hp.elim
  | exv => exact h.elim
  | own j =>
    obtain ⟨a, ea, rfl⟩ := h
    have hk : j < en.ob.length := by rw [← s.alen]; exact (List.getElem?_eq_some_iff.mp ea).1
    have eo : en.ob[j]? = some en.ob[j] := List.getElem?_eq_getElem hk
    cases q : en.ob[j] with
    | fz ds =>
      rw [q] at eo
      simp only [eo] at hp
      have o := s.objs j a _ ea eo
      obtain ⟨xs, hf, ha⟩ := o
      exact ⟨.list ds, en, F, s, Le.refl _ _, .lst (.inl (.inl hf)) ha, hp⟩
    | lst rs =>
      rw [q] at eo
      simp only [eo] at hp
      cases q2 : dats rs with
      | none => rw [q2] at hp; exact hp.elim
      | some ds =>
        rw [q2] at hp
        obtain ⟨fn, xs, hx, ha⟩ := s.lst ea eo
        have s2 := s.freeze ea eo q2 hx ha
        have l2 : Le F al (upd F a (.lst xs)) al := ⟨same_new fn, List.prefix_rfl⟩
        exact ⟨.list ds, _, _, s2, l2, dp_lst (rvAll_dats ha q2) fn, Post.up hp l2⟩
    | _ =>
      rw [q] at eo
      simp only [eo] at hp
      exact hp.elim
def frzAll : List Rv → M (List PyData)
  | [] => ret []
  | r :: rs => bnd (frz r) fun d => bnd (frzAll rs) fun ds => ret (d :: ds)
theorem bnd_assoc {α β γ : Type} (m : M α) (k : α → M β) (l : β → M γ) : bnd (bnd m k) l = bnd m fun a => bnd (k a) l := by
  funext e
  unfold bnd
  cases m e <;> rfl
theorem frzAll_seq {α : Type} {K : PySem.W.Frag} {g : Gh} {σ : L2.St} {H : Hp} : ∀ {rs : List Rv} {vs : List V} {al : List Addr} {en : En} {F : Hp} {k : List PyData → M α} {R : α → En → Hp → List Addr → Hp → Prop}, Sv K TT g al en F σ H → RvAll K F al vs rs →
    Post K TT W g F al σ (bnd (frzAll rs) k en) R → ∃ ds e' F', Sv K TT g al e' F' σ H ∧ Le F al F' al ∧ DpAll K F' vs ds ∧ Post K TT W g F' al σ (k ds e') R
  | [], _, al, en, F, k, R, s, h, hp => by
    cases h
    exact ⟨[], en, F, s, Le.refl _ _, .nil, hp⟩
  | r :: rs, _, al, en, F, k, R, s, h, hp => by
    cases h with
    | cons h1 h2 =>
      unfold frzAll at hp
      rw [bnd_assoc] at hp
      obtain ⟨d, e1, F1, s1, l1, d1, p1⟩ := frz_seq s h1 hp
      rw [bnd_assoc] at p1
      obtain ⟨ds, e2, F2, s2, l2, d2, p2⟩ := frzAll_seq s1 (h2.mono l1) p1
      exact ⟨d :: ds, e2, F2, s2, l1.trans l2, .cons (dp_mono l2.f _ _ d1) d2, p2⟩
/-! ## displays -/
def tupM (ds : List PyData) : M Rv := fun en => if ds.length ≤ sizeLine then .ok (.dat (.tuple ds)) en else .bad
def fTup (fs : M (List Rv)) : M Rv := bnd fs fun rs => bnd (frzAll rs) tupM
theorem pd_tup {x1} (ha : PAD X TT W es fs) : PD X TT W (.Tuple es x1 pos) (fTup fs) := by
  obtain ⟨⟨t, pt, q⟩⟩ := ha
  refine ⟨⟨_, pe_tup pt, fun g al en F σ H Q s h => ?_⟩⟩
  refine q g al en F σ H _ s (Post.seq h fun rs e1 F1 a1 H1 l1 s1 p1 vs r1 => ?_)
  obtain ⟨ds, e2, F2, s2, l2, d2, p2⟩ := frzAll_seq s1 r1 p1
  unfold tupM at p2
  split at p2
  · rename_i hz
    refine ⟨by rw [dpAll_len d2]; exact hz, fun p hp => ?_⟩
    exact p2.at (le_newF s2 _ hp) (s2.newF _ hp) _ (dp_tup d2 (s2.fnone hp))
  · exact p2.elim
def lstM (rs : List Rv) : M Rv := fun en => if rs.length ≤ sizeLine then newL rs en else .bad
def fLst (fs : M (List Rv)) : M Rv := bnd fs lstM
theorem pd_lst (ha : PAD X TT W es fs) : PD X TT W (.List es pos) (fLst fs) := by
  obtain ⟨⟨t, pt, q⟩⟩ := ha
  refine ⟨⟨_, pe_lst pt, fun g al en F σ H Q s h => ?_⟩⟩
  refine q g al en F σ H _ s (Post.seq h fun rs e1 F1 a1 H1 l1 s1 p1 vs r1 => ?_)
  unfold lstM at p1
  split at p1
  · rename_i hz
    exact ⟨by rw [r1.len]; exact hz, fun p hp => newL_post s1 hp r1 p1⟩
  · exact p1.elim
/-! ## slices -/
structure POD (X : Cx) (TT : Tt) (W : WX) (e : Option Expr) (f : M (Option Int)) : Prop where
  ex : ∃ t : TO, PO X e t ∧ ∀ g al en F σ H Q, Sv X.K TT g al en F σ H → Post X.K TT W g F al σ (f en) (fun o _ _ _ H' => Q o H') → t σ H Q
def toI (x : Rv) : M (Option Int) := fun en => match x with
  | .dat (.int i) => .ok (some i) en
  | _ => .bad
theorem od_none : POD X TT W none (ret none) := ⟨⟨_, po_none, fun g al en F σ H Q s h => h.here s⟩⟩
theorem od_some (ha : PD X TT W a fa) : POD X TT W (some a) (bnd fa toI) := by
  obtain ⟨⟨t, pt, q⟩⟩ := ha
  refine ⟨⟨_, po_some pt, fun g al en F σ H Q s h => ?_⟩⟩
  refine q g al en F σ H _ s (Post.seq h fun r e1 F1 a1 H1 l1 s1 p1 v1 r1 => ?_)
  unfold toI at p1
  split at p1
  · cases r1
    exact ⟨_, rfl, p1.here s1⟩
  · exact p1.elim
def cutD (xs : List PyData) (lo hi : Option Int) : List PyData := (xs.drop (HT.sIx xs.length 0 lo)).take (HT.sIx xs.length xs.length hi - HT.sIx xs.length 0 lo)
theorem cut_dp {K : PySem.W.Frag} {F : Hp} {vs : List V} {ds : List PyData} (h : DpAll K F vs ds) (lo hi : Option Int) : DpAll K F (cutV vs lo hi) (cutD ds lo hi) := by
  unfold cutV cutD
  rw [dpAll_len h]
  exact dpAll_take _ (dpAll_drop _ h)
def cutM (r : Rv) (lo hi : Option Int) : M Rv := fun en => match peek en r with
  | some (.tuple ds) => .ok (.dat (.tuple (cutD ds lo hi))) en
  | some (.list ds) => newL ((cutD ds lo hi).map Rv.dat) en
  | _ => .bad
variable {lo hi : Option Expr} {flo fhi : M (Option Int)}
theorem pd_slice {p2 : Pos} (ha : PD X TT W a fa) (hl : POD X TT W lo flo) (hh : POD X TT W hi fhi) : PD X TT W (.Subscript a (.Slice lo hi none p2) pos) (bnd fa fun r => bnd flo fun i => bnd fhi fun j => cutM r i j) := by
  obtain ⟨⟨t, pt, q⟩⟩ := ha
  obtain ⟨⟨t1, pt1, q1⟩⟩ := hl
  obtain ⟨⟨t2, pt2, q2⟩⟩ := hh
  refine ⟨⟨_, pe_slice (sl_list.or sl_tupA) pt pt1 pt2, fun g al en F σ H Q s h => ?_⟩⟩
  refine q g al en F σ H _ s (Post.seq h fun r e1 F1 a1 H1 l1 s1 p1 v1 r1 => ?_)
  refine q1 g a1 e1 F1 σ H1 _ s1 (Post.seq p1 fun i e2 F2 a2 H2 l2 s2 p2 => ?_)
  refine q2 g a2 e2 F2 σ H2 _ s2 (Post.seq p2 fun j e3 F3 a3 H3 l3 s3 p3 => ?_)
  have r3 := (r1.mono l2).mono l3
  unfold cutM at p3
  split at p3
  · rename_i ds e
    have k := peek_ok s3 r3 e
    obtain ⟨b, us, rfl, h1, h2⟩ := k.tup s3.sub
    have hl := dpAll_len h2
    refine .inr ⟨b, us, rfl, h1, fun w => ?_, fun w p hp => ?_⟩
    · have e4 : cutD ds i j = ds := by
        unfold cutD
        rw [← hl, w.1, w.2, List.drop_zero, Nat.sub_zero, hl, List.take_length]
      rw [e4] at p3
      rcases k with k | ⟨_, _, _, _, k, _⟩
      · exact p3.here s3 _ k
      · cases k
    · exact p3.at (le_newF s3 _ hp) (s3.newF _ hp) _ (dp_tup (cut_dp h2 i j) (s3.fnone hp))
  · rename_i ds e
    have k := peek_ok s3 r3 e
    obtain ⟨b, us, rfl, h1, h2⟩ := k.list s3.sub
    exact .inl ⟨b, us, rfl, h1, fun p hp => newL_post s3 hp (rvAll_dat (cut_dp h2 i j)) p3⟩
  · exact p3.elim
end
/-! ## calls of the program's defs -/
inductive Res where
  | ok (d : PyData)
  | exc (x : Ex)
  | bad
/-- what stood stands, what is newly frozen is new -/
structure Fr (TT : Tt) (F H F' H' : Hp) : Prop where
  f : Same F F'
  sub : Same F' H'
  tabs : Tabs TT F' H'
  keep : ∀ b o, H b = some o → ¬ TT b → H' b = some o
  new : ∀ b, F' b ≠ none → F b ≠ none ∨ Im H b
/-- the promise of a def upon plain data -/
def spD (K : PySem.W.Frag) (TT : Tt) (Fn : List PyData → Res) : Sp := fun vs H Q E => ∃ F ds, Same F H ∧ Tabs TT F H ∧ DpAll K F vs ds ∧
  match Fn ds with
  | .ok d => ∀ v F' H', Fr TT F H F' H' → Dp K F' v d → Q v H'
  | .exc x => ∀ cls dO F' H', Fr TT F H F' H' → ExAt K F' H' x cls dO → E cls dO H'
  | .bad => False
def callM (Fn : List PyData → Res) (ds : List PyData) : M Rv := fun en => match Fn ds with
  | .ok d => .ok (.dat d) en
  | .exc x => .exc x en
  | .bad => .bad
def fCall (Fn : List PyData → Res) (fs : M (List Rv)) : M Rv := bnd fs fun rs => bnd (frzAll rs) (callM Fn)
section
variable {X : Cx} {TT : Tt} {W : WX} {a b c : Expr} {fa fb fc : M Rv} {pos : Pos} {es : List Expr} {fs : M (List Rv)} {x : Str} {p : Pos}
theorem Sv.fr {K : PySem.W.Frag} {g : Gh} {al : List Addr} {en : En} {F F' : Hp} {σ : L2.St} {H H' : Hp} (s : Sv K TT g al en F σ H) (h : Fr TT F H F' H') : Sv K TT g al en F' σ H' := s.ext h.f h.sub h.tabs h.keep h.new
theorem Fr.le {F F' H H' : Hp} (h : Fr TT F H F' H') (al : List Addr) : Le F al F' al := ⟨h.f, List.prefix_rfl⟩
theorem pd_call {k : Nat} {f : Addr} {fd : FuncData} {ps : List Str} {Fn : List PyData → Res} (G : FnOk X.prog X.w X.K X.mg X.base (L2.CX X.prog X.w) k f fd ps (spD X.K TT Fn)) (hr : Room k X.A) (hm : X.mg x = some (.ref f)) (hk : PySem.W.keepIn X.K (.ref f) = true) (hb : Binds X.K fd ps [])
    (hx : ∀ σ, PassesAt (L2.CX X.prog X.w) X σ (WE W σ)) (ha : PAD X TT W (a :: es) fs) (hg : Gl X x := by rfl) (hdb : (x == ("__debug__" : Str)) = false := by decide) (he : starEach (a :: es) X.env = (false, eval a X.env) :: starEach es X.env := by rfl) (hpl : (backTo pos (starEach es X.env)).any (·.1) = false := by rfl) :
    PD X TT W (.Call (.Name x p) (a :: es) [] pos) (fCall Fn fs) := by
  obtain ⟨⟨t, pt, q⟩⟩ := ha
  refine ⟨⟨_, pe_callS (E := WE W) G hr hg hm hk hb hx pt hdb he hpl, fun g al en F σ H Q s h => ?_⟩⟩
  refine q g al en F σ H _ s (Post.seq h fun rs e1 F1 a1 H1 l1 s1 p1 vs r1 => ?_)
  obtain ⟨ds, e2, F2, s2, l2, d2, p2⟩ := frzAll_seq s1 r1 p1
  refine ⟨F2, ds, s2.sub, s2.tabs, d2, ?_⟩
  unfold callM at p2
  split
  · rename_i d e
    rw [e] at p2
    exact fun v F' H' hf hd => p2.at (hf.le a1) (s2.fr hf) v hd
  · rename_i x e
    rw [e] at p2
    exact fun cls dO F' H' hf hx => p2 F' a1 H' cls dO (hf.le a1) (s2.fr hf) hx
  · rename_i e
    rw [e] at p2
    exact p2
/-- a def that is lent its first argument, a list -/
inductive RRes where
  | ok (d : PyData) (row : List PyData)
  | exc (x : Ex) (row : List PyData)
  | bad
/-- as Fr, the list at a excepted -/
structure FrR (TT : Tt) (a : Addr) (F H F' H' : Hp) : Prop where
  f : Same F F'
  sub : Same F' H'
  tabs : Tabs TT F' H'
  keep : ∀ b o, H b = some o → ¬ TT b → b ≠ a → H' b = some o
  new : ∀ b, F' b ≠ none → F b ≠ none ∨ Im H b
def spR (K : PySem.W.Frag) (TT : Tt) (Fn : List PyData → List PyData → RRes) : Sp := fun vs H Q E => ∃ (F : Hp) (a : Addr) (us : List V) (rows : List PyData) (ws : List V) (ds : List PyData), vs = .ref a :: ws ∧ Same F H ∧ Tabs TT F H ∧ F a = none ∧ ¬ TT a ∧
  H a = some (.lst us) ∧ DpAll K F us rows ∧ DpAll K F ws ds ∧
  match Fn rows ds with
  | .ok d rows' => ∀ v F' H' us', FrR TT a F H F' H' → H' a = some (.lst us') → DpAll K F' us' rows' → Dp K F' v d → Q v H'
  | .exc x rows' => ∀ cls dO F' H' us', FrR TT a F H F' H' → H' a = some (.lst us') → DpAll K F' us' rows' → ExAt K F' H' x cls dO → E cls dO H'
  | .bad => False
def callRM (Fn : List PyData → List PyData → RRes) (r : Rv) (ds : List PyData) : M Rv := fun en => match r with
  | .dat _ => .bad
  | .own k => match en.ob[k]? with
    | some (.lst qs) => (match dats qs with
      | some rows => (match Fn rows ds with
        | .ok d rows' => .ok (.dat d) { en with ob := en.ob.set k (.lst (rows'.map Rv.dat)) }
        | .exc x rows' => .exc x { en with ob := en.ob.set k (.lst (rows'.map Rv.dat)) }
        | .bad => .bad)
      | none => .bad)
    | _ => .bad
  | _ => .bad
def fCallR (Fn : List PyData → List PyData → RRes) (fa : M Rv) (fs : M (List Rv)) : M Rv := bnd fa fun r => bnd fs fun rs => bnd (frzAll rs) (callRM Fn r)
theorem Sv.frR {K : PySem.W.Frag} {g : Gh} {al : List Addr} {en : En} {F F' : Hp} {σ : L2.St} {H H' : Hp} {a : Addr} {k : Nat} {rs rs' : List Rv} {us' : List V} (s : Sv K TT g al en F σ H) (h : FrR TT a F H F' H') (e1 : al[k]? = some a) (e2 : en.ob[k]? = some (.lst rs)) (hu : H' a = some (.lst us')) (hr : RvAll K F' al us' rs') :
    Sv K TT g al { en with ob := en.ob.set k (.lst rs') } F' σ H' := by
  obtain ⟨fn, xs, hx, _⟩ := s.lst e1 e2
  have l : Le F al F' al := ⟨h.f, List.prefix_rfl⟩
  have fan : F' a = none := by
    cases q : F' a with
    | none => rfl
    | some o =>
      rcases h.new a (by rw [q]; intro z; cases z) with z | z
      · exact absurd fn z
      · exact absurd z (Im.no hx fun xs z => by cases z)
  exact {
  sub := h.sub
  frF := s.frF.trans h.f
  nF := fun b hb => by
    rcases h.new b hb with z | z
    · exact s.nF b z
    · exact .inr (s.im0 z)
  frame := fun b o e nt nb => by
    have ne : b ≠ a := fun q => by
      rcases s.anew k a e1 with w | w
      · rw [q, w] at e; cases e
      · exact nb (q ▸ w)
    exact h.keep b o (s.frame b o e nt nb) nt ne
  tabs := h.tabs
  len := s.len
  slots := fun i r e => by
    obtain ⟨v, f1, q⟩ := s.slots i r e
    exact ⟨v, f1, q.mono l⟩
  alen := by simp [s.alen]
  objs := fun j b oc f1 f2 => by
    by_cases hj : j = k
    · subst hj
      rw [e1] at f1
      cases f1
      rw [List.getElem?_set_self (by rw [← s.alen]; exact (List.getElem?_eq_some_iff.mp e1).1)] at f2
      cases f2
      exact ⟨fan, us', hu, hr⟩
    · rw [List.getElem?_set_ne (Ne.symm hj)] at f2
      have ne : b ≠ a := fun z => hj (nodup_get s.anod f1 (z ▸ e1))
      have nt := s.atab b (List.mem_of_getElem? f1)
      refine (s.objs j b oc f1 f2).mono (TT := TT) l (fun hne _ => ?_) nt fun hne him hz => ?_
      · cases q : H b with
        | none => exact absurd q hne
        | some o => exact h.keep b o q nt ne
      · cases q : F' b with
        | none => rfl
        | some o =>
          rcases h.new b (by rw [q]; intro z; cases z) with z | z
          · exact absurd hz z
          · exact absurd z him
  anew := s.anew
  bin := s.bin
  anod := s.anod
  atab := s.atab }
theorem pd_callR {k : Nat} {f : Addr} {fd : FuncData} {ps : List Str} {Fn : List PyData → List PyData → RRes} (G : FnOk X.prog X.w X.K X.mg X.base (L2.CX X.prog X.w) k f fd ps (spR X.K TT Fn)) (hr : Room k X.A) (hm : X.mg x = some (.ref f)) (hk : PySem.W.keepIn X.K (.ref f) = true) (hb : Binds X.K fd ps [])
    (hx : ∀ σ, PassesAt (L2.CX X.prog X.w) X σ (WE W σ)) (h0 : PD X TT W a fa) (ha : PAD X TT W es fs) (hg : Gl X x := by rfl) (hdb : (x == ("__debug__" : Str)) = false := by decide) (he : starEach (a :: es) X.env = (false, eval a X.env) :: starEach es X.env := by rfl) (hpl : (backTo pos (starEach es X.env)).any (·.1) = false := by rfl) :
    PD X TT W (.Call (.Name x p) (a :: es) [] pos) (fCallR Fn fa fs) := by
  obtain ⟨⟨t0, pt0, q0⟩⟩ := h0
  obtain ⟨⟨t, pt, q⟩⟩ := ha
  refine ⟨⟨_, pe_callS (E := WE W) G hr hg hm hk hb hx (pa_cons pt0 pt he) hdb he hpl, fun g al en F σ H Q s h => ?_⟩⟩
  refine q0 g al en F σ H _ s (Post.seq h fun r e0 F0 a0 H0 l0 s0 p0 v0 r0 => ?_)
  refine q g a0 e0 F0 σ H0 _ s0 (Post.seq p0 fun rs e1 F1 a1 H1 l1 s1 p1 vs r1 => ?_)
  obtain ⟨ds, e2, F2, s2, l2, d2, p2⟩ := frzAll_seq s1 r1 p1
  have r2 := (r0.mono l1).mono l2
  unfold callRM at p2
  cases r with
  | dat d => exact p2.elim
  | fn _ _ => exact p2.elim
  | fns _ => exact p2.elim
  | exv => exact r2.elim
  | own j =>
    obtain ⟨ar, ea, rfl⟩ := r2
    simp only at p2
    have hk2 : j < e2.ob.length := by rw [← s2.alen]; exact (List.getElem?_eq_some_iff.mp ea).1
    have eo : e2.ob[j]? = some e2.ob[j] := List.getElem?_eq_getElem hk2
    cases q3 : e2.ob[j] with
    | fz _ => rw [eo, q3] at p2; exact p2.elim
    | dk _ => rw [eo, q3] at p2; exact p2.elim
    | dt _ => rw [eo, q3] at p2; exact p2.elim
    | ins _ _ => rw [eo, q3] at p2; exact p2.elim
    | fk _ => rw [eo, q3] at p2; exact p2.elim
    | ft _ => rw [eo, q3] at p2; exact p2.elim
    | ltab => rw [eo, q3] at p2; exact p2.elim
    | any => rw [eo, q3] at p2; exact p2.elim
    | lst qs =>
      rw [q3] at eo
      rw [eo] at p2
      simp only at p2
      cases q4 : dats qs with
      | none => rw [q4] at p2; exact p2.elim
      | some rows =>
        rw [q4] at p2
        simp only at p2
        obtain ⟨fn, us, hus, hra⟩ := s2.lst ea eo
        refine ⟨F2, ar, us, rows, vs, ds, rfl, s2.sub, s2.tabs, fn, s2.atab ar (List.mem_of_getElem? ea), hus, rvAll_dats hra q4, d2, ?_⟩
        split
        · rename_i d rows' e
          rw [e] at p2
          refine fun v F' H' us' hf hu hda hd => p2.at ⟨hf.f, List.prefix_rfl⟩ (s2.frR hf ea eo hu (rvAll_dat hda)) v hd
        · rename_i x rows' e
          rw [e] at p2
          exact fun cls dO F' H' us' hf hu hda hx => p2 F' a1 H' cls dO ⟨hf.f, List.prefix_rfl⟩ (s2.frR hf ea eo hu (rvAll_dat hda)) hx
        · rename_i e
          rw [e] at p2
          exact p2
end
end Pd

namespace Pd
open PySem PySem.Spec PyProof.Rows L2
variable [Lams]
/-! ## statements -/
inductive Fl where
  | nx
  | ret (r : Rv)
  | brk
  | cnt
def PostS (K : PySem.W.Frag) (TT : Tt) (W : WX) (g : Gh) (F : Hp) (al : List Addr) (o : Out Fl) (D : Ends) : Prop :=
  match o with
  | .ok .nx e => ∀ F' al' σ' H', Le F al F' al' → Sv K TT g al' e F' σ' H' → D.nx σ' H'
  | .ok (.ret r) e => ∀ v F' al' σ' H', Le F al F' al' → Sv K TT g al' e F' σ' H' → RvR K F' al' v r → D.rt v H'
  | .ok .brk e => ∀ F' al' σ' H', Le F al F' al' → Sv K TT g al' e F' σ' H' → D.bk σ' H'
  | .ok .cnt e => ∀ F' al' σ' H', Le F al F' al' → Sv K TT g al' e F' σ' H' → D.ct σ' H'
  | .exc x e => ∀ F' al' σ' H' cls dO, Le F al F' al' → Sv K TT g al' e F' σ' H' → ExAt K F' H' x cls dO → W cls dO σ' H'
  | .bad => False
structure PSD (X : Cx) (TT : Tt) (W : WX) (st : Stmt) (G : M Fl) : Prop where
  ex : ∃ t : TS, PS X st t ∧ ∀ g al en F σ H D, Sv X.K TT g al en F σ H → PostS X.K TT W g F al (G en) D → t D σ H
structure PSsD (X : Cx) (TT : Tt) (W : WX) (st : List Stmt) (G : M Fl) : Prop where
  ex : ∃ t : TS, PSs X st t ∧ ∀ g al en F σ H D, Sv X.K TT g al en F σ H → PostS X.K TT W g F al (G en) D → t D σ H
section
variable {K : PySem.W.Frag} {TT : Tt} {W : WX} {g : Gh} {al al' : List Addr} {en : En} {F F' : Hp} {σ : L2.St} {H : Hp} {D : Ends}
theorem PostS.up {o : Out Fl} (h : PostS K TT W g F al o D) (l : Le F al F' al') : PostS K TT W g F' al' o D := by
  cases o with
  | ok a e =>
    cases a with
    | nx => exact fun F2 a2 σ2 H2 l2 => h F2 a2 σ2 H2 (l.trans l2)
    | ret r => exact fun v F2 a2 σ2 H2 l2 => h v F2 a2 σ2 H2 (l.trans l2)
    | brk => exact fun F2 a2 σ2 H2 l2 => h F2 a2 σ2 H2 (l.trans l2)
    | cnt => exact fun F2 a2 σ2 H2 l2 => h F2 a2 σ2 H2 (l.trans l2)
  | exc x e => exact fun F2 a2 σ2 H2 c d l2 => h F2 a2 σ2 H2 c d (l.trans l2)
  | bad => exact h
/-- an expression first -/
theorem PostS.seq {α : Type} {m : M α} {k : α → M Fl} {R' : α → En → Hp → List Addr → Hp → Prop} (h : PostS K TT W g F al (bnd m k en) D)
    (hk : ∀ a e F' al' H', Le F al F' al' → Sv K TT g al' e F' σ H' → PostS K TT W g F' al' (k a e) D → R' a e F' al' H') : Post K TT W g F al σ (m en) R' := by
  unfold bnd at h
  cases q : m en with
  | ok a e =>
    rw [q] at h
    exact fun F2 a2 H2 l2 s2 => hk a e F2 a2 H2 l2 s2 (PostS.up h l2)
  | exc x e => rw [q] at h; exact fun F2 a2 H2 c d l2 s2 => h F2 a2 σ H2 c d l2 s2
  | bad => rw [q] at h; exact h
theorem PostS.next {e : En} (h : PostS K TT W g F al (.ok .nx e) D) (l : Le F al F' al') (s : Sv K TT g al' e F' σ H) : D.nx σ H := h F' al' σ H l s
/-- statement, then more -/
def sq (m k : M Fl) : M Fl := fun en => match m en with
  | .ok .nx e => k e
  | o => o
theorem PostS.sq {m k : M Fl} (h : PostS K TT W g F al (Pd.sq m k en) D) {u : Ends → L2.St → Hp → Prop} (hk : ∀ e F' al' σ' H', Le F al F' al' → Sv K TT g al' e F' σ' H' → PostS K TT W g F' al' (k e) D → u D σ' H') :
    PostS K TT W g F al (m en) { D with nx := u D } := by
  unfold Pd.sq at h
  cases q : m en with
  | ok a e =>
    rw [q] at h
    cases a with
    | nx => exact fun F2 a2 σ2 H2 l2 s2 => hk e F2 a2 σ2 H2 l2 s2 (PostS.up h l2)
    | ret r => exact h
    | brk => exact h
    | cnt => exact h
  | exc x e => rw [q] at h; exact h
  | bad => rw [q] at h; exact h
end
section
variable {X : Cx} {TT : Tt} {W : WX} {a b c : Expr} {fa fb fc : M Rv} {pos : Pos} {es : List Expr} {fs : M (List Rv)} {x : Str} {p : Pos} {st : Stmt} {rest : List Stmt} {G G2 : M Fl}
theorem sd_nil : PSsD X TT W [] (ret .nx) := ⟨⟨_, pss_nil, fun g al en F σ H D s h => h.next (Le.refl _ _) s⟩⟩
theorem sd_one (h : PSD X TT W st G) : PSsD X TT W [st] G := by
  obtain ⟨⟨t, pt, q⟩⟩ := h
  exact ⟨⟨t, pss_one pt, q⟩⟩
theorem sd_cons (h : PSD X TT W st G) (hr : PSsD X TT W rest G2) : PSsD X TT W (st :: rest) (sq G G2) := by
  obtain ⟨⟨t, pt, q⟩⟩ := h
  obtain ⟨⟨u, pu, q2⟩⟩ := hr
  exact ⟨⟨_, pss_cons pt pu, fun g al en F σ H D s h => q g al en F σ H _ s (h.sq (u := u) fun e F' al' σ' H' l s2 p => q2 g al' e F' σ' H' D s2 p)⟩⟩
theorem sd_pass : PSD X TT W (.Pass pos) (ret .nx) := ⟨⟨_, ps_pass, fun g al en F σ H D s h => h.next (Le.refl _ _) s⟩⟩
theorem sd_break : PSD X TT W (.Break pos) (ret .brk) := ⟨⟨_, ps_break, fun g al en F σ H D s h => h F al σ H (Le.refl _ _) s⟩⟩
theorem sd_continue : PSD X TT W (.Continue pos) (ret .cnt) := ⟨⟨_, ps_continue, fun g al en F σ H D s h => h F al σ H (Le.refl _ _) s⟩⟩
theorem sd_expr (ha : PD X TT W a fa) (hs : swapsWith a none pos.line X.env = pure false := by rfl) : PSD X TT W (.Expr a pos) (bnd fa fun _ => ret .nx) := by
  obtain ⟨⟨t, pt, q⟩⟩ := ha
  exact ⟨⟨_, ps_expr pt hs, fun g al en F σ H D s h => q g al en F σ H _ s (h.seq fun r e F' al' H' l s2 p v _ => p.next (Le.refl _ _) s2)⟩⟩
theorem sd_ret (ha : PD X TT W a fa) : PSD X TT W (.Return (some a) pos) (bnd fa fun r => ret (.ret r)) := by
  obtain ⟨⟨t, pt, q⟩⟩ := ha
  exact ⟨⟨_, ps_ret pt, fun g al en F σ H D s h => q g al en F σ H _ s (h.seq fun r e F' al' H' l s2 p v hv => p v F' al' σ H' (Le.refl _ _) s2 hv)⟩⟩
theorem sd_retN : PSD X TT W (.Return none pos) (ret (.ret (.dat .none))) :=
  ⟨⟨_, ps_retN, fun g al en F σ H D s h => h .non F al σ H (Le.refl _ _) s Dp.non⟩⟩
theorem sd_if {body orelse : List Stmt} {gc : M Bool} (hc : PBt X TT W c gc) (h1 : PSsD X TT W body G) (h2 : PSsD X TT W orelse G2) : PSD X TT W (.If c body orelse pos) (bnd gc fun k => if k = true then G else G2) := by
  obtain ⟨⟨t, pt, q⟩⟩ := hc
  obtain ⟨⟨t1, pt1, q1⟩⟩ := h1
  obtain ⟨⟨t2, pt2, q2⟩⟩ := h2
  refine ⟨⟨_, ps_if pt pt1 pt2, fun g al en F σ H D s h => q g al en F σ H _ s (h.seq fun k e F' al' H' l s2 p => ?_)⟩⟩
  cases k with
  | true => rw [if_pos rfl] at p ⊢; exact q1 g al' e F' σ H' D s2 p
  | false => rw [if_neg Bool.false_ne_true] at p ⊢; exact q2 g al' e F' σ H' D s2 p
/-! ## targets -/
def setM (i : Nat) (r : Rv) : En → Option En := fun en => some { en with sl := en.sl.set i (some r) }
def asg (h : Rv → En → Option En) (r : Rv) : M Fl := fun en => match h r en with
  | some e => .ok .nx e
  | none => .bad
/-- the slots ws alone may differ -/
structure Sm (ws : List Nat) (σ σ' : L2.St) : Prop where
  len : σ'.length = σ.length
  same : ∀ i, i ∉ ws → σ'[i]? = σ[i]?
theorem Sm.refl (σ : L2.St) : Sm [] σ σ := ⟨rfl, fun _ _ => rfl⟩
theorem Sm.set (σ : L2.St) (i : Nat) (v : Option V) : Sm [i] σ (σ.set i v) := ⟨by rw [List.length_set], fun j hj => List.getElem?_set_ne (fun z => hj (by simp [z]))⟩
theorem Sm.trans {ws us : List Nat} {σ σ1 σ2 : L2.St} (h : Sm ws σ σ1) (h' : Sm us σ1 σ2) : Sm (ws ++ us) σ σ2 :=
  ⟨h'.len.trans h.len, fun i hi => by
    simp only [List.mem_append, not_or] at hi
    rw [h'.same i hi.2, h.same i hi.1]⟩
theorem wipe_in {σ : L2.St} {i : Nat} (hl : i < σ.length) : ∀ {vs : List Nat}, i ∈ vs → (wipe σ vs)[i]? = some none
  | [], h => by cases h
  | v :: vs, h => by
    unfold wipe
    by_cases hv : v = i
    · subst hv
      exact List.getElem?_set_self (by rw [wipe_length]; exact hl)
    · rw [List.getElem?_set_ne hv]
      rcases List.mem_cons.mp h with z | z
      · exact absurd z.symm hv
      · exact wipe_in hl z
theorem Sm.wipe {ws vs : List Nat} {σ σ' : L2.St} (h : Sm ws σ σ') (hs : ∀ i, i ∈ ws → i ∈ vs) : L2.wipe σ' vs = L2.wipe σ vs := by
  apply List.ext_getElem?
  intro i
  by_cases hi : i ∈ vs
  · by_cases hl : i < σ.length
    · rw [wipe_in hl hi, wipe_in (by rw [h.len]; exact hl) hi]
    · rw [List.getElem?_eq_none (by rw [wipe_length, h.len]; omega), List.getElem?_eq_none (by rw [wipe_length]; omega)]
  · rw [wipe_get hi, wipe_get hi]
    exact h.same i fun z => hi (hs i z)
structure PGD (X : Cx) (TT : Tt) (tg : Expr) (h : Rv → En → Option En) (ws : List Nat) : Prop where
  ex : ∃ t : TG, PG X tg t ∧ ∀ v r g al en e F σ H (Q : L2.St → Hp → Prop), Sv X.K TT g al en F σ H → RvR X.K F al v r → h r en = some e → (∀ σ', Sv X.K TT g al e F σ' H → Sm ws σ σ' → Q σ' H) → t v σ H Q
structure PGsD (X : Cx) (TT : Tt) (tg : List Expr) (h : List PyData → En → Option En) (ws : List Nat) : Prop where
  ex : ∃ t : TGs, PGs X tg t ∧ ∀ vs ds g al en e F σ H (Q : L2.St → Hp → Prop), Sv X.K TT g al en F σ H → DpAll X.K F vs ds → h ds en = some e → (∀ σ', Sv X.K TT g al e F σ' H → Sm ws σ σ' → Q σ' H) → t vs σ H Q
theorem gd_name (i : Nat) {y : Str} (hN : X.N.Nodup) (hi : X.N[i]? = some y := by rfl) (hx : Loc X.env.scope y := by first | exact Or.inl rfl | exact Or.inr rfl) (hf : X.fn y = true ∨ X.env.scope.names.lookup y = some .local := by first | exact .inl rfl | exact .inr rfl | assumption) : PGD X TT (.Name y pos) (setM i) [i] :=
  ⟨⟨_, pg_name hN hi hx hf, fun v r g al en e F σ H Q s hv h k => by cases h; exact k _ (s.setS hv) (Sm.set _ _ _)⟩⟩
def gNl (ds : List PyData) : En → Option En := fun en => match ds with
  | [] => some en
  | _ :: _ => none
def gCn (h1 : Rv → En → Option En) (h2 : List PyData → En → Option En) (ds : List PyData) : En → Option En := fun en => match ds with
  | d :: ds => (match h1 (.dat d) en with
    | some e => h2 ds e
    | none => none)
  | [] => none
theorem gsd_nil : PGsD X TT [] gNl [] := by
  refine ⟨⟨_, pgs_nil, fun vs ds g al en e F σ H Q s hv h k => ?_⟩⟩
  cases hv with
  | nil => cases h; exact ⟨rfl, k σ s (Sm.refl σ)⟩
  | cons _ _ => cases h
theorem gsd_cons {tg : Expr} {tgs : List Expr} {h1 : Rv → En → Option En} {h2 : List PyData → En → Option En} {ws us : List Nat} (ha : PGD X TT tg h1 ws) (hr : PGsD X TT tgs h2 us) (hs : (assignEach (tg :: tgs) X.env).map (·.2) = assign tg X.env :: (assignEach tgs X.env).map (·.2) := by rfl) :
    PGsD X TT (tg :: tgs) (gCn h1 h2) (ws ++ us) := by
  obtain ⟨⟨t, pt, q⟩⟩ := ha
  obtain ⟨⟨u, pu, q2⟩⟩ := hr
  refine ⟨⟨_, pgs_cons pt pu hs, fun vs ds g al en e F σ H Q s hv h k => ?_⟩⟩
  cases hv with
  | nil => cases h
  | cons h3 h4 =>
    rename_i v vs d ds
    unfold gCn at h
    simp only at h
    cases hq : h1 (.dat d) en with
    | none => rw [hq] at h; cases h
    | some e2 =>
      rw [hq] at h
      exact ⟨_, _, rfl, q _ (.dat _) g al en e2 F σ H _ s h3 hq fun σ' s' m => q2 _ _ g al e2 e F σ' H Q s' h4 h fun σ2 s2 m2 => k σ2 s2 (m.trans m2)⟩
def tupleG (n : Nat) (h : List PyData → En → Option En) (r : Rv) : En → Option En := fun en => match r with
  | .dat (.tuple ds) => if ds.length = n then h ds en else none
  | _ => none
theorem gd_tup {tgs : List Expr} {kk : Nat} {n : Nat} {h1 : List PyData → En → Option En} {ws : List Nat} (hc : X.calm = true) (hr : PGsD X TT tgs h1 ws) (hn : (assignEach tgs X.env).length = n := by rfl) (hst : (assignEach tgs X.env).findIdx? (·.1) = none := by rfl) : PGD X TT (.Tuple tgs kk pos) (tupleG n h1) ws := by
  obtain ⟨⟨u, pu, q2⟩⟩ := hr
  refine ⟨⟨_, pg_tup hc pu hn hst, fun v r g al en e F σ H Q s hv h k => ?_⟩⟩
  unfold tupleG at h
  split at h
  · split at h
    · rename_i ds hz
      cases hv with
      | tup h3 h4 => exact ⟨_, _, rfl, sameT s.sub (tupS h3), by rw [dpAll_len h4]; exact hz, q2 _ _ g al en e F σ H Q s h4 h k⟩
    · cases h
  · cases h
/-! ## assignments -/
theorem asg_post {K : PySem.W.Frag} {g : Gh} {al : List Addr} {en : En} {F : Hp} {r : Rv} {h1 : Rv → En → Option En} {D : Ends} (h : PostS K TT W g F al (asg h1 r en) D) : ∃ e, h1 r en = some e ∧ PostS K TT W g F al (.ok .nx e) D := by
  unfold asg at h
  cases q : h1 r en with
  | none => rw [q] at h; exact h.elim
  | some e => rw [q] at h; exact ⟨e, rfl, h⟩
theorem sd_set (i : Nat) {y : Str} {py : Pos} (hN : X.N.Nodup) (ha : PD X TT W a fa) (hi : X.N[i]? = some y := by rfl) (hx : Loc X.env.scope y := by first | exact Or.inl rfl | exact Or.inr rfl) (hs : swapsWith a (some (.Name y py)) pos.line X.env = pure false := by rfl)
    (hf : X.fn y = true ∨ X.env.scope.names.lookup y = some .local := by first | exact .inl rfl | exact .inr rfl | assumption) : PSD X TT W (.Assign [.Name y py] a pos) (bnd fa (asg (setM i))) := by
  obtain ⟨⟨t, pt, q⟩⟩ := ha
  exact ⟨⟨_, ps_set hN hi hx pt hs hf, fun g al en F σ H D s h => q g al en F σ H _ s (h.seq fun r e F' al' H' l s2 p v hv => p.next (Le.refl _ _) (s2.setS hv))⟩⟩
theorem sd_asg {tg : Expr} {h1 : Rv → En → Option En} {ws : List Nat} (ha : PD X TT W a fa) (hg : PGD X TT tg h1 ws) (hs : swapsWithSole [tg] a pos.line X.env = pure false := by rfl) (hw : swappedStores [tg] a X.env = pure none := by rfl)
    (h2 : (assignEach [tg] X.env).map (·.2) = [assign tg X.env] := by rfl) : PSD X TT W (.Assign [tg] a pos) (bnd fa (asg h1)) := by
  obtain ⟨⟨t, pt, q⟩⟩ := ha
  obtain ⟨⟨u, pu, q2⟩⟩ := hg
  refine ⟨⟨_, ps_asg pt pu hs hw h2, fun g al en F σ H D s h => q g al en F σ H _ s (h.seq fun r e F' al' H' l s2 p v hv => ?_)⟩⟩
  obtain ⟨e2, hq, p2⟩ := asg_post p
  exact q2 v r g al' e e2 F' σ H' _ s2 hv hq fun σ' s' _ => p2.next (Le.refl _ _) s'
/-- a, b = x, y -/
def par2 (i j : Nat) (rs : List Rv) : M Fl := fun en => match rs with
  | [r, q] => .ok .nx { en with sl := (en.sl.set i (some r)).set j (some q) }
  | _ => .bad
theorem sd_par (i j : Nat) {y z : Str} {px py pt : Pos} {kt k2 pt2} (hc : X.calm = true) (hN : X.N.Nodup) (ha : PAD X TT W [a, b] fs) (hi : X.N[i]? = some y := by rfl) (hj : X.N[j]? = some z := by rfl) (hij : i ≠ j := by decide)
    (hx : X.env.scope.names.lookup y = some .local := by rfl) (hy : X.env.scope.names.lookup z = some .local := by rfl)
    (hw : swappedStores [.Tuple [.Name y px, .Name z py] kt pt] (.Tuple [a, b] k2 pt2) X.env = pure (some [y, z]) := by rfl)
    (hs : swapsWithSole [.Tuple [.Name y px, .Name z py] kt pt] (.Tuple [a, b] k2 pt2) pos.line X.env = pure false := by rfl) :
    PSD X TT W (.Assign [.Tuple [.Name y px, .Name z py] kt pt] (.Tuple [a, b] k2 pt2) pos) (bnd fs (par2 i j)) := by
  obtain ⟨⟨t, pt, q⟩⟩ := ha
  refine ⟨⟨_, ps_par hc hN hi hj hij hx hy pt hw hs, fun g al en F σ H D s h => q g al en F σ H _ s (h.seq fun rs e F' al' H' l s2 p vs hv => ?_)⟩⟩
  unfold par2 at p
  split at p
  · cases hv with
    | cons h1 h2 =>
      cases h2 with
      | cons h3 h4 =>
        cases h4
        exact ⟨_, _, rfl, p.next (Le.refl _ _) ((s2.setS h1).setS h3)⟩
  · exact p.elim
/-- xs[i] = e, an owned list -/
def setIx (r ri v : Rv) : M Fl := fun en => match r, ri with
  | .own k, .dat (.int i) => (match en.ob[k]? with
    | some (.lst qs) => (match ixN qs.length i with
      | some j => .ok .nx { en with ob := en.ob.set k (.lst (qs.set j v)) }
      | none => .bad)
    | _ => .bad)
  | _, _ => .bad
theorem sd_setIx {e o i : Expr} {fe fo fi : M Rv} {p2 : Pos} (he : PD X TT W e fe) (ho : PD X TT W o fo) (hi : PD X TT W i fi) (hs : swapsWithSole [.Subscript o i p2] e pos.line X.env = pure false := by rfl) (hw : swappedStores [.Subscript o i p2] e X.env = pure none := by rfl)
    (h2 : (assignEach [.Subscript o i p2] X.env).map (·.2) = [assign (.Subscript o i p2) X.env] := by rfl)
    (ha : ∀ v, assign (.Subscript o i p2) X.env v = (do
      let ov ← holding [v] (eval o X.env)
      let iv ← holding [v, ov] (eval i X.env)
      standAt p2
      holding [v, ov, iv] (setItem ov iv v)
      release [v, ov, iv] []) := by intro _; rfl) : PSD X TT W (.Assign [.Subscript o i p2] e pos) (bnd fe fun v => bnd fo fun r => bnd fi fun ri => setIx r ri v) := by
  obtain ⟨⟨t, pt, q⟩⟩ := he
  obtain ⟨⟨t1, pt1, q1⟩⟩ := ho
  obtain ⟨⟨t2, pt2, q2⟩⟩ := hi
  refine ⟨⟨_, ps_asg pt (pg_sub pt1 pt2 set_list ha) hs hw h2, fun g al en F σ H D s h => q g al en F σ H _ s (h.seq fun v e F1 a1 H1 l1 s1 p1 vv hv => ?_)⟩⟩
  refine q1 g a1 e F1 σ H1 _ s1 (p1.seq fun r e2 F2 a2 H2 l2 s2 p2 v2 r2 => ?_)
  refine q2 g a2 e2 F2 σ H2 _ s2 (p2.seq fun ri e3 F3 a3 H3 l3 s3 p3 v3 r3 => ?_)
  unfold setIx at p3
  split at p3
  · rename_i k i
    obtain ⟨ar, ea, rfl⟩ := r2.mono l3
    cases r3
    split at p3
    · rename_i qs eo
      split at p3
      · rename_i j ej
        obtain ⟨fn, us, hus, hra⟩ := s3.lst ea eo
        refine ⟨ar, us, i, j, rfl, rfl, hus, by rw [hra.len]; exact ej, ?_⟩
        exact p3.next (Le.refl _ _) (s3.write ea eo (RvAll.set j hra ((hv.mono l2).mono l3)))
      · exact p3.elim
    · exact p3.elim
  · exact p3.elim
/-- xs.append(e) -/
def appM (r v : Rv) : M Rv := fun en => match r with
  | .own k => (match en.ob[k]? with
    | some (.lst qs) => if qs.length < sizeLine then .ok (.dat .none) { en with ob := en.ob.set k (.lst (qs ++ [v])) } else .bad
    | _ => .bad)
  | _ => .bad
/-- it is an owned list -/
def chkL (r : Rv) : M Unit := fun en => match r with
  | .own k => (match en.ob[k]? with
    | some (.lst _) => .ok () en
    | _ => .bad)
  | _ => .bad
theorem pd_append {o e : Expr} {fo fe : M Rv} {apos : Pos} (ho : PD X TT W o fo) (he : PD X TT W e fe) (hbase : attributeBase o "append" X.env (eval o X.env) = eval o X.env := by rfl)
    (hfew : ((backTo pos (starEach [e] X.env)).all (fun x => !x.1) && (backToKw pos (keywordEach [] X.env)).all (fun x => x.1.isSome)
      && decide (([e] : List Expr).length + ([] : List Keyword).length + (if ([] : List Keyword).isEmpty then 0 else 1) < 30)) = true := by rfl)
    (hline : (apos.endLine == pos.line) = true := by rfl) (hs : starEach [e] X.env = (false, eval e X.env) :: starEach [] X.env := by rfl) (hplain : (backTo pos (starEach [] X.env)).any (·.1) = false := by rfl) :
    PD X TT W (.Call (.Attribute o "append" apos) [e] [] pos) (bnd fo fun r => bnd (chkL r) fun _ => bnd fe fun v => appM r v) := by
  obtain ⟨⟨t1, pt1, q1⟩⟩ := ho
  obtain ⟨⟨t2, pt2, q2⟩⟩ := he
  refine ⟨⟨_, pe_bm PySem.F.plainAttrs_list PySem.F.slot_list_append PySem.F.type_list_append mt_append pt1 (pa_cons pt2 pa_nil hs) hbase hfew hline hs hplain, fun g al en F σ H Q s h => ?_⟩⟩
  refine q1 g al en F σ H _ s (Post.seq h fun r e1 F1 a1 H1 l1 s1 p1 v1 r1 => ?_)
  unfold chkL at p1
  cases r with
  | dat d => exact p1.elim
  | fn _ _ => exact p1.elim
  | fns _ => exact p1.elim
  | exv => exact r1.elim
  | own k =>
    obtain ⟨ar, ea, rfl⟩ := r1
    simp only [bnd] at p1
    have hk2 : k < e1.ob.length := by rw [← s1.alen]; exact (List.getElem?_eq_some_iff.mp ea).1
    have eo : e1.ob[k]? = some e1.ob[k] := List.getElem?_eq_getElem hk2
    cases q3 : e1.ob[k] with
    | fz _ => rw [eo, q3] at p1; exact p1.elim
    | dk _ => rw [eo, q3] at p1; exact p1.elim
    | dt _ => rw [eo, q3] at p1; exact p1.elim
    | ins _ _ => rw [eo, q3] at p1; exact p1.elim
    | fk _ => rw [eo, q3] at p1; exact p1.elim
    | ft _ => rw [eo, q3] at p1; exact p1.elim
    | ltab => rw [eo, q3] at p1; exact p1.elim
    | any => rw [eo, q3] at p1; exact p1.elim
    | lst qs =>
      rw [q3] at eo
      rw [eo] at p1
      obtain ⟨fn, us, hus, hra⟩ := s1.lst ea eo
      refine ⟨.inl ⟨rfl, us, .of hus⟩, ?_⟩
      have p1 : Post X.K TT W g F1 a1 σ (bnd fe (fun v => appM (.own k) v) e1) (fun r _ F' al' H' => ∀ v, RvR X.K F' al' v r → Q v H') := p1
      refine q2 g a1 e1 F1 σ H1 _ s1 (Post.seq p1 fun v e2 F2 a2 H2 l2 s2 p2 v2 r2 => ?_)
      unfold appM at p2
      simp only at p2
      split at p2
      · rename_i qs2 eo2
        split at p2
        · rename_i hz
          have ea2 := pre_get l2.a ea
          obtain ⟨fn2, us2, hus2, hra2⟩ := s2.lst ea2 eo2
          exact ⟨ar, us2, v2, rfl, rfl, hus2, by rw [hra2.len]; exact hz, p2.at (Le.refl _ _) (s2.write ea2 eo2 (RvAll.app hra2 (.cons r2 .nil))) _ Dp.non⟩
        · exact p2.elim
      · exact p2.elim
end
end Pd

namespace Pd
open PySem PySem.Spec PyProof.Rows L2
variable [Lams]
/-! ## what is walked -/
/-- .. or a tuple that stands is frozen first -/
def RStW (F H F' H' : Hp) : Prop := RStep F H F' H' ∨ ∃ q xs p o, H q = some (.tup xs) ∧ H p = none ∧ F' = upd (upd F q (.tup xs)) p o ∧ H' = upd H p o
section
variable {K : PySem.W.Frag} {TT : Tt} {g : Gh} {al : List Addr} {en : En} {F F' : Hp} {σ : L2.St} {H H' : Hp}
theorem Sv.frzT (s : Sv K TT g al en F σ H) {q : Addr} {xs : List V} (hq : H q = some (.tup xs)) : Sv K TT g al en (upd F q (.tup xs)) σ H ∧ Same F (upd F q (.tup xs)) := by
  have sm : Same F (upd F q (.tup xs)) := fun b o e => by
    by_cases hb : b = q
    · subst hb
      have := s.sub _ _ e
      rw [hq] at this
      cases this
      exact upd_same
    · rw [upd_ne hb]; exact e
  refine ⟨s.ext sm (fun b o e => ?_) (fun P hP => ?_) (fun b o e _ => e) (fun b hb => ?_), sm⟩
  · by_cases h : b = q
    · subst h
      rw [upd_same] at e
      cases e
      exact hq
    · rw [upd_ne h] at e
      exact s.sub _ _ e
  · obtain ⟨a, b⟩ := s.tabs P hP
    refine ⟨a, ?_⟩
    obtain ⟨ps, e, _⟩ := a
    rw [upd_ne (fun z => by rw [z, hq] at e; cases e)]
    exact b
  · by_cases h : b = q
    · subst h; exact .inr (.inr ⟨xs, hq⟩)
    · rw [upd_ne h] at hb; exact .inl hb
theorem Sv.rstW (s : Sv K TT g al en F σ H) (h : RStW F H F' H') : Sv K TT g al en F' σ H' ∧ Le F al F' al := by
  rcases h with h | ⟨q, xs, p, o, hq, hp, rfl, rfl⟩
  · exact s.rstep h
  · obtain ⟨s2, sm⟩ := s.frzT hq
    obtain ⟨s3, l3⟩ := s2.rstep (.inr ⟨p, o, hp, rfl, rfl⟩)
    exact ⟨s3, Le.trans ⟨sm, List.prefix_rfl⟩ l3⟩
end
/-- J yields the data rs, whatever else happens -/
def Wk (K : PySem.W.Frag) (TT : Tt) (J : It) (rs : List PyData) (F0 : Hp) : Prop := ∀ g al en F σ H, Same F0 F → Sv K TT g al en F σ H → ∀ i,
  (∀ r, rs[i]? = some r → J.go i H ∧ ∀ x H', J.yld i H x H' → ∃ F', RStW F H F' H' ∧ Dp K F' x r) ∧ (rs.length ≤ i → J.stop i H)
structure PID (X : Cx) (TT : Tt) (W : WX) (tg iter : Expr) (f : M (List PyData)) : Prop where
  ex : ∃ w : TI, PI X tg iter w ∧ ∀ g al en F σ H R, Sv X.K TT g al en F σ H → Post X.K TT W g F al σ (f en) (fun rs _ F' al' H' => ∀ J, Wk X.K TT J rs F' → R J H') → w σ H R
def tupI (r : Rv) : M (List PyData) := fun en => match r with
  | .dat (.tuple ds) => .ok ds en
  | _ => .bad
def lsD (d : PyData) : M (List PyData) := fun en => match d with
  | .list ds => .ok ds en
  | _ => .bad
def lstI (r : Rv) : M (List PyData) := bnd (frz r) lsD
section
variable {X : Cx} {TT : Tt} {W : WX} {a b c : Expr} {fa fb fc : M Rv} {pos : Pos} {es : List Expr} {fs : M (List Rv)} {x : Str} {p : Pos} {tg : Expr}
theorem id_tup (ha : PD X TT W a fa) : PID X TT W tg a (bnd fa tupI) := by
  obtain ⟨⟨t, pt, q⟩⟩ := ha
  refine ⟨⟨_, pi_tup pt, fun g al en F σ H R s h => q g al en F σ H _ s (Post.seq h fun r e F1 a1 H1 l1 s1 p1 v hv => ?_)⟩⟩
  unfold tupI at p1
  split at p1
  · rename_i ds
    cases hv with
    | tup h1 h2 =>
      rename_i ar us
      refine ⟨ar, rfl, ⟨us, sameT s1.sub (tupS h1)⟩, p1.here s1 _ fun g al en F σ H hs s2 i => ⟨fun r hr => ?_, fun hi => ?_⟩⟩
      · have hq : SqT X.K H ar us := sameT s2.sub (sameT hs (tupS h1))
        obtain ⟨v, e1, e2⟩ := dpAll_get h2 hr
        refine ⟨⟨us, v, hq, e1⟩, fun x H' hy => ?_⟩
        obtain ⟨rfl, hy⟩ := hy
        have e3 := hy us hq
        rw [e1] at e3
        cases e3
        exact ⟨F, .inl (.same _ _), dp_mono hs _ _ e2⟩
      · exact ⟨us, sameT s2.sub (sameT hs (tupS h1)), by rw [dpAll_len h2]; exact hi⟩
  · exact p1.elim
theorem id_lst (ha : PD X TT W a fa) : PID X TT W tg a (bnd fa lstI) := by
  obtain ⟨⟨t, pt, q⟩⟩ := ha
  refine ⟨⟨_, pi_list pt, fun g al en F σ H R s h => q g al en F σ H _ s (Post.seq h fun r e F1 a1 H1 l1 s1 p1 v hv => ?_)⟩⟩
  unfold lstI at p1
  obtain ⟨d, e2, F2, s2, l2, d2, p2⟩ := frz_seq s1 hv p1
  unfold lsD at p2
  split at p2
  · rename_i ds
    cases d2 with
    | lst h1 h2 =>
      rename_i ar us
      refine ⟨ar, rfl, ⟨us, s2.sub.seq h1⟩, p2.here s2 _ fun g al en F σ H hs s2 i => ⟨fun r hr => ?_, fun hi => ?_⟩⟩
      · have hq : SqL X.K H ar us := s2.sub.seq (hs.seq h1)
        obtain ⟨v, e1, e2⟩ := dpAll_get h2 hr
        refine ⟨⟨us, v, hq, e1⟩, fun x H' hy => ?_⟩
        obtain ⟨rfl, hy⟩ := hy
        have e3 := hy us hq
        rw [e1] at e3
        cases e3
        exact ⟨F, .inl (.same _ _), dp_mono hs _ _ e2⟩
      · exact ⟨us, s2.sub.seq (hs.seq h1), by rw [dpAll_len h2]; exact hi⟩
  · exact p2.elim
/-- lo, lo + 1, .. -/
def upI (lo : Int) (n : Nat) : List PyData := (List.range n).map fun (i : Nat) => PyData.int (lo + (i : Int))
theorem wk_range {K : PySem.W.Frag} (lo : Int) (n : Nat) (F0 : Hp) : Wk K TT (Itr lo n) (upI lo n) F0 := fun g al en F σ H hs s i => by
  refine ⟨fun r hr => ?_, fun hi => by simpa [upI, Itr] using hi⟩
  unfold upI at hr
  rw [List.getElem?_map] at hr
  by_cases hi : i < n
  · rw [List.getElem?_range hi] at hr
    cases hr
    refine ⟨hi, fun x H' hy => ?_⟩
    obtain ⟨rfl, rfl⟩ := hy
    exact ⟨F, .inl (.same _ _), .int _⟩
  · rw [List.getElem?_eq_none (by simpa using hi)] at hr
    cases hr
def rng1I (rs : List Rv) : M (List PyData) := fun en => match rs with
  | [.dat (.int j)] => if -(2 ^ 62) ≤ j ∧ j < 2 ^ 62 then .ok (upI 0 j.toNat) en else .bad
  | _ => .bad
def rng2I (rs : List Rv) : M (List PyData) := fun en => match rs with
  | [.dat (.int i), .dat (.int j)] => if -(2 ^ 62) ≤ i ∧ i < 2 ^ 62 ∧ -(2 ^ 62) ≤ j ∧ j < 2 ^ 62 then .ok (upI i (j - i).toNat) en else .bad
  | _ => .bad
theorem id_range1 (hm : X.mg "range" = none) (ha : PAD X TT W [a] fs) (hg : Gl X "range" := by rfl) (hs : starEach [a] X.env = [(false, eval a X.env)] := by rfl) : PID X TT W tg (.Call (.Name "range" p) [a] [] pos) (bnd fs rng1I) := by
  obtain ⟨⟨t, pt, q⟩⟩ := ha
  refine ⟨⟨_, pi_range1 hg hm pt hs, fun g al en F σ H R s h => q g al en F σ H _ s (Post.seq h fun rs e F1 a1 H1 l1 s1 p1 vs hv => ?_)⟩⟩
  unfold rng1I at p1
  split at p1
  · split at p1
    · rename_i j hz
      cases hv with
      | cons h1 h2 =>
        cases h2
        cases h1
        exact ⟨j, rfl, hz.1, hz.2, p1.here s1 _ (wk_range 0 _ _)⟩
    · exact p1.elim
  · exact p1.elim
theorem id_range2 (hm : X.mg "range" = none) (ha : PAD X TT W [a, b] fs) (hg : Gl X "range" := by rfl) (hs : starEach [a, b] X.env = [(false, eval a X.env), (false, eval b X.env)] := by rfl) (hs2 : starEach [b] X.env = [(false, eval b X.env)] := by rfl) : PID X TT W tg (.Call (.Name "range" p) [a, b] [] pos) (bnd fs rng2I) := by
  obtain ⟨⟨t, pt, q⟩⟩ := ha
  refine ⟨⟨_, pi_range2 hg hm pt hs hs2, fun g al en F σ H R s h => q g al en F σ H _ s (Post.seq h fun rs e F1 a1 H1 l1 s1 p1 vs hv => ?_)⟩⟩
  unfold rng2I at p1
  split at p1
  · split at p1
    · rename_i i j hz
      cases hv with
      | cons h1 h2 =>
        cases h2 with
        | cons h3 h4 =>
          cases h4
          cases h1
          cases h3
          exact ⟨i, j, rfl, hz, p1.here s1 _ (wk_range i _ _)⟩
    · exact p1.elim
  · exact p1.elim
/-- zip of two tuples -/
def zipI (ds es : List PyData) : List PyData := List.zipWith (fun d e => PyData.tuple [d, e]) ds es
def zipTI (rs : List Rv) : M (List PyData) := fun en => match rs with
  | [.dat (.tuple ds), .dat (.tuple es)] => .ok (zipI ds es) en
  | _ => .bad
theorem zip_get {ds es : List PyData} {i : Nat} {r : PyData} (h : (zipI ds es)[i]? = some r) : ∃ d e, ds[i]? = some d ∧ es[i]? = some e ∧ r = .tuple [d, e] := by
  unfold zipI at h
  rw [List.getElem?_zipWith] at h
  cases q1 : ds[i]? with
  | none => rw [q1] at h; simp at h
  | some d =>
    cases q2 : es[i]? with
    | none => rw [q1, q2] at h; simp at h
    | some e => rw [q1, q2] at h; simp at h; exact ⟨d, e, rfl, rfl, h.symm⟩
theorem id_zipT {elts : List Expr} {kk : Nat} {tpos : Pos} (hm : X.mg "zip" = none) (ha : PAD X TT W [a, b] fs) (hg : Gl X "zip" := by rfl) (hs : starEach [a, b] X.env = (false, eval a X.env) :: starEach [b] X.env := by rfl) (hpl : (backTo pos (starEach [b] X.env)).any (·.1) = false := by rfl) :
    PID X TT W (.Tuple elts kk tpos) (.Call (.Name "zip" p) [a, b] [] pos) (bnd fs zipTI) := by
  obtain ⟨⟨t, pt, q⟩⟩ := ha
  refine ⟨⟨_, RZ.pi_zipA hg hm pt hs hpl, fun g al en F σ H R s h => q g al en F σ H _ s (Post.seq h fun rs e F1 a1 H1 l1 s1 p1 vs hv => ?_)⟩⟩
  unfold zipTI at p1
  split at p1
  · rename_i ds es
    cases hv with
    | cons h1 h2 =>
      cases h2 with
      | cons h3 h4 =>
        cases h4
        cases h1 with
        | tup q1 q2 =>
          cases h3 with
          | tup q3 q4 =>
            rename_i a1 us a2 ws
            refine ⟨a1, a2, us, ws, rfl, .inr ⟨sameT s1.sub (tupS q1), sameT s1.sub (tupS q3), p1.here s1 _ fun g al en F σ H hs s i => ⟨fun r hr => ?_, fun hi => ?_⟩⟩⟩
            · have hq : SqT X.K H a1 us := sameT s.sub (sameT hs (tupS q1))
              have hq2 : SqT X.K H a2 ws := sameT s.sub (sameT hs (tupS q3))
              obtain ⟨d, e, g1, g2, rfl⟩ := zip_get hr
              obtain ⟨v1, e1, f1⟩ := dpAll_get q2 g1
              obtain ⟨v2, e2, f2⟩ := dpAll_get q4 g2
              refine ⟨⟨us, ws, v1, v2, hq, hq2, e1, e2⟩, fun x H' hy => ?_⟩
              obtain ⟨T, x1, x2, rfl, hT, rfl, y1, y2⟩ := hy
              have z1 := y1 us hq
              have z2 := y2 ws hq2
              rw [e1] at z1
              rw [e2] at z2
              cases z1
              cases z2
              exact ⟨upd F T (.tup [v1, v2]), .inl (.inr ⟨T, _, hT, rfl, rfl⟩), dp_tup (.cons (dp_mono hs _ _ f1) (.cons (dp_mono hs _ _ f2) .nil)) (s.fnone hT)⟩
            · refine ⟨us, ws, sameT s.sub (sameT hs (tupS q1)), sameT s.sub (sameT hs (tupS q3)), ?_⟩
              rw [dpAll_len q2, dpAll_len q4]
              unfold zipI at hi
              rw [List.length_zipWith] at hi
              omega
  · exact p1.elim
/-! ## for -/
def forM (h : Rv → En → Option En) (G : M Fl) : List PyData → M Fl
  | [] => ret .nx
  | r :: rs => fun en => match h (.dat r) en with
    | none => .bad
    | some e => (match G e with
      | .ok .nx e2 => forM h G rs e2
      | .ok .cnt e2 => forM h G rs e2
      | .ok .brk e2 => .ok .nx e2
      | .ok (.ret q) e2 => .ok (.ret q) e2
      | .exc x e2 => .exc x e2
      | .bad => .bad)
theorem sd_for {body : List Stmt} {f : M (List PyData)} {h1 : Rv → En → Option En} {ws : List Nat} {G : M Fl} (hp : PassesOwn (model X.prog X.w) X.A X.env X.xe) (hc : X.calm = true) (hi : PID X TT W tg a f) (hg : PGD X TT tg h1 ws) (hb : PSsD X TT W body G)
    (hs : ∀ x, foldedSetIterable a X.env x = pure x := by intro _; rfl) : PSD X TT W (.For tg a body [] pos) (bnd f (forM h1 G)) := by
  obtain ⟨⟨w, pw, qw⟩⟩ := hi
  obtain ⟨⟨t, pt, qt⟩⟩ := hg
  obtain ⟨⟨u, pu, qu⟩⟩ := hb
  refine ⟨⟨_, ps_for hp hc pw pt pu hs, fun g al en F σ H D s h => qw g al en F σ H _ s (h.seq fun rs e0 F0 a0 H0 l0 s0 p0 J hJ => ?_)⟩⟩
  refine ⟨fun i m σ H => m = rs.length - i ∧ i ≤ rs.length ∧ ∃ al en F, Le F0 a0 F al ∧ Sv X.K TT g al en F σ H ∧ PostS X.K TT W g F al (forM h1 G (rs.drop i) en) D,
    ⟨rs.length, rfl, Nat.zero_le _, a0, e0, F0, Le.refl _ _, s0, by simpa using p0⟩, ?_⟩
  rintro i m σ1 H1 ⟨rfl, hi, al1, en1, F1, l1, s1, p1⟩
  obtain ⟨hgo, hstop⟩ := hJ g al1 en1 F1 σ1 H1 l1.f s1 i
  by_cases hlt : i < rs.length
  · have er : rs[i]? = some rs[i] := List.getElem?_eq_getElem hlt
    obtain ⟨go, yl⟩ := hgo _ er
    rw [List.drop_eq_getElem_cons hlt] at p1
    refine .inr ⟨go, fun σ' H' => ∃ al en F, Le F0 a0 F al ∧ Sv X.K TT g al en F σ' H' ∧ PostS X.K TT W g F al (forM h1 G (rs.drop (i + 1)) en) D, fun σ' H' hN => ⟨rs.length - (i + 1), by omega, rfl, hlt, hN⟩, fun x H' hy => ?_⟩
    obtain ⟨F2, hst, hd⟩ := yl x H' hy
    obtain ⟨s2, l2⟩ := s1.rstW hst
    have p2 := p1.up l2
    unfold forM at p2
    cases q1 : h1 (.dat rs[i]) en1 with
    | none => simp only [q1] at p2; exact p2.elim
    | some e3 =>
      simp only [q1] at p2
      refine qt x (.dat rs[i]) g al1 en1 e3 F2 σ1 H' _ s2 hd q1 fun σ3 s3 _ => ?_
      refine qu g al1 e3 F2 σ3 H' _ s3 ?_
      have l3 := l1.trans l2
      cases q2 : G e3 with
      | ok fl e4 =>
        rw [q2] at p2
        cases fl with
        | nx => exact fun F5 a5 σ5 H5 l5 s5 => ⟨a5, e4, F5, l3.trans l5, s5, p2.up l5⟩
        | cnt => exact fun F5 a5 σ5 H5 l5 s5 => ⟨a5, e4, F5, l3.trans l5, s5, p2.up l5⟩
        | brk => exact p2
        | ret r => exact p2
      | exc x e4 => rw [q2] at p2; exact p2
      | bad => rw [q2] at p2; exact p2
  · have e : i = rs.length := by omega
    subst e
    rw [List.drop_length] at p1
    exact .inl ⟨hstop (Nat.le_refl _), p1.next (Le.refl _ _) s1⟩
/-! ## while -/
def whileN (gc : M Bool) (G : M Fl) : Nat → En → Option (Out Fl)
  | 0, _ => none
  | n + 1, en => match gc en with
    | .ok true e => (match G e with
      | .ok .nx e2 => whileN gc G n e2
      | .ok .cnt e2 => whileN gc G n e2
      | .ok .brk e2 => some (.ok .nx e2)
      | .ok (.ret q) e2 => some (.ok (.ret q) e2)
      | .exc x e2 => some (.exc x e2)
      | .bad => some .bad)
    | .ok false e => some (.ok .nx e)
    | .exc x e => some (.exc x e)
    | .bad => some .bad
theorem whileN_more {gc : M Bool} {G : M Fl} : ∀ {n : Nat} {en : En} {o : Out Fl}, whileN gc G n en = some o → whileN gc G (n + 1) en = some o
  | 0, _, _, h => by cases h
  | n + 1, en, o, h => by
    unfold whileN at h ⊢
    cases q : gc en with
    | ok b e =>
      rw [q] at h
      cases b with
      | false => exact h
      | true =>
        simp only at h ⊢
        cases q2 : G e with
        | ok fl e2 =>
          rw [q2] at h
          cases fl with
          | nx => exact whileN_more h
          | cnt => exact whileN_more h
          | brk => exact h
          | ret r => exact h
        | exc x e2 => rw [q2] at h; exact h
        | bad => rw [q2] at h; exact h
    | exc x e => rw [q] at h; exact h
    | bad => rw [q] at h; exact h
theorem whileN_le {gc : M Bool} {G : M Fl} {n m : Nat} {en : En} {o : Out Fl} (h : whileN gc G n en = some o) (l : n ≤ m) : whileN gc G m en = some o := by
  induction l with
  | refl => exact h
  | step _ ih => exact whileN_more ih
open Classical in
noncomputable def whileM (gc : M Bool) (G : M Fl) : M Fl := fun en => if h : ∃ o n, whileN gc G n en = some o then h.choose else .bad
theorem whileM_eq {gc : M Bool} {G : M Fl} {n : Nat} {en : En} {o : Out Fl} (h : whileN gc G n en = some o) : whileM gc G en = o := by
  have hx : ∃ o n, whileN gc G n en = some o := ⟨o, n, h⟩
  unfold whileM
  rw [dif_pos hx]
  obtain ⟨m, hm⟩ := hx.choose_spec
  have h1 := whileN_le h (Nat.le_max_left n m)
  have h2 := whileN_le hm (Nat.le_max_right n m)
  rw [h1] at h2
  exact (Option.some.inj h2).symm
theorem sd_while {body : List Stmt} {gc : M Bool} {G : M Fl} (hp : PassesOwn (model X.prog X.w) X.A X.env X.xe) (hc : PBt X TT W c gc) (hb : PSsD X TT W body G) : PSD X TT W (.While c body [] pos) (whileM gc G) := by
  obtain ⟨⟨t, pt, qt⟩⟩ := hc
  obtain ⟨⟨u, pu, qu⟩⟩ := hb
  refine ⟨⟨_, ps_while hp pt pu, fun g al en F σ H D s h => ?_⟩⟩
  by_cases hx : ∃ o n, whileN gc G n en = some o
  · obtain ⟨o, n, hn⟩ := hx
    rw [whileM_eq hn] at h
    refine ⟨fun m σ1 H1 => ∃ al1 en1 F1 o, whileN gc G m en1 = some o ∧ Le F al F1 al1 ∧ Sv X.K TT g al1 en1 F1 σ1 H1 ∧ PostS X.K TT W g F1 al1 o D, ⟨n, al, en, F, o, hn, Le.refl _ _, s, h⟩, ?_⟩
    rintro m σ1 H1 ⟨al1, en1, F1, o1, hm, l1, s1, p1⟩
    cases m with
    | zero => cases hm
    | succ m =>
      unfold whileN at hm
      refine qt g al1 en1 F1 σ1 H1 _ s1 ?_
      cases q : gc en1 with
      | ok b e2 =>
        rw [q] at hm
        intro F2 a2 H2 l2 s2
        cases b with
        | false =>
          simp only [Option.some.injEq] at hm
          subst hm
          rw [if_neg Bool.false_ne_true]
          exact p1 F2 a2 σ1 H2 l2 s2
        | true =>
          simp only at hm
          rw [if_pos rfl]
          refine ⟨fun σ' H' => ∃ m', m' < m + 1 ∧ ∃ al1 en1 F1 o, whileN gc G m' en1 = some o ∧ Le F al F1 al1 ∧ Sv X.K TT g al1 en1 F1 σ' H' ∧ PostS X.K TT W g F1 al1 o D, fun σ' H' h => h, ?_⟩
          refine qu g a2 e2 F2 σ1 H2 _ s2 ?_
          cases q2 : G e2 with
          | ok fl e4 =>
            rw [q2] at hm
            cases fl with
            | nx => exact fun F5 a5 σ5 H5 l5 s5 => ⟨m, Nat.lt_succ_self m, a5, e4, F5, o1, hm, (l1.trans l2).trans l5, s5, (p1.up l2).up l5⟩
            | cnt => exact fun F5 a5 σ5 H5 l5 s5 => ⟨m, Nat.lt_succ_self m, a5, e4, F5, o1, hm, (l1.trans l2).trans l5, s5, (p1.up l2).up l5⟩
            | brk => simp only [Option.some.injEq] at hm; subst hm; exact p1.up l2
            | ret r => simp only [Option.some.injEq] at hm; subst hm; exact p1.up l2
          | exc x e4 => rw [q2] at hm; simp only [Option.some.injEq] at hm; subst hm; exact p1.up l2
          | bad => rw [q2] at hm; simp only [Option.some.injEq] at hm; subst hm; exact p1
      | exc x e2 =>
        rw [q] at hm
        simp only [Option.some.injEq] at hm
        subst hm
        exact fun F2 a2 H2 cls dO l2 s2 => p1 F2 a2 σ1 H2 cls dO l2 s2
      | bad =>
        rw [q] at hm
        simp only [Option.some.injEq] at hm
        subst hm
        exact p1
  · unfold whileM at h
    rw [dif_neg hx] at h
    exact h.elim
end
end Pd

namespace Pd
open PySem PySem.Spec PyProof.Rows L2
variable [Lams]
/-! ## comprehensions -/
abbrev W0 : WX := fun _ _ _ _ => False
structure PTsD (X : Cx) (TT : Tt) (ifs : List Expr) (f : M Bool) : Prop where
  ex : ∃ t : L2.TT, PTs X ifs t ∧ ∀ g al en F σ H Q, Sv X.K TT g al en F σ H → Post X.K TT W0 g F al σ (f en) (fun b _ _ _ H' => Q b H') → t σ H Q
/-- what a turn does: the list at k grows -/
def compL (h : Rv → En → Option En) (gt : M Bool) (fe : M Rv) (sl : List (Option Rv)) (k : Nat) : List PyData → En → Option En
  | [], en => some en
  | r :: rs, en => match h (.dat r) en with
    | none => none
    | some e1 => (match gt e1 with
      | .ok false e2 => compL h gt fe sl k rs { e2 with sl := sl }
      | .ok true e2 => (match fe e2 with
        | .ok v e3 => (match e3.ob[k]? with
          | some (.lst acc) => if acc.length < sizeLine then compL h gt fe sl k rs { sl := sl, ob := e3.ob.set k (.lst (acc ++ [v])) } else none
          | _ => none)
        | _ => none)
      | _ => none)
def compM (vs : List Nat) (h : Rv → En → Option En) (gt : M Bool) (fe : M Rv) (rs : List PyData) : M Rv := fun en =>
  match compL h gt fe (wipeL en.sl vs) en.ob.length rs { sl := wipeL en.sl vs, ob := en.ob ++ [.lst []] } with
  | some e => .ok (.own en.ob.length) { e with sl := en.sl }
  | none => .bad
section
variable {X : Cx} {TT : Tt} {W : WX} {a b c : Expr} {fa fb fc : M Rv} {pos : Pos} {es : List Expr} {fs : M (List Rv)} {x : Str} {p : Pos} {tg : Expr}
theorem ts_nil : PTsD X TT [] (ret true) := ⟨⟨_, pts_nil, fun g al en F σ H Q s h => h.here s⟩⟩
theorem ts_one {gc : M Bool} (hc : PBt X TT W0 c gc) : PTsD X TT [c] gc := by
  obtain ⟨⟨t, pt, q⟩⟩ := hc
  exact ⟨⟨_, pts_one pt, q⟩⟩
theorem PE.stronger {e : Expr} {t t' : TE} (h : PE X e t) (i : ∀ σ H Q, t' σ H Q → t σ H Q) : PE X e t' := ⟨fun pins s σ H Q I w => h.run pins s σ H Q I (i σ H Q w)⟩
theorem PTs.stronger {e : List Expr} {t t' : L2.TT} (h : PTs X e t) (i : ∀ σ H Q, t' σ H Q → t σ H Q) : PTs X e t' := ⟨fun pins s σ H Q I w => h.run pins s σ H Q I (i σ H Q w)⟩
theorem PG.stronger {e : Expr} {t t' : TG} (h : PG X e t) (i : ∀ v σ H Q, t' v σ H Q → t v σ H Q) : PG X e t' := ⟨fun pins s σ H v u Q I r w => h.run pins s σ H v u Q I r (i v σ H Q w)⟩
/-- the context of a comprehension's turn -/
abbrev Bk (X : Cx) (scope : Scope) (z : Shared × Hp × Addr × List (Str × Addr) × List Addr) : Cx := X.blk z.1 z.2.1 scope (compEnvC scope z.2.2.2.1 z.2.2.1 X.env) z.2.2.2.2
/-- a comprehension's own reading: all that its turns ask -/
theorem comp_core {elt iter : Expr} {ifs : List Expr} {scope : Scope} {own : List (Str × Nat)} {f : M (List PyData)} {h : Rv → En → Option En} {gt : M Bool} {fe : M Rv} {ws : List Nat}
    (hi : PID X TT W tg iter f) (hg : ∀ z, PGD (Bk X scope z) TT tg h ws) (hws : ∀ i, i ∈ ws → i ∈ own.map (·.2)) (ht : ∀ z, PTsD (Bk X scope z) TT ifs gt) (he : ∀ z, PD (Bk X scope z) TT W0 elt fe) :
    ∃ (wi : TI) (g : TG) (tt : L2.TT) (te : TE), PI X tg iter wi ∧ (∀ z, PG (Bk X scope z) tg g) ∧ (∀ z, PTs (Bk X scope z) ifs tt) ∧ (∀ z, PE (Bk X scope z) elt te) ∧
      ∀ gh al en F σ H Q, Sv X.K TT gh al en F σ H → Post X.K TT W gh F al σ (bnd f (compM (own.map (·.2)) h gt fe) en) (fun r _ F' al' H' => ∀ v, RvR X.K F' al' v r → Q v H') → tLc wi g tt te (own.map (·.2)) σ H Q := by
  obtain ⟨⟨wi, pw, qw⟩⟩ := hi
  refine ⟨wi, fun v σ H Q => ∀ z, (hg z).ex.choose v σ H Q, fun σ H Q => ∀ z, (ht z).ex.choose σ H Q, fun σ H Q => ∀ z, (he z).ex.choose σ H Q, pw, fun z => PG.stronger (hg z).ex.choose_spec.1 fun v σ H Q k => k z,
    fun z => PTs.stronger (ht z).ex.choose_spec.1 fun σ H Q k => k z, fun z => PE.stronger (he z).ex.choose_spec.1 fun σ H Q k => k z, fun gh al en F σ H Q s hP => ?_⟩
  generalize hvs : own.map (·.2) = vs at hws hP ⊢
  refine qw gh al en F σ H _ s (Post.seq hP fun rs e0 F0 a0 H0 l0 s0 p0 J hJ => ?_)
  intro D hD
  unfold compM at p0
  cases qc : compL h gt fe (wipeL e0.sl vs) e0.ob.length rs { sl := wipeL e0.sl vs, ob := e0.ob ++ [.lst []] } with
  | none => rw [qc] at p0; exact p0.elim
  | some eE =>
    rw [qc] at p0
    have sW := (s0.wiped vs).newOwn hD (xs := []) (rs := []) .nil
    have lD : Le F0 a0 F0 (a0 ++ [D]) := le_own
    have eD : (a0 ++ [D])[e0.ob.length]? = some D := by rw [← s0.alen, List.getElem?_append_right (Nat.le_refl _)]; simp
    refine ⟨fun i m H => m = rs.length - i ∧ i ≤ rs.length ∧ ∃ al1 en1 F1, Le F0 (a0 ++ [D]) F1 al1 ∧ en1.sl = wipeL e0.sl vs ∧ Sv X.K TT gh al1 en1 F1 (wipe σ vs) H ∧ compL h gt fe (wipeL e0.sl vs) e0.ob.length (rs.drop i) en1 = some eE,
      ⟨rs.length, rfl, Nat.zero_le _, _, _, F0, Le.refl _ _, rfl, sW, by simpa using qc⟩, ?_⟩
    rintro i m H1 ⟨rfl, hi, al1, en1, F1, l1, el, s1, p1⟩
    obtain ⟨hgo, hstop⟩ := hJ gh al1 en1 F1 _ H1 l1.f s1 i
    by_cases hlt : i < rs.length
    · have er : rs[i]? = some rs[i] := List.getElem?_eq_getElem hlt
      obtain ⟨go, yl⟩ := hgo _ er
      rw [List.drop_eq_getElem_cons hlt] at p1
      refine .inr ⟨go, fun H' => ∃ al1 en1 F1, Le F0 (a0 ++ [D]) F1 al1 ∧ en1.sl = wipeL e0.sl vs ∧ Sv X.K TT gh al1 en1 F1 (wipe σ vs) H' ∧ compL h gt fe (wipeL e0.sl vs) e0.ob.length (rs.drop (i + 1)) en1 = some eE, fun H' hN => ⟨rs.length - (i + 1), by omega, rfl, hlt, hN⟩, fun x H' hy z => ?_⟩
      obtain ⟨F2, hst, hd⟩ := yl x H' hy
      obtain ⟨s2, l2⟩ := s1.rstW hst
      unfold compL at p1
      cases q1 : h (.dat rs[i]) en1 with
      | none => simp only [q1] at p1; cases p1
      | some e3 =>
        simp only [q1] at p1
        refine (hg z).ex.choose_spec.2 x (.dat rs[i]) gh al1 en1 e3 F2 _ H' _ s2 hd q1 fun σ3 s3 m3 => ?_
        have w3 : wipe σ3 vs = wipe σ vs := by
          have z2 := m3.wipe hws
          rw [z2]
          apply List.ext_getElem?
          intro j
          by_cases hj : j ∈ vs
          · by_cases hl : j < σ.length
            · rw [wipe_in (by rw [wipe_length]; exact hl) hj, wipe_in hl hj]
            · rw [List.getElem?_eq_none (by rw [wipe_length, wipe_length]; omega), List.getElem?_eq_none (by rw [wipe_length]; omega)]
          · rw [wipe_get hj]
        have l3 := l1.trans l2
        -- back to the wiped slots
        have back : ∀ {al' : List Addr} {e' : En} {F' : Hp} {H'' : Hp}, Le F2 al1 F' al' → Sv X.K TT gh al' e' F' σ3 H'' → Sv X.K TT gh al' { e' with sl := wipeL e0.sl vs } F' (wipe σ vs) H'' := fun {al' e' F' H''} l s => by
          refine s.reslot ?_ fun j r ej => ?_
          · rw [wipe_length, wipeL_len]; exact s0.len
          · obtain ⟨v, f1, f2⟩ := s1.slots j r (by rw [el]; exact ej)
            exact ⟨v, f1, f2.mono (l2.trans l)⟩
        refine ⟨w3, fun z2 => ?_⟩
        refine (ht z2).ex.choose_spec.2 gh al1 e3 F2 σ3 H' _ s3 ?_
        cases q2 : gt e3 with
        | bad => simp only [q2] at p1; cases p1
        | exc _ _ => simp only [q2] at p1; cases p1
        | ok k e4 =>
          simp only [q2] at p1
          intro F4 a4 H4 l4 s4
          cases k with
          | false =>
            simp only at p1
            rw [if_neg Bool.false_ne_true]
            exact ⟨a4, _, F4, l3.trans l4, rfl, back l4 s4, p1⟩
          | true =>
            simp only at p1
            rw [if_pos rfl]
            intro z3
            refine (he z3).ex.choose_spec.2 gh a4 e4 F4 σ3 H4 _ s4 ?_
            cases q3 : fe e4 with
            | bad => simp only [q3] at p1; cases p1
            | exc _ _ => simp only [q3] at p1; cases p1
            | ok v e5 =>
              simp only [q3] at p1
              intro F5 a5 H5 l5 s5 y hy5
              cases q4 : e5.ob[e0.ob.length]? with
              | none => simp only [q4] at p1; cases p1
              | some oc =>
                cases oc with
                | fz _ => simp only [q4] at p1; cases p1
                | dk _ => simp only [q4] at p1; cases p1
                | dt _ => simp only [q4] at p1; cases p1
                | ins _ _ => simp only [q4] at p1; cases p1
                | fk _ => simp only [q4] at p1; cases p1
                | ft _ => simp only [q4] at p1; cases p1
                | ltab => simp only [q4] at p1; cases p1
                | any => simp only [q4] at p1; cases p1
                | lst acc =>
                  simp only [q4] at p1
                  split at p1
                  · rename_i hz
                    have eD5 : a5[e0.ob.length]? = some D := pre_get (((l1.trans l2).trans l4).trans l5).a eD
                    obtain ⟨fn, us, hus, hra⟩ := s5.lst eD5 q4
                    refine ⟨us, hus, by rw [hra.len]; exact hz, a5, _, F5, (l3.trans l4).trans l5, rfl, ?_, p1⟩
                    exact back (l4.trans l5) (s5.write eD5 q4 (RvAll.app hra (.cons hy5 .nil)))
                  · cases p1
    · have e : i = rs.length := by omega
      subst e
      rw [List.drop_length] at p1
      refine .inl ⟨hstop (Nat.le_refl _), ?_⟩
      have e2 : en1 = eE := by
        unfold compL at p1
        exact Option.some.inj p1
      subst e2
      have sE : Sv X.K TT gh al1 { en1 with sl := e0.sl } F1 σ H1 := s1.reslot s0.len fun j r ej => by
        obtain ⟨v, f1, f2⟩ := s0.slots j r ej
        exact ⟨v, f1, f2.mono (lD.trans l1)⟩
      exact p0.at (lD.trans l1) sE (.ref D) ⟨D, pre_get l1.a eD, rfl⟩
variable {elt iter : Expr} {ifs : List Expr} {scope : Scope} {own : List (Str × Nat)} {f : M (List PyData)} {h : Rv → En → Option En} {gt : M Bool} {fe : M Rv} {ws : List Nat}
theorem pd_lc (own : List (Str × Nat)) (hc : X.calm = true) (hN : X.N.Nodup) (hi : PID X TT W tg iter f) (ok : BlkOk X.N X.env.scope scope own) (hg : ∀ z, PGD (Bk X scope z) TT tg h ws) (ht : ∀ z, PTsD (Bk X scope z) TT ifs gt) (he : ∀ z, PD (Bk X scope z) TT W0 elt fe) (hws : ∀ i, i ∈ ws → i ∈ own.map (·.2) := by decide)
    (hs : ∀ x, foldedSetIterable iter X.env x = pure x := by intro _; rfl) : PD X TT W (.ListComp elt [⟨tg, iter, ifs, 0⟩] scope pos) (bnd f (compM (own.map (·.2)) h gt fe)) := by
  obtain ⟨wi, g, tt, te, pw, pg, ptt, pte, q⟩ := comp_core hi hg hws ht he
  exact ⟨⟨_, pe_lc hc hN pw ok (fun s H C cl fp => pg (s, H, C, cl, fp)) (fun s H C cl fp => ptt (s, H, C, cl, fp)) (fun s H C cl fp => pte (s, H, C, cl, fp)) hs, q⟩⟩
theorem sd_setLc (i : Nat) (own : List (Str × Nat)) {y : Str} {py : Pos} {spos : Pos} (hc : X.calm = true) (hN : X.N.Nodup) (hsw : swapsWith (.ListComp elt [⟨tg, iter, ifs, 0⟩] scope pos) (some (.Name y py)) spos.line X.env = pure true) (hi : PID X TT W tg iter f) (ok : BlkOk X.N X.env.scope scope own)
    (hg : ∀ z, PGD (Bk X scope z) TT tg h ws) (ht : ∀ z, PTsD (Bk X scope z) TT ifs gt) (he : ∀ z, PD (Bk X scope z) TT W0 elt fe) (hws : ∀ i, i ∈ ws → i ∈ own.map (·.2) := by decide)
    (hy : X.N[i]? = some y := by rfl) (hyl : X.env.scope.names.lookup y = some .local := by rfl) (hs : ∀ x, foldedSetIterable iter X.env x = pure x := by intro _; rfl) :
    PSD X TT W (.Assign [.Name y py] (.ListComp elt [⟨tg, iter, ifs, 0⟩] scope pos) spos) (bnd (bnd f (compM (own.map (·.2)) h gt fe)) (asg (setM i))) := by
  obtain ⟨wi, g, tt, te, pw, pg, ptt, pte, q⟩ := comp_core hi hg hws ht he
  refine ⟨⟨_, ps_setLc hc hN hy hyl hsw pw ok (fun s H C cl fp => pg (s, H, C, cl, fp)) (fun s H C cl fp => ptt (s, H, C, cl, fp)) (fun s H C cl fp => pte (s, H, C, cl, fp)) hs, fun gh al en F σ H D s hh => ?_⟩⟩
  exact q gh al en F σ H _ s (hh.seq fun r e F' al' H' l s2 p v hv => p.next (Le.refl _ _) (s2.setS hv))
end
end Pd

namespace Pd
open PySem PySem.Spec PyProof.Rows L2
variable [Lams]
/-! ## defs -/
theorem frz_ok {K : PySem.W.Frag} {TT : Tt} {g : Gh} {al : List Addr} {en e' : En} {F : Hp} {σ : L2.St} {H : Hp} {r : Rv} {v : V} {d : PyData} (s : Sv K TT g al en F σ H) (h : RvR K F al v r) (e : frz r en = .ok d e') :
    ∃ F', Sv K TT g al e' F' σ H ∧ Le F al F' al ∧ Dp K F' v d := by
  have hp : Post K TT (fun _ _ _ _ => True) g F al σ (bnd (frz r) ret en) (fun d' e'' _ _ _ => d' = d ∧ e'' = e') := by
    unfold bnd
    rw [e]
    exact fun F' al' H' _ _ => ⟨rfl, rfl⟩
  obtain ⟨d2, e2, F2, s2, l2, dd, p2⟩ := frz_seq s h hp
  obtain ⟨rfl, rfl⟩ := p2.here s2
  exact ⟨F2, s2, l2, dd⟩
/-- the slots at a def's start -/
def slots0 (n : Nat) (ds : List PyData) : List (Option Rv) := ds.map (fun d => some (.dat d)) ++ List.replicate (n - ds.length) none
/-- a def upon plain data: np its parameters, n its names -/
def runD (np n : Nat) (G : M Fl) (ds : List PyData) : Res := if ds.length = np then (match G { sl := slots0 n ds, ob := [] } with
  | .ok .nx _ => .ok .none
  | .ok (.ret r) e => (match frz r e with
    | .ok d _ => .ok d
    | _ => .bad)
  | .exc x _ => .exc x
  | _ => .bad) else .bad
/-- .. lent a list -/
def rowOf (e : En) : Option (List PyData) := match e.ob[0]? with
  | some (Oc.lst rs) => dats rs
  | _ => none
def runR (np n : Nat) (G : M Fl) (rows ds : List PyData) : RRes := if ds.length + 1 = np then (match G { sl := some (.own 0) :: slots0 (n - 1) ds, ob := [.lst (rows.map Rv.dat)] } with
  | .ok .nx e => (match rowOf e with
    | some rows' => .ok .none rows'
    | none => .bad)
  | .ok (.ret r) e => (match frz r e with
    | .ok d e' => (match rowOf e' with
      | some rows' => .ok d rows'
      | none => .bad)
    | _ => .bad)
  | .exc x e => (match rowOf e with
    | some rows' => .exc x rows'
    | none => .bad)
  | _ => .bad) else .bad
theorem start_slots {K : PySem.W.Frag} {TT : Tt} {F : Hp} {al : List Addr} {N : List Str} {vs : List V} {ds : List PyData} (h : DpAll K F vs ds) : (L2.start N vs).length = (slots0 N.length ds).length ∧ ∀ (i : Nat) (r : Rv), (slots0 N.length ds)[i]? = some (some r) → ∃ v, (L2.start N vs)[i]? = some (some v) ∧ SlR K TT F al v r := by
  have hl := dpAll_len h
  refine ⟨by simp [L2.start, slots0, hl], fun i r e => ?_⟩
  unfold slots0 at e
  unfold L2.start
  by_cases hi : i < ds.length
  · rw [List.getElem?_append_left (by simpa using hi), List.getElem?_map] at e
    rw [List.getElem?_append_left (by simpa [hl] using hi), List.getElem?_map]
    cases q : ds[i]? with
    | none => rw [q] at e; cases e
    | some d =>
      rw [q] at e
      cases e
      obtain ⟨v, e1, e2⟩ := dpAll_get h q
      exact ⟨v, by rw [e1]; rfl, e2⟩
  · rw [List.getElem?_append_right (by simpa using hi)] at e
    by_cases hr : i - (List.map (fun d => some (Rv.dat d)) ds).length < N.length - ds.length
    · rw [List.getElem?_replicate_of_lt hr] at e; cases e
    · rw [List.getElem?_eq_none (by simpa using hr)] at e; cases e
section
variable {P : Program} {w : World} {K : PySem.W.Frag} {mg : Str → Option Value} {base : Heap} {TT : Tt} {x qual : Str} {params : Arguments} {body : List Stmt} {scope : Scope} {f : Addr} {fd : FuncData} {N ps : List Str} {k : Nat} {G : M Fl}
theorem Sv.start {F H : Hp} {vs : List V} {ds : List PyData} (h1 : Same F H) (h2 : Tabs TT F H) (h3 : DpAll K F vs ds) : Sv K TT ⟨F, H, fun _ => False⟩ [] { sl := slots0 N.length ds, ob := [] } F (L2.start N vs) H where
  sub := h1
  frF := Same.refl _
  nF := fun b hb => .inl hb
  frame := fun b o e _ _ => e
  tabs := h2
  len := (start_slots (TT := TT) (al := []) (N := N) h3).1
  slots := (start_slots (TT := TT) (al := []) (N := N) h3).2
  alen := rfl
  objs := fun k a oc e _ => by simp at e
  anew := fun k a e => by simp at e
  bin := fun b hb => hb.elim
  anod := List.nodup_nil
  atab := fun a ha => by cases ha
theorem Sv.toFr {F H F' H' : Hp} {al : List Addr} {en : En} {σ : L2.St} (s : Sv K TT ⟨F, H, fun _ => False⟩ al en F' σ H') : Fr TT F H F' H' where
  f := s.frF
  sub := s.sub
  tabs := s.tabs
  keep := fun b o e nt => s.frame b o e nt fun z => z
  new := fun b hb => by
    rcases s.nF b hb with z | z | z
    · exact .inl z
    · exact .inr z
    · exact z.elim
theorem okc {CX : CXT} {sp : Sp} (F : FunD K x qual params body scope [] [] f fd) (S : FnScope N ps scope) (len : ∀ vs H Q E, sp vs H Q E → vs.length = ps.length)
    (hbody : ∀ (A : Around) (outer : List Env) (s : Shared) (H : Hp) (vs : List V) (Q : VK) (E : XK), Room k (A.deeper (envOfC qual scope s.heap.objs.size f fd.code)) → sp vs H Q E →
      ∃ t, PSs (cxOf CX P w K mg base N qual scope f fd.code A outer s H E) body t ∧ t { nx := fun _ H' => Q .non H', rt := Q } (L2.start N vs) H) : FnOk P w K mg base CX (k + 1) f fd ps sp := by
  obtain ⟨oc, od, dV, kV, doc, pm, an, cdv, ct, osl, rfl, lk, hcd, _, _⟩ := F.ex
  exact fn_of lk hcd S len fun A outer s H vs Q E hr hsp => hbody A outer s H vs Q E hr hsp
/-- the context of a def's body -/
abbrev Cb (P : Program) (w : World) (K : PySem.W.Frag) (mg : Str → Option Value) (base : Heap) (N : List Str) (qual : Str) (scope : Scope) (f : Addr) (z : Value × Around × List Env × Shared × Hp) (E : XK) : Cx := cxOf (L2.CX P w) P w K mg base N qual scope f z.1 z.2.1 z.2.2.1 z.2.2.2.1 z.2.2.2.2 E
theorem okD (Fd : FunD K x qual params body scope [] [] f fd) (S : FnScope N ps scope) (hG : ∀ z E, Room k (z.2.1.deeper (envOfC qual scope z.2.2.2.1.heap.objs.size f z.1)) → z.1 = fd.code → PSsD (Cb P w K mg base N qual scope f z E) TT (fun cls d _ H => E cls d H) body G) :
    FnOk P w K mg base (L2.CX P w) (k + 1) f fd ps (spD K TT (runD ps.length N.length G)) := by
  refine okc Fd S (fun vs H Q E h => ?_) (fun A outer s H vs Q E hr h => ?_)
  · obtain ⟨F, ds, _, _, h3, h4⟩ := h
    by_cases e : ds.length = ps.length
    · rw [dpAll_len h3]; exact e
    · unfold runD at h4
      rw [if_neg e] at h4
      exact h4.elim
  · obtain ⟨F, ds, h1, h2, h3, h4⟩ := h
    obtain ⟨⟨t, pt, q⟩⟩ := hG (fd.code, A, outer, s, H) E hr rfl
    refine ⟨t, pt, q ⟨F, H, fun _ => False⟩ [] { sl := slots0 N.length ds, ob := [] } F (L2.start N vs) H _ (Sv.start h1 h2 h3) ?_⟩
    unfold runD at h4
    by_cases e0 : ds.length = ps.length
    · rw [if_pos e0] at h4
      cases qg : G { sl := slots0 N.length ds, ob := [] } with
      | bad => rw [qg] at h4; exact h4.elim
      | exc x e =>
        rw [qg] at h4
        exact fun F' al' σ' H' cls dO l s2 hx => h4 cls dO F' H' s2.toFr hx
      | ok fl e =>
        rw [qg] at h4
        cases fl with
        | brk => exact h4.elim
        | cnt => exact h4.elim
        | nx => exact fun F' al' σ' H' l s2 => h4 .non F' H' s2.toFr .non
        | ret r =>
          simp only at h4
          intro v F' al' σ' H' l s2 hv
          cases qf : frz r e with
          | bad => rw [qf] at h4; exact h4.elim
          | exc _ _ => rw [qf] at h4; exact h4.elim
          | ok d e2 =>
            rw [qf] at h4
            obtain ⟨F3, s3, l3, d3⟩ := frz_ok s2 hv qf
            exact h4 v F3 H' s3.toFr d3
    · rw [if_neg e0] at h4
      exact h4.elim
theorem Sv.startR {F H : Hp} {a : Addr} {us vs : List V} {n : Str} {rows ds : List PyData} (h1 : Same F H) (h2 : Tabs TT F H) (hF : F a = none) (hT : ¬ TT a) (hH : H a = some (.lst us)) (hu : DpAll K F us rows) (h3 : DpAll K F vs ds) :
    Sv K TT ⟨F, H, fun b => b = a⟩ [a] { sl := some (.own 0) :: slots0 N.length ds, ob := [.lst (rows.map Rv.dat)] } F (L2.start (n :: N) (.ref a :: vs)) H where
  sub := h1
  frF := Same.refl _
  nF := fun b hb => .inl hb
  frame := fun b o e _ _ => e
  tabs := h2
  len := by
    have e : L2.start (n :: N) (V.ref a :: vs) = some (V.ref a) :: L2.start N vs := by simp [L2.start]
    rw [e, List.length_cons, List.length_cons, (start_slots (TT := TT) (al := [a]) (N := N) h3).1]
  slots := fun i r e => by
    have e2 : L2.start (n :: N) (V.ref a :: vs) = some (V.ref a) :: L2.start N vs := by simp [L2.start]
    rw [e2]
    cases i with
    | zero =>
      simp only [List.getElem?_cons_zero, Option.some.injEq] at e
      subst e
      exact ⟨.ref a, rfl, a, rfl, rfl⟩
    | succ j =>
      rw [List.getElem?_cons_succ] at e ⊢
      exact (start_slots (TT := TT) (al := [a]) (N := N) h3).2 j r e
  alen := rfl
  objs := fun k b oc e1 e2 => by
    cases k with
    | succ j => simp at e1
    | zero =>
      simp only [List.getElem?_cons_zero, Option.some.injEq] at e1 e2
      subst e1 e2
      exact ⟨hF, us, hH, rvAll_dat hu⟩
  anew := fun k b e => by
    cases k with
    | succ j => simp at e
    | zero =>
      simp only [List.getElem?_cons_zero, Option.some.injEq] at e
      exact .inr e.symm
  bin := fun b hb => List.mem_singleton.mpr hb
  anod := by simp
  atab := fun b hb => by
    have e : b = a := by simpa using hb
    rw [e]; exact hT
theorem Sv.toFrR {F H F' H' : Hp} {a : Addr} {al : List Addr} {en : En} {σ : L2.St} {rows' : List PyData} (s : Sv K TT ⟨F, H, fun b => b = a⟩ al en F' σ H') (ha : al[0]? = some a) (hr : rowOf en = some rows') :
    FrR TT a F H F' H' ∧ ∃ us', H' a = some (.lst us') ∧ DpAll K F' us' rows' := by
  unfold rowOf at hr
  split at hr
  · rename_i rs eo
    obtain ⟨fn, us, hus, hra⟩ := s.lst ha eo
    refine ⟨⟨s.frF, s.sub, s.tabs, fun b o e nt ne => s.frame b o e nt ne, fun b hb => ?_⟩, us, hus, rvAll_dats hra hr⟩
    rcases s.nF b hb with z | z | z
    · exact .inl z
    · exact .inr z
    · have z : b = a := z
      rw [z] at hb
      exact absurd fn hb
  · cases hr
theorem okR {n : Str} {N ps : List Str} (Fd : FunD K x qual params body scope [] [] f fd) (S : FnScope (n :: N) ps scope) (hG : ∀ z E, Room k (z.2.1.deeper (envOfC qual scope z.2.2.2.1.heap.objs.size f z.1)) → z.1 = fd.code → PSsD (Cb P w K mg base (n :: N) qual scope f z E) TT (fun cls d _ H => E cls d H) body G) :
    FnOk P w K mg base (L2.CX P w) (k + 1) f fd ps (spR K TT (runR ps.length (N.length + 1) G)) := by
  refine okc Fd S (fun vs H Q E h => ?_) (fun A outer s H vs Q E hr h => ?_)
  · obtain ⟨F, a, us, rows, ws, ds, rfl, _, _, _, _, _, _, h3, h4⟩ := h
    by_cases e : ds.length + 1 = ps.length
    · rw [List.length_cons, dpAll_len h3]; exact e
    · unfold runR at h4
      rw [if_neg e] at h4
      exact h4.elim
  · obtain ⟨F, a, us, rows, ws, ds, rfl, h1, h2, hF, hT, hH, hu, h3, h4⟩ := h
    obtain ⟨⟨t, pt, q⟩⟩ := hG (fd.code, A, outer, s, H) E hr rfl
    refine ⟨t, pt, q ⟨F, H, fun b => b = a⟩ [a] { sl := some (.own 0) :: slots0 N.length ds, ob := [.lst (rows.map Rv.dat)] } F (L2.start (n :: N) (.ref a :: ws)) H _ (Sv.startR h1 h2 hF hT hH hu h3) ?_⟩
    unfold runR at h4
    rw [Nat.add_sub_cancel] at h4
    by_cases e0 : ds.length + 1 = ps.length
    · rw [if_pos e0] at h4
      cases qg : G { sl := some (.own 0) :: slots0 N.length ds, ob := [.lst (rows.map Rv.dat)] } with
      | bad => rw [qg] at h4; exact h4.elim
      | exc x e =>
        rw [qg] at h4
        simp only at h4
        cases qr : rowOf e with
        | none => rw [qr] at h4; exact h4.elim
        | some rows' =>
          rw [qr] at h4
          intro F' al' σ' H' cls dO l s2 hx
          obtain ⟨fr, us', hus', hd'⟩ := s2.toFrR (pre_get l.a rfl) qr
          exact h4 cls dO F' H' us' fr hus' hd' hx
      | ok fl e =>
        rw [qg] at h4
        cases fl with
        | brk => exact h4.elim
        | cnt => exact h4.elim
        | nx =>
          simp only at h4
          cases qr : rowOf e with
          | none => rw [qr] at h4; exact h4.elim
          | some rows' =>
            rw [qr] at h4
            intro F' al' σ' H' l s2
            obtain ⟨fr, us', hus', hd'⟩ := s2.toFrR (pre_get l.a rfl) qr
            exact h4 .non F' H' us' fr hus' hd' .non
        | ret r =>
          simp only at h4
          intro v F' al' σ' H' l s2 hv
          cases qf : frz r e with
          | bad => rw [qf] at h4; exact h4.elim
          | exc _ _ => rw [qf] at h4; exact h4.elim
          | ok d e2 =>
            rw [qf] at h4
            simp only at h4
            cases qr : rowOf e2 with
            | none => rw [qr] at h4; exact h4.elim
            | some rows' =>
              rw [qr] at h4
              obtain ⟨F3, s3, l3, d3⟩ := frz_ok s2 hv qf
              obtain ⟨fr, us', hus', hd'⟩ := s3.toFrR (pre_get l.a rfl) qr
              exact h4 v F3 H' us' fr hus' hd' d3
    · rw [if_neg e0] at h4
      exact h4.elim
end
end Pd

namespace Pd
open PySem PySem.Spec PyProof.Rows L2
variable [Lams]
/-! ## a generator expression's element: straight code, whatever frames run -/
/-- what stands in a state in which such code runs: m its names, cv its captured ones -/
structure RC (K : PySem.W.Frag) (mg : Str → Option Value) (env : Env) (m : Str → Option Value) (cv : List (Str × V)) (tc : List (Addr × List V)) (h : Heap) : Prop where
  kind : env.scope.kind = .function
  gl : env.globals = mainGlobals
  bl : env.builtins = builtinsNs
  ns : h.Ns env.locals m
  kin : K.In h
  glob : h.Ns mainGlobals mg
  blt : ∃ mb, h.Ns builtinsNs mb ∧ ∀ x : Str, x ≠ "__name__" → mb x = bootBuiltins x
  lim : h.NoLimit
  cap : ∀ y v, (y, v) ∈ cv → env.kindOf y = some .free ∧ ∃ c u, env.cells.lookup y = some c ∧ h.IsCell c (some u) ∧ RelV v u
  tup : ∀ p ∈ tc, ∃ its : List Value, Vals p.2 its ∧ h.IsTuple p.1 its.toArray
theorem RC.up {K : PySem.W.Frag} {mg : Str → Option Value} {env : Env} {m : Str → Option Value} {cv : List (Str × V)} {tc : List (Addr × List V)} {h h' : Heap} (r : RC K mg env m cv tc h) (k : ∀ b o, h.get? b = some o → h'.get? b = some o) : RC K mg env m cv tc h' :=
  ⟨r.kind, r.gl, r.bl, r.ns.keeps k, r.kin.keeps k, r.glob.keeps k, (let ⟨mb, a, b⟩ := r.blt; ⟨mb, a.keeps k, b⟩), r.lim.keeps k, fun y v hm => by
    obtain ⟨a, c, u, e, ⟨o, ho, hd⟩, q⟩ := r.cap y v hm
    exact ⟨a, c, u, e, ⟨o, k _ _ ho, hd⟩, q⟩, fun p hp => by
    obtain ⟨its, q, t⟩ := r.tup p hp
    exact ⟨its, q, t.at fun o e => k _ _ e⟩⟩
def RE (P : Program) (w : World) (K : PySem.W.Frag) (mg : Str → Option Value) (D U : Nat) (env : Env) (m : Str → Option Value) (cv : List (Str × V)) (tc : List (Addr × List V)) (e : Expr) (p : Value → Prop) : Prop :=
  ∀ (A : Around) (E : Value → Shared → Prop) (s : Shared), A.handled = none → A.depth ≤ D → A.units ≤ U → RC K mg env m cv tc s.heap → wpAny (model P w) A (eval e env) (fun u s' => p u ∧ Keeps s s') E s
theorem kp_refl (s : Shared) : Keeps s s := ⟨s.heap, s.toks, rfl, fun _ _ e => e⟩
theorem kp_tok (s : Shared) (t : Nat) : Keeps s { s with toks := t } := ⟨s.heap, t, rfl, fun _ _ e => e⟩
theorem kp_trans {s s1 s2 : Shared} (a : Keeps s s1) (b : Keeps s1 s2) : Keeps s s2 := by
  obtain ⟨h1, t1, rfl, k1⟩ := a
  obtain ⟨h2, t2, rfl, k2⟩ := b
  exact ⟨h2, t2, rfl, fun c o e => k2 c o (k1 c o e)⟩
theorem kp_heap {s s' : Shared} (a : Keeps s s') : ∀ b o, s.heap.get? b = some o → s'.heap.get? b = some o := by
  obtain ⟨h1, t1, rfl, k1⟩ := a
  exact k1
section
variable {P : Program} {w : World} {K : PySem.W.Frag} {mg : Str → Option Value} {D U : Nat} {env : Env} {m : Str → Option Value} {cv : List (Str × V)} {tc : List (Addr × List V)} {a b c : Expr} {pos : Pos} {p q : Value → Prop}
theorem mono3 {α : Type} {M : Model} {A : Around} {t : Sem α} {Q Q' : α → Shared → Prop} {E : Value → Shared → Prop} {s : Shared} (h : wpAny M A t Q E s) (i : ∀ a s, Q a s → Q' a s) : wpAny M A t Q' E s := wpAny_mono h i fun _ _ x => x
theorem re_loc {x : Str} {u : Value} (hk : env.kindOf x = some .local) (hm : m x = some u) (hp : p u) (hd : (x == ("__debug__" : Str)) = false := by decide) : RE P w K mg D U env m cv tc (.Name x pos) p :=
  fun A E s _ _ _ r => wpAny_Name (wpAny_loadName_local r.kind hk r.ns hm ⟨hp, kp_refl s⟩) hd
theorem re_cap {x : Str} {v : V} (hm : (x, v) ∈ cv) (hp : ∀ u, RelV v u → p u) (hd : (x == ("__debug__" : Str)) = false := by decide) (hcd : (x == ("__classdict__" : Str)) = false := by decide) : RE P w K mg D U env m cv tc (.Name x pos) p :=
  fun A E s _ _ _ r => by
    obtain ⟨hk, cc, u, e, hc, q⟩ := r.cap x v hm
    exact wpAny_Name (wpAny_loadName_free r.kind hk e hc ⟨hp u q, kp_refl s⟩ hcd) hd
theorem re_int {i : Int} {j} : RE P w K mg D U env m cv tc (.Constant (.int i) j pos) (fun u => ∃ t, u = .int i t) :=
  fun A E s _ _ _ r => wpAny_Constant_int ⟨⟨_, rfl⟩, kp_tok s _⟩
/-- two in a row -/
theorem re_two {f : Value → Value → Sem Value} {A : Around} {E : Value → Shared → Prop} {s : Shared} {Q : Value → Shared → Prop} (h1 : A.handled = none) (h2 : A.depth ≤ D) (h3 : A.units ≤ U) (r : RC K mg env m cv tc s.heap) (ha : RE P w K mg D U env m cv tc a p) (hb : RE P w K mg D U env m cv tc b q)
    (hf : ∀ u v s', p u → q v → Keeps s s' → wpAny (model P w) A (f u v) Q E s') :
    wpAny (model P w) A (eval a env) (fun u s1 => wpAny (model P w) A (eval b env) (fun v s2 => wpAny (model P w) A (f u v) Q E s2) E s1) E s := by
  refine mono3 (ha A E s h1 h2 h3 r) fun u s1 ⟨pu, k1⟩ => ?_
  refine mono3 (hb A E s1 h1 h2 h3 (r.up (kp_heap k1))) fun v s2 ⟨pv, k2⟩ => ?_
  exact hf u v s2 pu pv (kp_trans k1 k2)
theorem re_sub {i j : Int} (ha : RE P w K mg D U env m cv tc a (fun u => ∃ t, u = .int i t)) (hb : RE P w K mg D U env m cv tc b (fun u => ∃ t, u = .int j t)) : RE P w K mg D U env m cv tc (.BinOp a .Sub b pos) (fun u => ∃ t, u = .int (i - j) t) :=
  fun A E s h1 h2 h3 r => wpAny_BinOp (re_two h1 h2 h3 r ha hb fun u v s' ⟨t, e1⟩ ⟨t', e2⟩ k => by
    subst e1 e2
    exact sub_int ⟨⟨_, rfl⟩, kp_trans k (kp_tok s' _)⟩)
theorem re_cmp {op : CmpOp} {i j : Int} {f : Int → Int → Bool} (rule : ∀ (A : Around) (E : Value → Shared → Prop) (t u : Tok) (Q : Value → Shared → Prop) (s : Shared), Q (.bool (f i j)) s → wpAny (model P w) A (compareOp op (.int i t) (.int j u)) Q E s) (hm : behindInMarks op b = false)
    (ha : RE P w K mg D U env m cv tc a (fun u => ∃ t, u = .int i t)) (hb : RE P w K mg D U env m cv tc b (fun u => ∃ t, u = .int j t)) : RE P w K mg D U env m cv tc (.Compare a [op] [b] pos) (fun u => u = .bool (f i j)) :=
  fun A E s h1 h2 h3 r => wpAny_Compare1 (re_two h1 h2 h3 r ha hb fun u v s' ⟨t, e1⟩ ⟨t', e2⟩ k => by
    subst e1 e2
    exact rule A E t t' _ s' ⟨rfl, k⟩) hm
theorem re_lt {i j : Int} (ha : RE P w K mg D U env m cv tc a (fun u => ∃ t, u = .int i t)) (hb : RE P w K mg D U env m cv tc b (fun u => ∃ t, u = .int j t)) : RE P w K mg D U env m cv tc (.Compare a [.Lt] [b] pos) (fun u => u = .bool (decide (i < j))) :=
  re_cmp (f := fun i j => decide (i < j)) (fun _ _ _ _ _ _ h => lt_int h) (nomark _) ha hb
theorem re_le {i j : Int} (ha : RE P w K mg D U env m cv tc a (fun u => ∃ t, u = .int i t)) (hb : RE P w K mg D U env m cv tc b (fun u => ∃ t, u = .int j t)) : RE P w K mg D U env m cv tc (.Compare a [.LtE] [b] pos) (fun u => u = .bool (decide (i ≤ j))) :=
  re_cmp (f := fun i j => decide (i ≤ j)) (fun _ _ _ _ _ _ h => le_int h) (nomark _) ha hb
/-- x != a number, x of a flat kind -/
theorem re_and {k l : Bool} {rest : List Expr} (ha : RE P w K mg D U env m cv tc a (fun u => u = .bool k)) (hb : k = true → RE P w K mg D U env m cv tc (.BoolOp .And (b :: rest) pos) (fun u => u = .bool l)) :
    RE P w K mg D U env m cv tc (.BoolOp .And (a :: b :: rest) pos) (fun u => u = .bool (k && l)) :=
  fun A E s h1 h2 h3 r => BoolOp_and (mono3 (ha A E s h1 h2 h3 r) fun u s1 ⟨e, k1⟩ => by
    subst e
    refine wpAny_truthy_bool ?_
    cases k with
    | true => exact mono3 (hb rfl A E s1 h1 h2 h3 (r.up (kp_heap k1))) fun v s2 ⟨e2, k2⟩ => ⟨by rw [e2]; rfl, kp_trans k1 k2⟩
    | false => exact ⟨rfl, k1⟩)
theorem re_one {op} (ha : RE P w K mg D U env m cv tc a p) : RE P w K mg D U env m cv tc (.BoolOp op [a] pos) p := fun A E s h1 h2 h3 r => BoolOp_one (ha A E s h1 h2 h3 r)
theorem re_not {k : Bool} (ha : RE P w K mg D U env m cv tc a (fun u => u = .bool k)) : RE P w K mg D U env m cv tc (.UnaryOp .Not a pos) (fun u => u = .bool (!k)) :=
  fun A E s h1 h2 h3 r => UnaryOp_ (mono3 (ha A E s h1 h2 h3 r) fun u s1 ⟨e, k1⟩ => by
    subst e
    exact not_of (wpAny_truthy_bool ⟨rfl, k1⟩))
theorem re_chain {i j l : Int} (ha : RE P w K mg D U env m cv tc a (fun u => ∃ t, u = .int i t)) (hb : RE P w K mg D U env m cv tc b (fun u => ∃ t, u = .int j t)) (hc : RE P w K mg D U env m cv tc c (fun u => ∃ t, u = .int l t))
    (hm : lastMarks [.LtE, .LtE] [b, c] = false := by with_unfolding_all rfl) : RE P w K mg D U env m cv tc (.Compare a [.LtE, .LtE] [b, c] pos) (fun u => u = .bool (decide (i ≤ j) && decide (j ≤ l))) :=
  fun A E s h1 h2 h3 r => by
    refine Compare_chain (mono3 (ha A E s h1 h2 h3 r) fun u s1 ⟨⟨t, e⟩, k1⟩ => ?_) hm
    subst e
    have r1 := r.up (kp_heap k1)
    refine chain_link (mono3 (hb A E s1 h1 h2 h3 r1) fun v s2 ⟨⟨t2, e2⟩, k2⟩ => ?_)
    subst e2
    refine le_int (wpAny_truthy_bool ?_)
    have r2 := r1.up (kp_heap k2)
    by_cases hij : i ≤ j
    · rw [decide_eq_true hij]
      refine ite_tt (chain_last (mono3 (hc A E s2 h1 h2 h3 r2) fun v s3 ⟨⟨t3, e3⟩, k3⟩ => ?_))
      subst e3
      exact le_int ⟨by rw [Bool.true_and], kp_trans k1 (kp_trans k2 k3)⟩
    · rw [decide_eq_false hij]
      exact ite_ff ⟨rfl, kp_trans k1 k2⟩
/-- a flat value's type -/
def tyV (v : V) : String := match v with
  | .non => "NoneType"
  | .bl _ => "bool"
  | .int _ => "int"
  | _ => "str"
theorem kit_flat {v : V} {u : Value} (f : flatV v = true) (r : RelV v u) : ∃ H, PySem.W.KitX K u (.type (tyV v)) H ∧ (∀ h, H h) ∧ ∀ z, u ≠ .builtin z := by
  cases v with
  | non => cases r; exact ⟨_, PySem.W.kitx_none, fun _ => True.intro, fun _ z => nomatch z⟩
  | bl y => cases r; exact ⟨_, PySem.W.kitx_bool, fun _ => True.intro, fun _ z => nomatch z⟩
  | int i => obtain ⟨t, q⟩ := r; cases q; exact ⟨_, PySem.W.kitx_int, fun _ => True.intro, fun _ z => nomatch z⟩
  | str y => obtain ⟨t, q⟩ := r; cases q; exact ⟨_, PySem.W.kitx_str, fun _ => True.intro, fun _ z => nomatch z⟩
  | _ => cases f
theorem re_isi {v : V} {y : Str} {n : String} {k : Bool} {p1 p2 : Pos} (f : flatV v = true) (hg : env.kindOf "isinstance" = some .globalImplicit) (hm : mg "isinstance" = none) (hgy : env.kindOf y = some .globalImplicit) (hmy : mg y = none) (hv : bootBuiltins y = some (.type n)) (hk : kitB (tyV v) n = some k)
    (ha : RE P w K mg D U env m cv tc a (RelV v)) (hny : y ≠ "__name__" := by decide) (hdy : (y == ("__debug__" : Str)) = false := by decide)
    (he : starEach [a, .Name y p2] env = (false, eval a env) :: starEach [.Name y p2] env := by rfl) (he2 : starEach [.Name y p2] env = (false, eval (.Name y p2) env) :: starEach [] env := by rfl) (hpl : (backTo pos (starEach [.Name y p2] env)).any (·.1) = false := by rfl) :
    RE P w K mg D U env m cv tc (.Call (.Name "isinstance" p1) [a, .Name y p2] [] pos) (fun u => u = .bool k) := fun A E s h1 h2 h3 r => by
  obtain ⟨mb, hb, hbb⟩ := r.blt
  refine wpAny_Call_Name_kw (Calls.Name_function_global r.kind hg (Calls.loadGlobal_builtin (by rw [r.gl]; exact r.glob) hm (by rw [r.bl]; exact hb) ((hbb _ (by decide)).trans boot_isinstance) ?_))
  refine PyProof.Rows.callWith_builtin1 ?_ he hpl
  rw [he]
  show wpAny _ _ (spliced ((false, eval a env) :: backTo pos (starEach [.Name y p2] env))) _ _ s
  refine Calls.spliced_cons (mono3 (ha A E s h1 h2 h3 r) fun u s1 ⟨ru, k1⟩ => ?_)
  rw [he2]
  show wpAny _ _ (spliced ((false, eval (.Name y p2) env) :: backTo pos (starEach [] env))) _ _ s1
  have r1 := r.up (kp_heap k1)
  obtain ⟨mb1, hb1, hbb1⟩ := r1.blt
  refine Calls.spliced_cons (Calls.Name_function_global r1.kind hgy (Calls.loadGlobal_builtin (by rw [r1.gl]; exact r1.glob) hmy (by rw [r1.bl]; exact hb1) ((hbb1 _ hny).trans hv) ?_) hdy)
  refine Calls.spliced_nil ?_
  obtain ⟨H, Z, hH, hx⟩ := kit_flat (K := K) f ru
  exact PySem.W.kia_one Z r1.kin (hH _) (kit_ty hk) (hx _) fun tk => ⟨rfl, kp_trans k1 (kp_tok s1 tk)⟩
theorem kb_ii : kitB "int" "int" = some true := by decide +kernel
theorem kb_ib : kitB "int" "bool" = some false := by decide +kernel
theorem kb_bi : kitB "bool" "int" = some true := by decide +kernel
theorem kb_bb : kitB "bool" "bool" = some true := by decide +kernel
theorem kb_ni : kitB "NoneType" "int" = some false := by decide +kernel
theorem kb_nb : kitB "NoneType" "bool" = some false := by decide +kernel
theorem kb_si : kitB "str" "int" = some false := by decide +kernel
theorem kb_sb : kitB "str" "bool" = some false := by decide +kernel
/-- is_number's answer -/
def isNumV (v : V) (lo hi : Int) : Bool := match v with
  | .int i => decide (lo ≤ i) && decide (i ≤ hi)
  | _ => false
/-- is_number(e, lo, hi), the def as the program has it -/
theorem re_isnum {v : V} {lo hi : Int} {f : Addr} {x qual : Str} {params : Arguments} {body : List Stmt} {scope : Scope} {fd : FuncData} {p1 p2 p3 p4 p5 p6 p7 p8 p9 p10 p11 p12 p13 p14 p15 p0 : Pos} (Fd : FunD K x qual params body scope [] [] f fd)
    (hbody : body = [.Return (some (.BoolOp .And [.Call (.Name "isinstance" p1) [.Name "value" p2, .Name "int" p3] [] p4, .UnaryOp .Not (.Call (.Name "isinstance" p5) [.Name "value" p6, .Name "bool" p7] [] p8) p9, .Compare (.Name "low" p10) [.LtE, .LtE] [.Name "value" p11, .Name "high" p12] p13] p14)) p15])
    (S : FnScope ["value", "low", "high"] ["value", "low", "high"] scope) (hb : Binds K fd ["value", "low", "high"] []) (hl : ∀ y ∈ (["value", "low", "high"] : List Str), scope.names.lookup y = some .local)
    (hgl : ∀ y ∈ (["isinstance", "int", "bool"] : List Str), scope.names.lookup y = some .globalImplicit) (hm1 : mg "isinstance" = none) (hm2 : mg "int" = none) (hm3 : mg "bool" = none)
    (fl : flatV v = true) (hD : D + 1 < recursionLimit) (hg : env.kindOf "is_number" = some .globalImplicit) (hm : mg "is_number" = some (.ref f))
    (ha : RE P w K mg D U env m cv tc a (RelV v)) (hlo : RE P w K mg D U env m cv tc b (fun u => ∃ t, u = .int lo t)) (hhi : RE P w K mg D U env m cv tc c (fun u => ∃ t, u = .int hi t))
    (he : starEach [a, b, c] env = (false, eval a env) :: starEach [b, c] env := by rfl) (he2 : starEach [b, c] env = (false, eval b env) :: starEach [c] env := by rfl) (he3 : starEach [c] env = (false, eval c env) :: starEach [] env := by rfl) (hpl : (backTo pos (starEach [b, c] env)).any (·.1) = false := by rfl) :
    RE P w K mg D U env m cv tc (.Call (.Name "is_number" p0) [a, b, c] [] pos) (fun u => u = .bool (isNumV v lo hi)) := fun A E s h1 h2 h3 r => by
  have hkp := Fd.kp
  obtain ⟨oc, od, dV, kV, doc, pm, an, cdv, ct, osl, rfl, lk, hcd, hdf, hkw⟩ := Fd.ex
  refine wpAny_Call_Name_kw (Calls.Name_function_global r.kind hg (Calls.loadGlobal_global (by rw [r.gl]; exact r.glob) hm ?_))
  refine PySem.W.callWith_K (h₀ := s.heap) r.kin hkp ?_ he hpl
  rw [he]
  show wpAny _ _ (spliced ((false, eval a env) :: backTo pos (starEach [b, c] env))) _ _ s
  refine Calls.spliced_cons (mono3 (ha A E s h1 h2 h3 r) fun u1 s1 ⟨ru, k1⟩ => ?_)
  have r1 := r.up (kp_heap k1)
  rw [he2]
  show wpAny _ _ (spliced ((false, eval b env) :: backTo pos (starEach [c] env))) _ _ s1
  refine Calls.spliced_cons (mono3 (hlo A E s1 h1 h2 h3 r1) fun u2 s2 ⟨⟨t2, e2⟩, k2⟩ => ?_)
  have r2 := r1.up (kp_heap k2)
  rw [he3]
  show wpAny _ _ (spliced ((false, eval c env) :: backTo pos (starEach [] env))) _ _ s2
  refine Calls.spliced_cons (mono3 (hhi A E s2 h1 h2 h3 r2) fun u3 s3 ⟨⟨t3, e3⟩, k3⟩ => ?_)
  have r3 := r2.up (kp_heap k3)
  have k0 := kp_trans k1 (kp_trans k2 k3)
  subst e2 e3
  refine Calls.spliced_nil ⟨r3.kin, ?_⟩
  have hbind := hb s3 [u1, .int lo t2, .int hi t3] r3.kin rfl
  rw [List.append_nil] at hbind
  have hroom : A.depth < recursionLimit := by omega
  refine wpAny_call (Att.call_fn (binds := (["value", "low", "high"] : List Str).zip [u1, .int lo t2, .int hi t3]) r3.kin r3.lim lk hcd hroom hbind ?_ (fun s4 IC => ?_) S.co S.gen S.kind)
  · simp only [List.all_eq_true]
    intro z hz
    have hm : z.1 ∈ (["value", "low", "high"] : List Str) := (List.of_mem_zip hz).1
    rw [hl z.1 hm]
    rfl
  · subst hbody
    have kI := IC.toInCall.keep
    have hn := IC.toInCall.ns
    obtain ⟨h4, t4, e4⟩ := IC.toInCall.same
    have kp4 : Keeps s3 s4 := ⟨h4, t4, e4, by rw [e4] at kI; exact kI⟩
    have hk : ∀ y : Str, (envOfC qual scope s3.heap.objs.size f cdv).kindOf y = scope.names.lookup y := fun _ => rfl
    have ndp : (["value", "low", "high"] : List Str).Nodup := S.nd
    have look : ∀ (i : Nat) (y : Str) (u : Value), (["value", "low", "high"] : List Str)[i]? = some y → ([u1, .int lo t2, .int hi t3] : List Value)[i]? = some u → bindL (envOfC qual scope s3.heap.objs.size f cdv).kindOf ((["value", "low", "high"] : List Str).zip [u1, .int lo t2, .int hi t3]) (fun _ => none) y = some u := fun i y u q1 q2 =>
      bindL_get ndp q1 q2 (by rw [hk]; exact hl y (List.mem_of_getElem? q1))
    have rc : RC K mg (envOfC qual scope s3.heap.objs.size f cdv) (bindL (envOfC qual scope s3.heap.objs.size f cdv).kindOf ((["value", "low", "high"] : List Str).zip [u1, .int lo t2, .int hi t3]) (fun _ => none)) [] [] s4.heap :=
      ⟨S.kind, rfl, rfl, hn, r3.kin.keeps kI, r3.glob.keeps kI, (let ⟨mb, x1, x2⟩ := r3.blt; ⟨mb, x1.keeps kI, x2⟩), r3.lim.keeps kI, (fun y v z => by cases z), (fun p z => by cases z)⟩
    have lval : ∀ {pp : Pos}, RE P w K mg (D + 1) (U + 3) (envOfC qual scope s3.heap.objs.size f cdv) (bindL (envOfC qual scope s3.heap.objs.size f cdv).kindOf ((["value", "low", "high"] : List Str).zip [u1, .int lo t2, .int hi t3]) (fun _ => none)) [] [] (.Name "value" pp) (RelV v) :=
      re_loc (by rw [hk]; exact hl _ (by simp)) (look 0 _ _ rfl rfl) ru
    have llo : ∀ {pp : Pos}, RE P w K mg (D + 1) (U + 3) (envOfC qual scope s3.heap.objs.size f cdv) (bindL (envOfC qual scope s3.heap.objs.size f cdv).kindOf ((["value", "low", "high"] : List Str).zip [u1, .int lo t2, .int hi t3]) (fun _ => none)) [] [] (.Name "low" pp) (fun u => ∃ t, u = .int lo t) :=
      re_loc (by rw [hk]; exact hl _ (by simp)) (look 1 _ _ rfl rfl) ⟨_, rfl⟩
    have lhi : ∀ {pp : Pos}, RE P w K mg (D + 1) (U + 3) (envOfC qual scope s3.heap.objs.size f cdv) (bindL (envOfC qual scope s3.heap.objs.size f cdv).kindOf ((["value", "low", "high"] : List Str).zip [u1, .int lo t2, .int hi t3]) (fun _ => none)) [] [] (.Name "high" pp) (fun u => ∃ t, u = .int hi t) :=
      re_loc (by rw [hk]; exact hl _ (by simp)) (look 2 _ _ rfl rfl) ⟨_, rfl⟩
    have g1 : (envOfC qual scope s3.heap.objs.size f cdv).kindOf "isinstance" = some .globalImplicit := by rw [hk]; exact hgl _ (by simp)
    have g2 : (envOfC qual scope s3.heap.objs.size f cdv).kindOf "int" = some .globalImplicit := by rw [hk]; exact hgl _ (by simp)
    have g3 : (envOfC qual scope s3.heap.objs.size f cdv).kindOf "bool" = some .globalImplicit := by rw [hk]; exact hgl _ (by simp)
    have key : RE P w K mg (D + 1) (U + 3) (envOfC qual scope s3.heap.objs.size f cdv) (bindL (envOfC qual scope s3.heap.objs.size f cdv).kindOf ((["value", "low", "high"] : List Str).zip [u1, .int lo t2, .int hi t3]) (fun _ => none)) [] []
        (.BoolOp .And [.Call (.Name "isinstance" p1) [.Name "value" p2, .Name "int" p3] [] p4, .UnaryOp .Not (.Call (.Name "isinstance" p5) [.Name "value" p6, .Name "bool" p7] [] p8) p9, .Compare (.Name "low" p10) [.LtE, .LtE] [.Name "value" p11, .Name "high" p12] p13] p14) (fun u => u = .bool (isNumV v lo hi)) := by
      cases v with
      | non => exact re_and (k := false) (l := true) (re_isi (n := "int") fl g1 hm1 g2 hm2 boot_int kb_ni lval) (fun z => nomatch z)
      | str y => exact re_and (k := false) (l := true) (re_isi (n := "int") fl g1 hm1 g2 hm2 boot_int kb_si lval) (fun z => nomatch z)
      | bl y => exact re_and (k := true) (l := false) (re_isi (n := "int") fl g1 hm1 g2 hm2 boot_int kb_bi lval) fun _ => re_and (k := false) (l := true) (re_not (k := true) (re_isi (n := "bool") fl g1 hm1 g3 hm3 boot_bool kb_bb lval)) fun z => nomatch z
      | int i =>
        have lval' : ∀ {pp : Pos}, RE P w K mg (D + 1) (U + 3) (envOfC qual scope s3.heap.objs.size f cdv) (bindL (envOfC qual scope s3.heap.objs.size f cdv).kindOf ((["value", "low", "high"] : List Str).zip [u1, .int lo t2, .int hi t3]) (fun _ => none)) [] [] (.Name "value" pp) (fun u => ∃ t, u = .int i t) := lval
        exact re_and (k := true) (l := decide (lo ≤ i) && decide (i ≤ hi)) (re_isi (n := "int") fl g1 hm1 g2 hm2 boot_int kb_ii lval) fun _ => re_and (k := true) (l := decide (lo ≤ i) && decide (i ≤ hi)) (re_not (k := false) (re_isi (n := "bool") fl g1 hm1 g3 hm3 boot_bool kb_ib lval)) fun _ => re_one (re_chain llo lval' lhi)
      | _ => cases fl
    show wpAny _ _ (execs _ _) _ _ _
    refine wpAny_execs_cons (wpAny_Return_some (mono3 (key _ _ s4 h1 (by show A.depth + 1 ≤ D + 1; omega) (by show A.units + 3 ≤ U + 3; omega) rc) fun u s5 ⟨e5, k5⟩ => ?_))
    exact ⟨e5, kp_trans k0 (kp_trans kp4 k5)⟩
end
end Pd

namespace Pd
open PySem PySem.Spec PyProof.Rows L2 GxR
variable [Lams]
/-! ## all, any of a generator expression -/
/-- the generator's names: its own, those captured of the def -/
structure GS (sc scope : Scope) : Prop where
  kind : scope.kind = .function
  co : scope.isCoroutine = false
  cell : ∀ y ∈ scope.names, y.2 ≠ .cell
  dot : scope.names.lookup (".0" : Str) = some NameKind.local
  free : ∀ y ∈ scope.names, y.2 = .free → sc.names.lookup y.1 = some .cell ∨ sc.names.lookup y.1 = some .free
section
variable {X : Cx} {pins : List (Addr × Obj)} {σ : L2.St} {H H1 : Hp} {s s1 : Shared} {P c : Addr} {scope : Scope}
theorem GS.cl (S : GS X.env.scope scope) (I : Inv X pins σ H s) : ∀ y ∈ scope.names, y.2 = .free → ∃ c, X.env.cells.lookup y.1 = some c := fun y hy e => I.ok.has y.1 (S.free y hy e)
/-- what the captured names hold -/
def CapOk (X : Cx) (scope : Scope) (σ : L2.St) (cv : List (Str × V)) : Prop :=
  ∀ y v, (y, v) ∈ cv → scope.names.lookup y = some .free ∧ ∃ i : Nat, X.N[i]? = some y ∧ σ[i]? = some (some v)
theorem gen_rc {cv : List (Str × V)} {tc : List (Addr × List V)} {C : Addr} {code : Value} {h' : Heap} {m : Str → Option Value} (S : GS X.env.scope scope) (I : Inv X pins σ H s) (hP : ∀ b, H b = none → b ≠ P) (hc : CapOk X scope σ cv) (kk : ∀ b o, b ≠ P → s.heap.get? b = some o → h'.get? b = some o) (hn : h'.Ns C m) (htc : ∀ p ∈ tc, ∃ its : List Value, Vals p.2 its ∧ h'.IsTuple p.1 its.toArray) :
    RC X.K X.mg (genEnv scope (cloFrom X.env.cells scope.names []) C code builtinsNs X.env) m cv tc h' := by
  have kb : ∀ b o, X.base.get? b = some o → h'.get? b = some o := fun b o e => kk b o (hP b (I.bs b o e).2) (I.bk b o e)
  obtain ⟨mb, x1, x2⟩ := I.mod.blt
  refine ⟨S.kind, I.ok.glob, rfl, hn, I.mod.kin.keeps kb, I.mod.glob.keeps kb, ⟨mb, x1.keeps kb, x2⟩, I.mod.nolimit.keeps kb, fun y v hm => ?_, htc⟩
  obtain ⟨hf, i, hi, hs⟩ := hc y v hm
  refine ⟨hf, ?_⟩
  have hmem := PySem.mem_of_lookup hf
  have hk := S.free _ hmem rfl
  obtain ⟨mm, _, hl⟩ := I.loc
  obtain ⟨u, r, lk⟩ := hl i y v hi hs (by rcases hk with z | z; exact .inr (.inl z); exact .inr (.inr z))
  rcases lk with ⟨z, _⟩ | ⟨_, cc, e, ic⟩
  · have z' : X.env.scope.names.lookup y = some .local := z
    rcases hk with q | q
    · rw [q] at z'; cases z'
    · rw [q] at z'; cases z'
  · refine ⟨cc, u, NdefX.clo_has (S.cl I) hmem e, ?_, r⟩
    obtain ⟨o, ho, hd⟩ := ic
    exact ⟨o, kk cc o (hP cc (I.freeC y cc e)) ho, hd⟩
/-- the code object: found, or made -/
theorem gen_mid {gpos : Pos} {qn : Str} {h2 : Heap} {R : Value → Addr → Shared → Prop} {ps : Array Value} (TB : TabB X.base X.mg c P) (hcode : X.env.code = .ref c) (I1 : Inv X pins σ H1 s1) (hP : H1 P = some (.tbl ps)) (ht : TriplesOk ps.toList)
    (hk2 : ∀ b o, s1.heap.get? b = some o → h2.get? b = some o)
    (h : ∀ code h4 tk more, (∀ b o, b ≠ P → h2.get? b = some o → h4.get? b = some o) → h2.objs.size ≤ h4.objs.size → h4.get? P = some { cls := .none, data := .fields (ps ++ more) } → TriplesOk (ps ++ more).toList → R code builtinsNs { s1 with heap := h4, toks := tk }) :
    wpAny (model X.prog X.w) X.A (genexprCode X.env gpos qn scope) (fun code s3 => wpAny (model X.prog X.w) X.A (builtinsFor X.env.globals X.env.builtins) (fun bi s4 => R code bi s4) X.xe s3) X.xe { s1 with heap := h2 } := by
  have hP1 : s1.heap.get? P = some { cls := .none, data := .fields ps } := I1.hok P _ hP
  have hP2 : h2.get? P = some { cls := .none, data := .fields ps } := hk2 _ _ hP1
  have cd : PySem.W.CodeHd h2 c P := TB.code.keeps fun b u e => hk2 _ _ (I1.bk b u e)
  obtain ⟨bm, ob, e1, e2, e3, e4, e5, e6, e7, e8⟩ := TB.bm
  have fin : ∀ (code : Value) (h4 : Heap) (tk : Nat) (more : Array Value), (∀ b o, b ≠ P → h2.get? b = some o → h4.get? b = some o) → h2.objs.size ≤ h4.objs.size → h4.get? P = some { cls := .none, data := .fields (ps ++ more) } → TriplesOk (ps ++ more).toList →
      wpAny (model X.prog X.w) X.A (builtinsFor X.env.globals X.env.builtins) (fun bi s4 => R code bi s4) X.xe { s1 with heap := h4, toks := tk } := fun code h4 tk more a1 a2 a3 a4 => by
    have glob4 : h4.Ns mainGlobals X.mg := by
      obtain ⟨o', es, ep, ho, r⟩ := I1.mod.glob
      exact ⟨o', es, ep, a1 _ _ TB.gP (hk2 _ _ (I1.bk _ _ ho)), r⟩
    refine wpAny_builtinsFor (m := X.mg) (by rw [I1.ok.glob]; exact glob4) e1 e2 (a1 _ _ e4 (hk2 _ _ (I1.bk _ _ e5))) e6 e7 e8 ?_
    exact h code h4 tk more a1 a2 a3 a4
  cases hf : codeAmong gpos ps.toList with
  | none =>
    refine wpAny_genexprCodeX (s := { s1 with heap := h2 }) hcode (cd.code hP2 ht) (cd.tab hP2) hf fun c' h' tk hx hge hlt hco' _ htab' _ => ?_
    obtain ⟨o1, vs, f1, tf, fl, tg, inF, tx, tt, op, _, _, _, _, _, _, _, _, _, htr, _⟩ := hco'
    exact fin _ h' tk _ (fun b o nb e => hx b o nb e) (Nat.le_trans hge (Nat.le_of_lt hlt)) htab'.2 htr
  | some cv =>
    refine wpAny_genexprCode_hit (s := { s1 with heap := h2 }) hcode (cd.code hP2 ht) hf ?_
    exact fin cv h2 s1.toks #[] (fun b o _ e => e) (Nat.le_refl _) (by simpa using hP2) (by simpa using ht)
/-- the made generator, ready to be walked -/
def Rdy (X : Cx) (pins : List (Addr × Obj)) (σ : L2.St) (H1 : Hp) (P : Addr) (bs : List Bool) (g : Addr) (s5 : Shared) : Prop :=
  ∃ (fp wr : List Addr) (G : Array GenState → Array GenState → Prop) (F : Nat → Value → Prop) (St : Nat → Shared → Prop),
    WalksS X.prog X.w X.A.in1 g fp wr G bs.length F St ∧ St 0 s5 ∧ TruthOf X.prog X.w X.A.in1 F (fun i => bs.getD i false) ∧ ∀ s', Moved wr G s5 s' → ∃ H2, Tabbed P H1 H2 ∧ Inv X pins σ H2 s'
theorem rdy_of {bs : List Bool} {wr : List Addr} {h4 : Heap} {ps more : Array Value} {g : Addr} {gs : GenState} {h5 : Heap} {tk5 : Nat} {gfp : List Addr} {St : Nat → Shared → Prop} {C gz : Nat} {F : Nat → Value → Prop} (hF : ∀ i y, i < bs.length → F i y → y = .bool (bs.getD i false)) (I1 : Inv X pins σ H1 s1) (hP : H1 P = some (.tbl ps)) (hk4 : ∀ b o, b ≠ P → s1.heap.get? b = some o → h4.get? b = some o) (hP4 : h4.get? P = some { cls := .none, data := .fields (ps ++ more) }) (ht : TriplesOk (ps ++ more).toList)
    (hwr : ∀ b ∈ wr, s1.heap.objs.size ≤ b) (hC : s1.heap.objs.size ≤ C) (hgb : gs.bare = true) (hk5 : ∀ b o, h4.get? b = some o → h5.get? b = some o)
    (W5 : WalksS X.prog X.w X.A.in4 g gfp (C :: wr) (GenOnlyQ gz) (passing (fun _ => true) bs.length 0).length (fun j y => ∃ i, (passing (fun _ => true) bs.length 0)[j]? = some i ∧ F i y) St)
    (hst : St 0 { s1 with heap := h5, toks := tk5, gens := s1.gens.push gs }) : Rdy X pins σ H1 P bs g { s1 with heap := h5, toks := tk5, gens := s1.gens.push gs } := by
  simp only [GxR.passing_true, List.length_range] at W5
  refine ⟨_, _, _, _, _, W5.in4_1, hst, ?_, fun s' hm => ?_⟩
  · intro j y sj Qj Ej hy hQj
    obtain ⟨i, hij, hf⟩ := hy
    obtain ⟨hj, ej⟩ := List.getElem?_eq_some_iff.mp hij
    rw [List.getElem_range] at ej
    subst ej
    rw [List.length_range] at hj
    have e := hF _ y hj hf
    subst e
    exact wpAny_truthy_bool hQj
  · have nwr : ∀ b u, s1.heap.get? b = some u → b ∉ C :: wr := fun b u e hb => by
      have hl := Heap.lt_size e
      rcases List.mem_cons.mp hb with z | z
      · subst z; exact Nat.lt_irrefl _ (Nat.lt_of_lt_of_le hl hC)
      · exact Nat.lt_irrefl _ (Nat.lt_of_lt_of_le hl (hwr b z))
    have hPs : s1.heap.get? P = some { cls := .none, data := .fields ps } := I1.hok P _ hP
    have J := inv_tab (more := more) (h' := s'.heap) (g' := s'.gens) (d' := s'.drawn) (t' := s'.toks) I1 hP (fun b u hb e => hm.heap b u (nwr b u e) (hk5 b u (hk4 b u hb e)))
      (hm.heap P _ (nwr P _ hPs) (hk5 P _ hP4)) (AllBare.movedS (I1.bare.push hgb) hm)
    rw [sh_eta s1 s' hm.os] at J
    exact ⟨upd H1 P (.tbl (ps ++ more)), ⟨⟨ps ++ more, upd_same, ht⟩, fun b hb => upd_ne hb⟩, J⟩
/-- a walk's read -/
def quant (q : Bool) (bs : List Bool) : Bool := if q then bs.all id else bs.any id
theorem range_all (bs : List Bool) : (List.range bs.length).all (fun i => bs.getD i false) = bs.all id := by
  rw [Bool.eq_iff_iff, List.all_eq_true, List.all_eq_true]
  constructor
  · intro h b hb
    obtain ⟨j, hj, e⟩ := List.getElem_of_mem hb
    have q := h j (List.mem_range.mpr hj)
    rw [List.getD_eq_getElem?_getD, List.getElem?_eq_getElem hj] at q
    rw [← e]; exact q
  · intro h j hj
    have hj' := List.mem_range.mp hj
    rw [List.getD_eq_getElem?_getD, List.getElem?_eq_getElem hj']
    exact h _ (List.getElem_mem hj')
theorem range_any (bs : List Bool) : (List.range bs.length).any (fun i => bs.getD i false) = bs.any id := by
  rw [Bool.eq_iff_iff, List.any_eq_true, List.any_eq_true]
  constructor
  · intro ⟨j, hj, h⟩
    have hj' := List.mem_range.mp hj
    rw [List.getD_eq_getElem?_getD, List.getElem?_eq_getElem hj'] at h
    exact ⟨bs[j], List.getElem_mem hj', h⟩
  · intro ⟨b, hb, h⟩
    obtain ⟨j, hj, e⟩ := List.getElem_of_mem hb
    refine ⟨j, List.mem_range.mpr hj, ?_⟩
    rw [List.getD_eq_getElem?_getD, List.getElem?_eq_getElem hj, Option.getD_some, e]
    exact h
def qNam (q : Bool) : Str := if q then "all" else "any"
def qBlt (q : Bool) : String := if q then "all" else "any"
/-- all or any called with what a generator is -/
theorem quant_call {q : Bool} {ge : Expr} {p pos : Pos} (hg : Gl X (qNam q)) (hm : X.mg (qNam q) = none) (hb : bootBuiltins (qNam q) = some (.builtin (qBlt q))) (he : starEach [ge] X.env = (false, eval ge X.env) :: starEach [] X.env) {K2 : L2.VK}
    (h : ∀ Q', (∀ (g : Addr) (s5 : Shared) (bs : List Bool) (H1 : Hp) , Rdy X pins σ H1 P bs g s5 → (∀ H2, Tabbed P H1 H2 → K2 (.bl (quant q bs)) H2) → Q' (.ref g) s5) → wpAny (model X.prog X.w) X.A (eval ge X.env) Q' X.xe s) (I : Inv X pins σ H s) (hn : qNam q ≠ "__name__") (hd : (qNam q == ("__debug__" : Str)) = false) :
    wpAny (model X.prog X.w) X.A (eval (.Call (.Name (qNam q) p) [ge] [] pos) X.env) (fun u s' => ∃ v H', Inv X pins σ H' s' ∧ RelV v u ∧ K2 v H') X.xe s := by
  refine wpAny_Call_Name_kw (ld_blt I hg hm hb ?_ hn hd)
  refine PyProof.Rows.callWith_builtin1 ?_ he (by rfl)
  rw [he]
  show wpAny _ _ (spliced ((false, eval ge X.env) :: backTo pos (starEach [] X.env))) _ _ s
  refine Calls.spliced_cons (h _ fun g s5 bs H1 hG hK => ?_)
  obtain ⟨fp, wr, G, F, St, W, hst, htr, hI⟩ := hG
  refine Calls.spliced_nil ?_
  cases q with
  | true =>
    refine call_all_walkS (W.self 0 _ _ _ hst ⟨g, fp, wr, G, _, F, St, _, rfl, W, hst, htr, fun s' hmv => ?_⟩)
    obtain ⟨H2, hT, J⟩ := hI s' hmv
    exact ⟨.bl _, H2, J, rfl, by rw [range_all]; exact hK H2 hT⟩
  | false =>
    refine call_any_walkS (W.self 0 _ _ _ hst ⟨g, fp, wr, G, _, F, St, _, rfl, W, hst, htr, fun s' hmv => ?_⟩)
    obtain ⟨H2, hT, J⟩ := hI s' hmv
    exact ⟨.bl _, H2, J, rfl, by rw [range_any]; exact hK H2 hT⟩
end
end Pd

namespace Pd
open PySem PySem.Spec PyProof.Rows L2 GxR
variable [Lams]
section
variable {X : Cx} {P c : Addr} {scope : Scope} {elt iter : Expr} {x xa xb : Str} {px pa pb pt p pos gpos zp zpos : Pos} {kt k : Nat} {q : Bool}
def teQ1 (X : Cx) (P : Addr) (scope : Scope) (x : Str) (elt : Expr) (q : Bool) (t : TE) : TE := fun σ H Q => t σ H fun v H1 => ∃ (a : Addr) (xs : List V) (ps : Array Value) (cv : List (Str × V)) (tc : List (Addr × List V)) (bs : List Bool), v = .ref a ∧ SqT X.K H1 a xs ∧ H1 P = some (.tbl ps) ∧ TriplesOk ps.toList ∧ CapOk X scope σ cv ∧ (∀ p ∈ tc, SqT X.K H1 p.1 p.2) ∧ bs.length = xs.length ∧
  (∀ (i : Nat) (w : V) (b : Bool), xs[i]? = some w → bs[i]? = some b → ∀ (cenv : Env) (m : Str → Option Value) (u : Value), cenv.scope = scope → RelV w u → m x = some u → RE X.prog X.w X.K X.mg (X.A.depth + 1) (X.A.units + 8) cenv m cv tc elt (fun y => y = .bool b)) ∧ ∀ H2, Tabbed P H1 H2 → Q (.bl (quant q bs)) H2
def teQ2 (X : Cx) (P : Addr) (scope : Scope) (xa xb : Str) (elt : Expr) (q : Bool) (t : TA) : TE := fun σ H Q => t σ H fun us H1 => ∃ (a b : Addr) (xs ys : List V) (ps : Array Value) (cv : List (Str × V)) (tc : List (Addr × List V)) (bs : List Bool), us = [.ref a, .ref b] ∧ SqT X.K H1 a xs ∧ SqT X.K H1 b ys ∧ H1 P = some (.tbl ps) ∧ TriplesOk ps.toList ∧ CapOk X scope σ cv ∧ (∀ p ∈ tc, SqT X.K H1 p.1 p.2) ∧ bs.length = min xs.length ys.length ∧
  (∀ (i : Nat) (w z : V) (b : Bool), xs[i]? = some w → ys[i]? = some z → bs[i]? = some b → ∀ (cenv : Env) (m : Str → Option Value) (u u2 : Value), cenv.scope = scope → RelV w u → RelV z u2 → m xa = some u → m xb = some u2 → RE X.prog X.w X.K X.mg (X.A.depth + 1) (X.A.units + 8) cenv m cv tc elt (fun y => y = .bool b)) ∧ ∀ H2, Tabbed P H1 H2 → Q (.bl (quant q bs)) H2
theorem vals_getR {xs : List V} {us : List Value} (r : Vals xs us) {i : Nat} {u : Value} (e : us[i]? = some u) : ∃ w, xs[i]? = some w ∧ RelV w u := by
  have hl : i < xs.length := by rw [r.length]; exact (List.getElem?_eq_some_iff.mp e).1
  obtain ⟨u2, e2, rw_⟩ := r.get (List.getElem?_eq_getElem hl)
  rw [e] at e2
  cases e2
  exact ⟨_, List.getElem?_eq_getElem hl, rw_⟩
theorem getD_some {bs : List Bool} {i : Nat} {b : Bool} (h : bs[i]? = some b) : bs.getD i false = b := by rw [List.getD_eq_getElem?_getD, h]; rfl
theorem tupNe {h : Heap} {a P : Addr} {its ps : Array Value} (t : h.IsTuple a its) (hp : h.get? P = some { cls := .none, data := .fields ps }) : a ≠ P := fun e => by
  obtain ⟨o, ho, hc, _⟩ := t
  rw [e, hp] at ho
  cases ho
  cases hc
theorem noLim {pins : List (Addr × Obj)} {σ : L2.St} {H1 : Hp} {s1 : Shared} {h' : Heap} (I1 : Inv X pins σ H1 s1) (hP : ∀ b, H1 b = none → b ≠ P) (kk : ∀ b o, b ≠ P → s1.heap.get? b = some o → h'.get? b = some o) : h'.NoLimit :=
  I1.mod.nolimit.keeps fun b o e => kk b o (hP b (I1.bs b o e).2) (I1.bk b o e)
theorem cap_tups {pins : List (Addr × Obj)} {σ : L2.St} {H1 : Hp} {s1 : Shared} {h' : Heap} {ps : Array Value} {tc : List (Addr × List V)} (I1 : Inv X pins σ H1 s1) (hP1 : s1.heap.get? P = some { cls := .none, data := .fields ps }) (kk : ∀ b o, b ≠ P → s1.heap.get? b = some o → h'.get? b = some o) (htc : ∀ p ∈ tc, SqT X.K H1 p.1 p.2) :
    ∀ p ∈ tc, ∃ its : List Value, Vals p.2 its ∧ h'.IsTuple p.1 its.toArray := fun p hp => by
  obtain ⟨its, rv, pt, _⟩ := I1.tuple (htc p hp)
  have pt' : s1.heap.IsTuple p.1 its.toArray := pt
  exact ⟨its, rv, pt'.at fun o e => kk p.1 o (tupNe pt' hP1) e⟩
theorem pe_q1 {t : TE} (hr : Room k X.A) (hg : Gl X (qNam q)) (hm : X.mg (qNam q) = none) (hb : bootBuiltins (qNam q) = some (.builtin (qBlt q))) (TB : TabB X.base X.mg c P) (hcode : X.env.code = .ref c) (S : GS X.env.scope scope) (hx : scope.names.lookup x = some .local) (hi : PE X iter t)
    (hs : ∀ v, genFold iter X.env v = pure v) (hn : qNam q ≠ "__name__") (hd : (qNam q == ("__debug__" : Str)) = false)
    (he : starEach [.GeneratorExp elt [⟨.Name x px, iter, [], 0⟩] scope gpos] X.env = (false, eval (.GeneratorExp elt [⟨.Name x px, iter, [], 0⟩] scope gpos) X.env) :: starEach [] X.env) :
    PE X (.Call (.Name (qNam q) p) [.GeneratorExp elt [⟨.Name x px, iter, [], 0⟩] scope gpos] [] pos) (teQ1 X P scope x elt q t) := by
  refine ⟨fun pins s σ H Q I h => ?_⟩
  refine quant_call (P := P) hg hm hb he (fun Q' hQ' => ?_) I hn hd
  refine wpAny_GeneratorExp_walksQD hr.hd S.co (closure_ok (S.cl I)) S.cell S.dot hx S.kind (by have := hr.dp; omega) ?_ hs
  refine thn (hi.run pins s σ H _ I h) fun xv s1 ⟨v, H1, I1, r1, q1⟩ => ?_
  obtain ⟨a, xs, ps, cv, tc, bs, rfl, hq, hP, ht, hc, htc, hl, hel, hK⟩ := q1
  have r1' : xv = .ref a := r1
  subst r1'
  obtain ⟨its, rv, p1, _⟩ := I1.tuple hq
  have p2 : s1.heap.IsTuple a its.toArray := p1
  have hPn : ∀ b, H1 b = none → b ≠ P := fun b e z => by rw [z, hP] at e; cases e
  have hP1 : s1.heap.get? P = some { cls := .none, data := .fields ps } := I1.hok P _ hP
  have hPlt : P < s1.heap.objs.size := Heap.lt_size hP1
  have halt : a < s1.heap.objs.size := let ⟨_, ho, _⟩ := p2; Heap.lt_size ho
  have hcl : cStatics < s1.heap.objs.size := let ⟨_, hns, _⟩ := I1.nolimit; hns.lt
  refine wpAny_pyIter_tuple p2 ⟨I1.nolimit.push _, ?_⟩
  refine gen_mid TB hcode I1 hP ht (fun b o e => Heap.get?_push_of_some _ e) fun code h4 tk more a1 a2 a3 a4 => ?_
  have kk4 : ∀ b o, b ≠ P → s1.heap.get? b = some o → h4.get? b = some o := fun b o nb e => a1 b o nb (Heap.get?_push_of_some _ e)
  have sz4 : s1.heap.objs.size + 1 ≤ h4.objs.size := by rw [Heap.size_push] at a2; exact a2
  have hlen : bs.length = its.toArray.size := by rw [hl, rv.length]; simp
  refine ⟨s1.heap.objs.size, [s1.heap.objs.size, a], [s1.heap.objs.size], bs.length, (fun i v => its.toArray[i]? = some v), (fun i h => h.IsTupleIter s1.heap.objs.size a i ∧ h.IsTuple a its.toArray), (fun _ => true), (fun i y => ∃ b, bs[i]? = some b ∧ y = .bool b), rfl, fun A' hA => by rw [hlen]; exact Walks.tuple hA s1.heap.objs.size a (Nat.ne_of_lt halt) its.toArray, ⟨⟨_, a1 _ _ (Nat.ne_of_gt hPlt) (Heap.get?_push_size _ rfl), rfl, rfl⟩, p2.at fun o e => kk4 a o (tupNe p2 hP1) e⟩, ?_, noLim I1 hPn kk4, ?_, ?_, ?_⟩
  · intro b hb
    show b < h4.objs.size
    rcases List.mem_cons.mp hb with z | z
    · rw [z]; exact sz4
    · rcases List.mem_cons.mp z with z | z
      · rw [z]; exact Nat.lt_of_lt_of_le halt (Nat.le_trans (Nat.le_succ _) sz4)
      · cases z
  · intro z
    rcases List.mem_cons.mp z with z | z
    · exact Nat.ne_of_lt hcl z
    · cases z
  · intro href hhref
    refine ⟨fun A' E' i v s₂ m₂ hA hD hU hPv hn hm hk => ?_, fun A' E' i v s₂ m₂ hA hD hU hPv hp hn hm hk => ?_⟩
    · simp only [List.forIn_nil]
      exact wpAny_pure ⟨rfl, kp_refl _⟩
    · have hPv' : its[i]? = some v := by simpa using hPv
      obtain ⟨w, hw, rw_⟩ := vals_getR rv hPv'
      have hi2 : i < bs.length := by rw [hl]; exact (List.getElem?_eq_some_iff.mp hw).1
      have hb2 : bs[i]? = some bs[i] := List.getElem?_eq_getElem hi2
      have kk2 : ∀ b o, b ≠ P → s1.heap.get? b = some o → s₂.heap.get? b = some o := fun b o nb e => by
        have hl := Heap.lt_size e
        refine hk b (List.mem_range.mpr (Nat.lt_of_lt_of_le hl (Nat.le_trans (Nat.le_succ _) sz4))) (fun z => ?_) o (hhref b o (kk4 b o nb e))
        rcases List.mem_cons.mp z with z | z
        · rw [z] at hl; exact Nat.lt_irrefl _ hl
        · cases z
      refine mono3 (hel i w _ hw hb2 _ m₂ v rfl rw_ hm A' E' s₂ hA hD hU (gen_rc S I1 hPn hc kk2 hn (cap_tups I1 hP1 kk2 htc))) fun y s3 ⟨e, kp⟩ => ⟨⟨_, hb2, e⟩, kp⟩
  · intro g h5 tk5 gs hgb hag hsz5 hk5 W5 hat
    refine hQ' g _ bs H1 (rdy_of (s1 := s1) (fun i y hi ⟨b, e1, e2⟩ => by rw [e2, getD_some e1]) I1 hP kk4 a3 a4 (fun b hb => ?_) (Nat.le_trans (Nat.le_succ _) sz4) hgb hk5 W5 hat) hK
    rcases List.mem_cons.mp hb with z | z
    · rw [z]; exact Nat.le_refl _
    · cases z
theorem pe_q2 {t : TA} {e1 e2 : Expr} (hr : Room k X.A) (hg : Gl X (qNam q)) (hm : X.mg (qNam q) = none) (hb : bootBuiltins (qNam q) = some (.builtin (qBlt q))) (hgz : Gl X "zip") (hmz : X.mg "zip" = none) (TB : TabB X.base X.mg c P) (hcode : X.env.code = .ref c) (S : GS X.env.scope scope) (hxa : scope.names.lookup xa = some .local) (hxb : scope.names.lookup xb = some .local) (hab : xa ≠ xb)
    (ha : PA X [e1, e2] t) (hsz : starEach [e1, e2] X.env = (false, eval e1 X.env) :: starEach [e2] X.env) (hpl : (backTo zpos (starEach [e2] X.env)).any (·.1) = false)
    (hs : ∀ v, genFold (.Call (.Name "zip" zp) [e1, e2] [] zpos) X.env v = pure v) (hn : qNam q ≠ "__name__") (hd : (qNam q == ("__debug__" : Str)) = false)
    (he : starEach [.GeneratorExp elt [⟨.Tuple [.Name xa pa, .Name xb pb] kt pt, .Call (.Name "zip" zp) [e1, e2] [] zpos, [], 0⟩] scope gpos] X.env = (false, eval (.GeneratorExp elt [⟨.Tuple [.Name xa pa, .Name xb pb] kt pt, .Call (.Name "zip" zp) [e1, e2] [] zpos, [], 0⟩] scope gpos) X.env) :: starEach [] X.env) :
    PE X (.Call (.Name (qNam q) p) [.GeneratorExp elt [⟨.Tuple [.Name xa pa, .Name xb pb] kt pt, .Call (.Name "zip" zp) [e1, e2] [] zpos, [], 0⟩] scope gpos] [] pos) (teQ2 X P scope xa xb elt q t) := by
  refine ⟨fun pins s σ H Q I h => ?_⟩
  refine quant_call (P := P) hg hm hb he (fun Q' hQ' => ?_) I hn hd
  refine wpAny_GeneratorExp_walksQTD hr.hd S.co (closure_ok (S.cl I)) S.cell S.dot hxa hxb hab S.kind (by have := hr.dp; omega) ?_ hs
  refine Call_ (ld_blt I hgz hmz PyProof.Rows.boot_zip (PyProof.Rows.callWith_type1 (thn (ha.run zpos pins s σ H _ I h) fun us s1 ⟨vs, H1, I1, r1, q1⟩ => ?_) hsz hpl))
  obtain ⟨a, b, xs, ys, ps, cv, tc, bs, ex, hqx, hqy, hP, ht, hc, htc, hl, hel, hK⟩ := q1
  subst ex
  cases r1 with
  | cons r rr =>
    cases rr with
    | cons r' rr =>
      cases rr
      cases r
      cases r'
      obtain ⟨its, rv, p1, _⟩ := I1.tuple hqx
      obtain ⟨its2, rv2, p2, _⟩ := I1.tuple hqy
      have t1 : s1.heap.IsTuple a its.toArray := p1
      have t2 : s1.heap.IsTuple b its2.toArray := p2
      have hPn : ∀ b, H1 b = none → b ≠ P := fun b e z => by rw [z, hP] at e; cases e
      have hP1 : s1.heap.get? P = some { cls := .none, data := .fields ps } := I1.hok P _ hP
      have hPlt : P < s1.heap.objs.size := Heap.lt_size hP1
      have halt : a < s1.heap.objs.size := let ⟨_, ho, _⟩ := t1; Heap.lt_size ho
      have hblt : b < s1.heap.objs.size := let ⟨_, ho, _⟩ := t2; Heap.lt_size ho
      have hcl : cStatics < s1.heap.objs.size := let ⟨_, hns, _⟩ := I1.nolimit; hns.lt
      refine zip_begins2 (begins_tuple a its.toArray) (begins_tuple b its2.toArray) t1 t2 fun h2 hz hTI hTO g1 g2 hsz2 hk2 => wpAny_pyIter_zip hz ⟨I1.nolimit.keeps hk2, ?_⟩
      refine gen_mid TB hcode I1 hP ht hk2 fun code h4 tk more a1 a2 a3 a4 => ?_
      have kk4 : ∀ b o, b ≠ P → s1.heap.get? b = some o → h4.get? b = some o := fun b o nb e => a1 b o nb (hk2 _ _ e)
      have sz4 : s1.heap.objs.size + 5 ≤ h4.objs.size := by rw [hsz2] at a2; exact a2
      have nP : ∀ i : Nat, (s1.heap.objs.size + i : Nat) ≠ P := fun i => Nat.ne_of_gt (Nat.lt_of_lt_of_le hPlt (Nat.le_add_right _ _))
      have hlen : bs.length = min its.toArray.size its2.toArray.size := by rw [hl, rv.length, rv2.length]; simp
      have ZS := zip_sep2 (N := s1.heap.objs.size) (fp1 := [a]) (fp2 := [b]) (fun b hb => by rcases List.mem_cons.mp hb with z | z; rw [z]; exact halt; cases z) (fun c hb => by rcases List.mem_cons.mp hb with z | z; rw [z]; exact hblt; cases z)
      have inw : ∀ b, b ∈ ([s1.heap.objs.size + 4, s1.heap.objs.size + 3, s1.heap.objs.size, s1.heap.objs.size + 1] : List Addr) → s1.heap.objs.size ≤ b := fun b hb => by
        have hb' : b = s1.heap.objs.size + 4 ∨ b = s1.heap.objs.size + 3 ∨ b = s1.heap.objs.size ∨ b = s1.heap.objs.size + 1 := by simpa using hb
        rcases hb' with z | z | z | z
        · rw [z]; exact Nat.le_add_right _ _
        · rw [z]; exact Nat.le_add_right _ _
        · rw [z]; exact Nat.le_refl _
        · rw [z]; exact Nat.le_add_right _ _
      refine ⟨s1.heap.objs.size + 4, (s1.heap.objs.size + 4) :: (s1.heap.objs.size + 2) :: (s1.heap.objs.size + 3) :: ([s1.heap.objs.size, a] ++ [s1.heap.objs.size + 1, b]), [s1.heap.objs.size + 4, s1.heap.objs.size + 3, s1.heap.objs.size, s1.heap.objs.size + 1], bs.length,
        (fun i vals => ∃ x1 x2, its.toArray[i]? = some x1 ∧ its2.toArray[i]? = some x2 ∧ vals = #[x1, x2]),
        (fun i h => IsZip h (s1.heap.objs.size + 4) (s1.heap.objs.size + 2) (s1.heap.objs.size + 3) .none ∧ IsTupOf2 h (s1.heap.objs.size + 2) (.ref s1.heap.objs.size) (.ref (s1.heap.objs.size + 1)) ∧ (∃ a1 a2, IsTupOf2 h (s1.heap.objs.size + 3) a1 a2) ∧ (h.IsTupleIter s1.heap.objs.size a i ∧ h.IsTuple a its.toArray) ∧ (h.IsTupleIter (s1.heap.objs.size + 1) b i ∧ h.IsTuple b its2.toArray)), _, (fun _ => true), (fun i y => ∃ b, bs[i]? = some b ∧ y = .bool b), rfl,
        fun A' hA => by rw [hlen]; exact (WalksT.zipD2 ZS (Draws.tuple (A := A'.in1) hA s1.heap.objs.size a (Nat.ne_of_lt halt) its.toArray) (Draws.tuple (A := A'.in1) hA (s1.heap.objs.size + 1) b (Nat.ne_of_lt (Nat.lt_succ_of_lt hblt)) its2.toArray)).toU,
        fun i vals ⟨x1, x2, _, _, e⟩ => ⟨x1, x2, e⟩, ?_, ?_, noLim I1 hPn kk4, ?_, ?_, ?_⟩
      · exact ⟨a1 _ _ (nP 4) hz, a1 _ _ (nP 2) hTI, ⟨_, _, a1 _ _ (nP 3) hTO⟩, ⟨⟨_, a1 _ _ (nP 0) g1, rfl, rfl⟩, t1.at fun o e => kk4 a o (tupNe t1 hP1) e⟩, ⟨⟨_, a1 _ _ (nP 1) g2, rfl, rfl⟩, t2.at fun o e => kk4 b o (tupNe t2 hP1) e⟩⟩
      · intro d hd
        show d < h4.objs.size
        have hd' : d = s1.heap.objs.size + 4 ∨ d = s1.heap.objs.size + 2 ∨ d = s1.heap.objs.size + 3 ∨ d = s1.heap.objs.size ∨ d = a ∨ d = s1.heap.objs.size + 1 ∨ d = b := by simpa [or_assoc] using hd
        have sz4' : (s1.heap.objs.size : Nat) + 5 ≤ h4.objs.size := sz4
        have l1 : (a : Nat) < s1.heap.objs.size := halt
        have l2 : (b : Nat) < s1.heap.objs.size := hblt
        have key : (d : Nat) < h4.objs.size := by
          rcases hd' with z | z | z | z | z | z | z
          all_goals first | (rw [z]; exact Nat.lt_of_lt_of_le halt (Nat.le_trans (Nat.le_add_right _ 5) sz4)) | (rw [z]; exact Nat.lt_of_lt_of_le hblt (Nat.le_trans (Nat.le_add_right _ 5) sz4)) | (rw [z]; show (_ : Nat) < _; omega)
        exact key
      · intro z
        exact absurd (inw _ z) (Nat.not_le_of_lt hcl)
      · intro href hhref
        refine ⟨fun A' E' i va vb s₂ m₂ hA hD hU hPv hn hma hmb hk => ?_, fun A' E' i va vb s₂ m₂ hA hD hU hPv hp hn hma hmb hk => ?_⟩
        · simp only [List.forIn_nil]
          exact wpAny_pure ⟨rfl, kp_refl _⟩
        · obtain ⟨x1, x2, hx1, hx2, ee⟩ := hPv
          have ee2 : va = x1 ∧ vb = x2 := by simpa using ee
          obtain ⟨rfl, rfl⟩ := ee2
          have hx1' : its[i]? = some va := by simpa using hx1
          have hx2' : its2[i]? = some vb := by simpa using hx2
          obtain ⟨w, hw, rw_⟩ := vals_getR rv hx1'
          obtain ⟨z, hz2, rz⟩ := vals_getR rv2 hx2'
          have hi2 : i < bs.length := by
            have y1 := (List.getElem?_eq_some_iff.mp hw).1
            have y2 := (List.getElem?_eq_some_iff.mp hz2).1
            rw [hl]; omega
          have hb2 : bs[i]? = some bs[i] := List.getElem?_eq_getElem hi2
          have kk2 : ∀ b o, b ≠ P → s1.heap.get? b = some o → s₂.heap.get? b = some o := fun b o nb e => by
            have hl := Heap.lt_size e
            refine hk b (List.mem_range.mpr (Nat.lt_of_lt_of_le hl (Nat.le_trans (Nat.le_add_right _ _) sz4))) (fun z => absurd (inw _ z) (Nat.not_le_of_lt hl)) o (hhref b o (kk4 b o nb e))
          refine mono3 (hel i w z _ hw hz2 hb2 _ m₂ va vb rfl rw_ rz hma hmb A' E' s₂ hA hD hU (gen_rc S I1 hPn hc kk2 hn (cap_tups I1 hP1 kk2 htc))) fun y s3 ⟨e, kp⟩ => ⟨⟨_, hb2, e⟩, kp⟩
      · intro g h5 tk5 gs hgb hag hsz5 hk5 W5 hat
        exact hQ' g _ bs H1 (rdy_of (s1 := s1) (fun i y hi ⟨b, e1, e2⟩ => by rw [e2, getD_some e1]) I1 hP kk4 a3 a4 inw (Nat.le_trans (Nat.le_add_right _ _) sz4) hgb hk5 W5 hat) hK
end
end Pd

namespace Pd
open PySem PySem.Spec PyProof.Rows L2 GxR
variable [Lams]
/-- what a generator's element may capture: flat data, a tuple of flat data -/
def capD1 (d : PyData) : Option PyData := match toV d with
  | some _ => some d
  | none => (match d with
    | .tuple _ => some d
    | _ => none)
def capV (en : En) : List Nat → Option (List PyData)
  | [] => some []
  | j :: js => match en.sl[j]? with
    | some (some (.dat d)) => (match capD1 d, capV en js with
      | some v, some vs => some (v :: vs)
      | _, _ => none)
    | _ => none
/-- the flat ones of the items -/
def FlI (es : List PyData) (vs : List V) : Prop := ∀ (i : Nat) (d : PyData) (w : V), es[i]? = some d → toV d = some w → vs[i]? = some w
/-- the values cs are the data ds, tc telling the tuples -/
inductive CapD (tc : List (Addr × List V)) : List V → List PyData → Prop
  | nil : CapD tc [] []
  | flat {v : V} {d : PyData} {cs : List V} {ds : List PyData} : toV d = some v → CapD tc cs ds → CapD tc (v :: cs) (d :: ds)
  | tup {a : Addr} {vs : List V} {es : List PyData} {cs : List V} {ds : List PyData} : FlI es vs → (a, vs) ∈ tc → CapD tc cs ds → CapD tc (.ref a :: cs) (.tuple es :: ds)
theorem CapD.more {tc tc' : List (Addr × List V)} (h : ∀ p ∈ tc, p ∈ tc') : ∀ {cs : List V} {ds : List PyData}, CapD tc cs ds → CapD tc' cs ds
  | _, _, .nil => .nil
  | _, _, .flat e t => .flat e (CapD.more h t)
  | _, _, .tup e m t => .tup e (h _ m) (CapD.more h t)
inductive CapL (X : Cx) (scope : Scope) : List Str → List Nat → Prop
  | nil : CapL X scope [] []
  | cons {y : Str} {ys : List Str} {j : Nat} {js : List Nat} : scope.names.lookup y = some .free → X.N[j]? = some y → CapL X scope ys js → CapL X scope (y :: ys) (j :: js)
theorem capV_ok {X : Cx} {scope : Scope} {TT : Tt} {g : Gh} {al : List Addr} {en : En} {F : Hp} {σ : L2.St} {H : Hp} (s : Sv X.K TT g al en F σ H) : ∀ {ys : List Str} {js : List Nat} {ds : List PyData}, CapL X scope ys js → capV en js = some ds →
    ∃ (cs : List V) (tc : List (Addr × List V)), CapOk X scope σ (ys.zip cs) ∧ CapD tc cs ds ∧ ∀ p ∈ tc, SqT X.K H p.1 p.2
  | _, _, ds, .nil, e => by
    cases e
    exact ⟨[], [], fun y v hm => by simp at hm, .nil, fun p hp => by cases hp⟩
  | _, _, ds, .cons (j := j) (js := js) (ys := ys) (y := y) h1 h2 t, e => by
    unfold capV at e
    split at e
    · rename_i d hd
      split at e
      · rename_i v vs e1 e2
        cases e
        obtain ⟨cs, tc, k1, k2, k3⟩ := capV_ok s t e2
        obtain ⟨u, hu, hr⟩ := s.slots j _ hd
        have up : ∀ w : V, w = u → CapOk X scope σ ((y :: ys).zip (w :: cs)) := fun w ew z w' hm => by
          rw [List.zip_cons_cons] at hm
          rcases List.mem_cons.mp hm with q | q
          · cases q
            exact ⟨h1, j, h2, by rw [ew]; exact hu⟩
          · exact k1 z w' q
        unfold capD1 at e1
        cases q : toV d with
        | some w =>
          rw [q] at e1
          cases e1
          exact ⟨w :: cs, tc, up w (toV_ok hr q).1.symm, .flat q k2, k3⟩
        | none =>
          rw [q] at e1
          simp only at e1
          split at e1
          · rename_i es
            cases e1
            cases hr with
            | tup f1 f2 =>
              rename_i a xs
              have fl : FlI es xs := fun i d w e1 e2 => by
                obtain ⟨v, g1, g2⟩ := dpAll_get f2 e1
                rw [g1, (toV_ok g2 e2).1]
              exact ⟨.ref a :: cs, (a, xs) :: tc, up _ rfl, .tup fl (by simp) (k2.more fun p hp => List.mem_cons_of_mem _ hp), fun p hp => by
                rcases List.mem_cons.mp hp with z | z
                · rw [z]; exact sameT s.sub (tupS f1)
                · exact k3 p z⟩
          · cases e1
      · cases e
    · cases e
def mapB (g : V → Option Bool) : List V → Option (List Bool)
  | [] => some []
  | v :: vs => match g v, mapB g vs with
    | some b, some bs => some (b :: bs)
    | _, _ => none
def mapB2 (g : V → V → Option Bool) : List V → List V → Option (List Bool)
  | v :: vs, w :: ws => match g v w, mapB2 g vs ws with
    | some b, some bs => some (b :: bs)
    | _, _ => none
  | _, _ => some []
theorem mapB_ok {g : V → Option Bool} : ∀ {vs : List V} {bs : List Bool}, mapB g vs = some bs → bs.length = vs.length ∧ ∀ (i : Nat) (w : V) (b : Bool), vs[i]? = some w → bs[i]? = some b → g w = some b
  | [], bs, h => by cases h; exact ⟨rfl, fun i w b h => by simp at h⟩
  | v :: vs, bs, h => by
    unfold mapB at h
    split at h
    · rename_i b bs' e1 e2
      cases h
      obtain ⟨l, f⟩ := mapB_ok e2
      refine ⟨by simp [l], fun i w b' h1 h2 => ?_⟩
      cases i with
      | zero => simp at h1 h2; rw [← h1, ← h2]; exact e1
      | succ i => exact f i w b' (by simpa using h1) (by simpa using h2)
    · cases h
theorem mapB2_ok {g : V → V → Option Bool} : ∀ {vs ws : List V} {bs : List Bool}, mapB2 g vs ws = some bs → bs.length = min vs.length ws.length ∧ ∀ (i : Nat) (w z : V) (b : Bool), vs[i]? = some w → ws[i]? = some z → bs[i]? = some b → g w z = some b
  | [], ws, bs, h => by cases h; exact ⟨by simp, fun i w z b h => by simp at h⟩
  | v :: vs, [], bs, h => by cases h; exact ⟨by simp, fun i w z b _ h => by simp at h⟩
  | v :: vs, w :: ws, bs, h => by
    unfold mapB2 at h
    split at h
    · rename_i b bs' e1 e2
      cases h
      obtain ⟨l, f⟩ := mapB2_ok e2
      refine ⟨by simp [l], fun i w' z' b' h1 h2 h3 => ?_⟩
      cases i with
      | zero => simp at h1 h2 h3; rw [← h1, ← h2, ← h3]; exact e1
      | succ i => exact f i w' z' b' (by simpa using h1) (by simpa using h2) (by simpa using h3)
    · cases h
def El1 (X : Cx) (scope : Scope) (x : Str) (ys : List Str) (elt : Expr) (ge : List PyData → V → Option Bool) : Prop :=
  ∀ (cenv : Env) (m : Str → Option Value) (cs : List V) (tc : List (Addr × List V)) (ds : List PyData) (v : V) (u : Value) (b : Bool), cenv.scope = scope → flatV v = true → RelV v u → m x = some u → CapD tc cs ds → ge ds v = some b → RE X.prog X.w X.K X.mg (X.A.depth + 1) (X.A.units + 8) cenv m (ys.zip cs) tc elt (fun y => y = .bool b)
def El2 (X : Cx) (scope : Scope) (xa xb : Str) (ys : List Str) (elt : Expr) (ge : List PyData → V → V → Option Bool) : Prop :=
  ∀ (cenv : Env) (m : Str → Option Value) (cs : List V) (tc : List (Addr × List V)) (ds : List PyData) (v w : V) (u u2 : Value) (b : Bool), cenv.scope = scope → flatV v = true → flatV w = true → RelV v u → RelV w u2 → m xa = some u → m xb = some u2 → CapD tc cs ds → ge ds v w = some b → RE X.prog X.w X.K X.mg (X.A.depth + 1) (X.A.units + 8) cenv m (ys.zip cs) tc elt (fun y => y = .bool b)
def appQ1 (q : Bool) (js : List Nat) (ge : List PyData → V → Option Bool) (r : Rv) : M Rv := fun en => match peek en r, capV en js with
  | some (.tuple ds), some cs => (match toVs ds with
    | some vs => (match mapB (ge cs) vs with
      | some bs => .ok (.dat (.bool (quant q bs))) en
      | none => .bad)
    | none => .bad)
  | _, _ => .bad
def fQ1 (q : Bool) (js : List Nat) (ge : List PyData → V → Option Bool) (fa : M Rv) : M Rv := bnd fa (appQ1 q js ge)
def appQ2 (q : Bool) (js : List Nat) (ge : List PyData → V → V → Option Bool) (rs : List Rv) : M Rv := fun en => match peeks en rs, capV en js with
  | some [.tuple ds, .tuple es], some cs => (match toVs ds, toVs es with
    | some vs, some ws => (match mapB2 (ge cs) vs ws with
      | some bs => .ok (.dat (.bool (quant q bs))) en
      | none => .bad)
    | _, _ => .bad)
  | _, _ => .bad
def fQ2 (q : Bool) (js : List Nat) (ge : List PyData → V → V → Option Bool) (fs : M (List Rv)) : M Rv := bnd fs (appQ2 q js ge)
theorem toVs_flat {F : Hp} {K : PySem.W.Frag} {ds : List PyData} {us vs : List V} (h : DpAll K F us ds) (e : toVs ds = some vs) : us = vs ∧ ∀ (i : Nat) (w : V), vs[i]? = some w → flatV w = true := by
  obtain ⟨h1, h2⟩ := toVs_ok h e
  refine ⟨h1, fun i w hw => ?_⟩
  rw [List.all_eq_true] at h2
  exact h2 w (List.mem_of_getElem? hw)
section
variable {X : Cx} {TT : Tt} {W : WX} {P c : Addr} {scope : Scope} {elt iter : Expr} {x xa xb : Str} {px pa pb pt p pos gpos zp zpos : Pos} {kt k : Nat} {q : Bool} {fa : M Rv} {fs : M (List Rv)} {ys : List Str}
theorem pd_q1 {ge : List PyData → V → Option Bool} (js : List Nat) (hr : Room k X.A) (hm : X.mg (qNam q) = none) (TB : TabB X.base X.mg c P) (hcode : X.env.code = .ref c) (hP : TT P) (S : GS X.env.scope scope) (hx : scope.names.lookup x = some .local) (hL : CapL X scope ys js) (hi : PD X TT W iter fa) (hel : El1 X scope x ys elt ge)
    (hg : Gl X (qNam q) := by rfl) (hb : bootBuiltins (qNam q) = some (.builtin (qBlt q)) := by decide +kernel) (hs : ∀ v, genFold iter X.env v = pure v := by intro _; rfl) (hn : qNam q ≠ "__name__" := by decide) (hd : (qNam q == ("__debug__" : Str)) = false := by decide)
    (he : starEach [.GeneratorExp elt [⟨.Name x px, iter, [], 0⟩] scope gpos] X.env = (false, eval (.GeneratorExp elt [⟨.Name x px, iter, [], 0⟩] scope gpos) X.env) :: starEach [] X.env := by rfl) :
    PD X TT W (.Call (.Name (qNam q) p) [.GeneratorExp elt [⟨.Name x px, iter, [], 0⟩] scope gpos] [] pos) (fQ1 q js ge fa) := by
  obtain ⟨⟨t, pt, qt⟩⟩ := hi
  refine ⟨⟨_, pe_q1 (P := P) hr hg hm hb TB hcode S hx pt hs hn hd he, fun g al en F σ H Q s h => ?_⟩⟩
  refine qt g al en F σ H _ s (Post.seq h fun r e1 F1 a1 H1 l1 s1 p1 v r1 => ?_)
  unfold appQ1 at p1
  split at p1
  · rename_i ds cs e2 e3
    split at p1
    · rename_i vs e4
      split at p1
      · rename_i bs e5
        obtain ⟨a, xs, rfl, hq, hd⟩ := (peek_ok s1 r1 e2).tup s1.sub
        obtain ⟨rfl, hfl⟩ := toVs_flat hd e4
        obtain ⟨hlen, hget⟩ := mapB_ok e5
        obtain ⟨⟨ps, hps, htr⟩, _⟩ := s1.tabs P hP
        obtain ⟨cs', tc, c1, c2, c3⟩ := capV_ok s1 hL e3
        exact ⟨a, xs, ps, ys.zip cs', tc, bs, rfl, hq, hps, htr, c1, c3, hlen, fun i w b h1 h2 cenv m u hsc hr hm => hel cenv m cs' tc cs w u b hsc (hfl i w h1) hr hm c2 (hget i w b h1 h2),
          fun H2 hT => p1 F1 a1 H2 (Le.refl _ _) (s1.tabbed hP hT) _ (.bl _)⟩
      · exact p1.elim
    · exact p1.elim
  · exact p1.elim
theorem pd_q2 {e1 e2 : Expr} {ge : List PyData → V → V → Option Bool} (js : List Nat) (hr : Room k X.A) (hm : X.mg (qNam q) = none) (hmz : X.mg "zip" = none) (TB : TabB X.base X.mg c P) (hcode : X.env.code = .ref c) (hP : TT P) (S : GS X.env.scope scope) (hxa : scope.names.lookup xa = some .local) (hxb : scope.names.lookup xb = some .local) (hab : xa ≠ xb) (hL : CapL X scope ys js) (hi : PAD X TT W [e1, e2] fs) (hel : El2 X scope xa xb ys elt ge)
    (hg : Gl X (qNam q) := by rfl) (hgz : Gl X "zip" := by rfl) (hb : bootBuiltins (qNam q) = some (.builtin (qBlt q)) := by decide +kernel) (hsz : starEach [e1, e2] X.env = (false, eval e1 X.env) :: starEach [e2] X.env := by rfl) (hpl : (backTo zpos (starEach [e2] X.env)).any (·.1) = false := by rfl)
    (hs : ∀ v, genFold (.Call (.Name "zip" zp) [e1, e2] [] zpos) X.env v = pure v := by intro _; rfl) (hn : qNam q ≠ "__name__" := by decide) (hd : (qNam q == ("__debug__" : Str)) = false := by decide)
    (he : starEach [.GeneratorExp elt [⟨.Tuple [.Name xa pa, .Name xb pb] kt pt, .Call (.Name "zip" zp) [e1, e2] [] zpos, [], 0⟩] scope gpos] X.env = (false, eval (.GeneratorExp elt [⟨.Tuple [.Name xa pa, .Name xb pb] kt pt, .Call (.Name "zip" zp) [e1, e2] [] zpos, [], 0⟩] scope gpos) X.env) :: starEach [] X.env := by rfl) :
    PD X TT W (.Call (.Name (qNam q) p) [.GeneratorExp elt [⟨.Tuple [.Name xa pa, .Name xb pb] kt pt, .Call (.Name "zip" zp) [e1, e2] [] zpos, [], 0⟩] scope gpos] [] pos) (fQ2 q js ge fs) := by
  obtain ⟨⟨t, pt, qt⟩⟩ := hi
  refine ⟨⟨_, pe_q2 (P := P) hr hg hm hb hgz hmz TB hcode S hxa hxb hab pt hsz hpl hs hn hd he, fun g al en F σ H Q s h => ?_⟩⟩
  refine qt g al en F σ H _ s (Post.seq h fun rs e1 F1 a1 H1 l1 s1 p1 us r1 => ?_)
  unfold appQ2 at p1
  split at p1
  · rename_i ds es cs e2 e3
    split at p1
    · rename_i vs ws e4 e6
      split at p1
      · rename_i bs e5
        cases peeks_ok s1 r1 e2 with
        | cons k1 kk =>
          cases kk with
          | cons k2 kk =>
            cases kk
            obtain ⟨a, xs, rfl, hq, hd⟩ := k1.tup s1.sub
            obtain ⟨b, zs, rfl, hq2, hd2⟩ := k2.tup s1.sub
            obtain ⟨rfl, hfl⟩ := toVs_flat hd e4
            obtain ⟨rfl, hfl2⟩ := toVs_flat hd2 e6
            obtain ⟨hlen, hget⟩ := mapB2_ok e5
            obtain ⟨⟨ps, hps, htr⟩, _⟩ := s1.tabs P hP
            obtain ⟨cs', tc, c1, c2, c3⟩ := capV_ok s1 hL e3
            exact ⟨a, b, xs, zs, ps, ys.zip cs', tc, bs, rfl, hq, hq2, hps, htr, c1, c3, hlen, fun i w z b h1 h2 h3 cenv m u u2 hsc hr hr2 hm hm2 => hel cenv m cs' tc cs w z u u2 b hsc (hfl i w h1) (hfl2 i z h2) hr hr2 hm hm2 c2 (hget i w z b h1 h2 h3),
              fun H2 hT => p1 F1 a1 H2 (Le.refl _ _) (s1.tabbed hP hT) _ (.bl _)⟩
      · exact p1.elim
    · exact p1.elim
  · exact p1.elim
end
/-- where nothing is promised -/
theorem sd_bad {X : Cx} {TT : Tt} {W : WX} {st : Stmt} : PSD X TT W st (fun _ => .bad) := ⟨⟨fun _ _ _ => False, ⟨fun _ _ _ _ _ _ h => h.elim⟩, fun _ _ _ _ _ _ _ _ h => h⟩⟩
theorem pd_bad {X : Cx} {TT : Tt} {W : WX} {e : Expr} : PD X TT W e (fun _ => .bad) := ⟨⟨fun _ _ _ => False, ⟨fun _ _ _ _ _ _ h => h.elim⟩, fun _ _ _ _ _ _ _ _ h => h⟩⟩
section
variable {P : Program} {w : World} {K : PySem.W.Frag} {mg : Str → Option Value} {D U : Nat} {env : Env} {m : Str → Option Value} {cv : List (Str × V)} {tc : List (Addr × List V)} {a b c : Expr} {pos : Pos}
theorem re_ne {i j : Int} (ha : RE P w K mg D U env m cv tc a (fun u => ∃ t, u = .int i t)) (hb : RE P w K mg D U env m cv tc b (fun u => ∃ t, u = .int j t)) : RE P w K mg D U env m cv tc (.Compare a [.NotEq] [b] pos) (fun u => u = .bool (i != j)) :=
  re_cmp (f := fun i j => i != j) (fun _ _ _ _ _ _ h => ne_int h) (nomark _) ha hb
end
end Pd

namespace Pd
open PySem PySem.Spec PyProof.Rows L2 GxR
variable [Lams]
section
variable {X : Cx} {TT : Tt} {W : WX} {a : Expr} {fa : M Rv} {pos : Pos} {k : Nat}
theorem pd_gintE {x : Str} {i : Int} (hm : ∃ t, X.mg x = some (.int i t)) (hg : Gl X x := by rfl) (hd : (x == ("__debug__" : Str)) = false := by decide) : PD X TT W (.Name x pos) (fC (.int i)) := by
  obtain ⟨t, h⟩ := hm
  exact pd_gint hg h hd
theorem hu_of (hr : Room k X.A) : X.A.units + 64 < cLine := by have := hr.un; omega
theorem hx0 (σ : L2.St) : PassesAt (L2.CX X.prog X.w) X σ (WE W0 σ) := fun pins H s e s' I c => passL pins σ H s e s' I c
def negM (r : Rv) : M Rv := fun en => match r with
  | .dat (.int i) => .ok (.dat (.int (-i))) en
  | _ => .bad
theorem pd_neg (ha : PD X TT W a fa) : PD X TT W (.UnaryOp .USub a pos) (bnd fa negM) := by
  obtain ⟨⟨t, pt, q⟩⟩ := ha
  refine ⟨⟨_, pe_un un_neg pt, fun g al en F σ H Q s h => q g al en F σ H _ s (Post.seq h fun r e1 F1 a1 H1 l1 s1 p1 v r1 => ?_)⟩⟩
  unfold negM at p1
  split at p1
  · rename_i i
    cases r1
    exact ⟨i, rfl, p1.here s1 _ (Dp.int _)⟩
  · exact p1.elim
end
section
variable {P : Program} {w : World} {K : PySem.W.Frag} {mg : Str → Option Value} {base : Heap} {CX : CXT} {TT : Tt} {f : Addr} {fd : FuncData} {ps : List Str} {k : Nat}
theorem ok_bad : FnOk P w K mg base CX k f fd ps (spD K TT (fun _ => .bad)) :=
  ⟨fun _ _ _ _ h => by obtain ⟨_, _, _, _, _, h⟩ := h; exact h.elim, fun _ _ _ _ _ _ _ _ _ _ _ _ _ h => by obtain ⟨_, _, _, _, _, h⟩ := h; exact h.elim⟩
end
/-! ### the two elements of are_settings -/
def geSet (cs : List PyData) (v : V) : Option Bool := match cs with
  | [.int h] => some (isNumV v (1 - h) (h - 1) && (match v with
    | .int i => i != 0
    | _ => false))
  | _ => none
def geLt (_ : List PyData) (v w : V) : Option Bool := match v, w with
  | .int i, .int j => some (decide (i < j))
  | _, _ => none
section
variable {X : Cx} {scope : Scope} {k : Nat}
theorem el_lt {xa xb : Str} {p1 p2 p3 : Pos} (ha : scope.names.lookup xa = some .local) (hb : scope.names.lookup xb = some .local) (hda : (xa == ("__debug__" : Str)) = false := by decide) (hdb : (xb == ("__debug__" : Str)) = false := by decide) :
    El2 X scope xa xb [] (.Compare (.Name xa p1) [.Lt] [.Name xb p2] p3) geLt := by
  intro cenv m cs tc ds v w u u2 b hsc fv fw rv rw_ hma hmb _ hg
  subst hsc
  unfold geLt at hg
  split at hg
  · rename_i i j
    cases hg
    obtain ⟨t, rfl⟩ := rv
    obtain ⟨t2, rfl⟩ := rw_
    exact re_lt (re_loc ha hma ⟨_, rfl⟩ hda) (re_loc hb hmb ⟨_, rfl⟩ hdb)
  · cases hg
theorem el_set {f : Addr} {qual : Str} {params : Arguments} {body : List Stmt} {sc : Scope} {fd : FuncData} {q1 q2 q3 q4 q5 q6 q7 q8 q9 q10 q11 q12 q13 q14 q15 p0 p1 p2 p3 p4 p5 p6 p7 p8 p9 p10 p11 p12 : Pos} {j j2 j3} (Fd : FunD X.K "is_number" qual params body sc [] [] f fd)
    (hbody : body = [.Return (some (.BoolOp .And [.Call (.Name "isinstance" q1) [.Name "value" q2, .Name "int" q3] [] q4, .UnaryOp .Not (.Call (.Name "isinstance" q5) [.Name "value" q6, .Name "bool" q7] [] q8) q9, .Compare (.Name "low" q10) [.LtE, .LtE] [.Name "value" q11, .Name "high" q12] q13] q14)) q15])
    (S : FnScope ["value", "low", "high"] ["value", "low", "high"] sc) (hb : Binds X.K fd ["value", "low", "high"] []) (hl : ∀ y ∈ (["value", "low", "high"] : List Str), sc.names.lookup y = some .local)
    (hgl : ∀ y ∈ (["isinstance", "int", "bool"] : List Str), sc.names.lookup y = some .globalImplicit) (hm1 : X.mg "isinstance" = none) (hm2 : X.mg "int" = none) (hm3 : X.mg "bool" = none) (hr : Room k X.A) (hm : X.mg "is_number" = some (.ref f))
    (hx : scope.names.lookup ("setting" : Str) = some .local) (hh : scope.names.lookup ("hours" : Str) = some .free) (hg : scope.names.lookup ("is_number" : Str) = some .globalImplicit) :
    El1 X scope "setting" ["hours"] (.BoolOp .And [.Call (.Name "is_number" p0) [.Name "setting" p1, .BinOp (.Constant (.int 1) j p2) .Sub (.Name "hours" p3) p4, .BinOp (.Name "hours" p5) .Sub (.Constant (.int 1) j2 p6) p7] [] p8, .Compare (.Name "setting" p9) [.NotEq] [.Constant (.int 0) j3 p10] p11] p12) geSet := by
  intro cenv m cs tc ds v u b hsc fv rv hmu hcd hge
  subst hsc
  unfold geSet at hge
  split at hge
  · rename_i h
    cases hge
    cases hcd with
    | flat hv ht =>
    cases ht
    cases hv
    have ch : ∀ {pp : Pos}, RE X.prog X.w X.K X.mg (X.A.depth + 1) (X.A.units + 8) cenv m ((["hours"] : List Str).zip [V.int h]) tc (.Name "hours" pp) (fun u => ∃ t, u = .int h t) :=
      re_cap (v := V.int h) (by simp) (fun u r => r)
    have c1 : ∀ {pp : Pos} {jj} {n : Int}, RE X.prog X.w X.K X.mg (X.A.depth + 1) (X.A.units + 8) cenv m ((["hours"] : List Str).zip [V.int h]) tc (.Constant (.int n) jj pp) (fun u => ∃ t, u = .int n t) := re_int
    have first := re_isnum (P := X.prog) (w := X.w) (mg := X.mg) (D := X.A.depth + 1) (U := X.A.units + 8) (env := cenv) (m := m) (cv := (["hours"] : List Str).zip [V.int h]) (tc := tc) (v := v) (lo := 1 - h) (hi := h - 1) (pos := p8) (p0 := p0) Fd hbody S hb hl hgl hm1 hm2 hm3 fv (by have := hr.dp; omega) hg hm (re_loc (pos := p1) (u := u) (p := RelV v) hx hmu rv (by decide)) (re_sub (pos := p4) (c1 (pp := p2) (jj := j)) (ch (pp := p3))) (re_sub (pos := p7) (ch (pp := p5)) (c1 (pp := p6) (jj := j2)))
    refine re_and first fun e => ?_
    cases v with
    | int i =>
      obtain ⟨t, rfl⟩ := rv
      exact re_one (re_ne (re_loc hx hmu ⟨_, rfl⟩ (by decide)) c1)
    | _ => cases e
  · cases hge
end
end Pd

namespace Pd
open PySem PySem.Spec PyProof.Rows L2 GxR
variable [Lams]
def blkB (N : List Str) (sc scope : Scope) (own : List (Str × Nat)) : Bool :=
  decide (scope.kind = .function) && scope.names.all (fun y => decide (scope.names.lookup y.1 = some y.2)) && own.all (fun p => decide (N[p.2]? = some p.1)) &&
  scope.names.all (fun y => !decide (y.2 = .free) || decide (sc.names.lookup y.1 = some .cell) || decide (sc.names.lookup y.1 = some .free)) &&
  scope.names.all (fun y => !(decide (y.2 = .local) || decide (y.2 = .cell)) || (own.map (·.1)).contains y.1 || !N.contains y.1)
theorem blk_of {N : List Str} {sc scope : Scope} {own : List (Str × Nat)} (h : blkB N sc scope own = true) : BlkOk N sc scope own := by
  unfold blkB at h
  simp only [Bool.and_eq_true, List.all_eq_true, decide_eq_true_eq, Bool.or_eq_true, Bool.not_eq_true', decide_eq_false_iff_not] at h
  obtain ⟨⟨⟨⟨h1, h2⟩, h3⟩, h4⟩, h5⟩ := h
  refine ⟨h1, h2, h3, fun y hy e => ?_, fun y hy e => ?_⟩
  · rcases h4 y hy with (z | z) | z
    · exact absurd e z
    · exact .inl z
    · exact .inr z
  · rcases h5 y hy with (z | z) | z
    · rcases e with e | e
      · simp [e] at z
      · simp [e] at z
    · exact .inl (by simpa using z)
    · exact .inr (by simpa using z)
def gsB (sc scope : Scope) : Bool :=
  decide (scope.kind = .function) && !scope.isCoroutine && scope.names.all (fun y => !decide (y.2 = .cell)) && decide (scope.names.lookup (".0" : Str) = some .local) &&
  scope.names.all (fun y => !decide (y.2 = .free) || decide (sc.names.lookup y.1 = some .cell) || decide (sc.names.lookup y.1 = some .free))
theorem gs_of {sc scope : Scope} (h : gsB sc scope = true) : GS sc scope := by
  unfold gsB at h
  simp only [Bool.and_eq_true, List.all_eq_true, decide_eq_true_eq, Bool.or_eq_true, Bool.not_eq_true', decide_eq_false_iff_not] at h
  obtain ⟨⟨⟨⟨h1, h2⟩, h3⟩, h4⟩, h5⟩ := h
  refine ⟨h1, h2, h3, h4, fun y hy e => ?_⟩
  rcases h5 y hy with (z | z) | z
  · exact absurd e z
  · exact .inl z
  · exact .inr z
end Pd

namespace Pd
open PySem PySem.Spec PyProof.Rows L2
variable [Lams]
/-! ## plain laws of the mirrors -/
theorem szl : 16777216 ≤ sizeLine := by decide
theorem forM_inv {h : Rv → En → Option En} {G : M Fl} (rs : List PyData) (I : Nat → En → Prop) (step : ∀ (i : Nat) (hi : i < rs.length) (en : En), I i en → ∃ e1 e2, h (.dat rs[i]) en = some e1 ∧ G e1 = .ok .nx e2 ∧ I (i + 1) e2) :
    ∀ en, I 0 en → ∃ en', forM h G rs en = .ok .nx en' ∧ I rs.length en' := by
  have key : ∀ (k i : Nat) (en : En), i + k = rs.length → I i en → ∃ en', forM h G (rs.drop i) en = .ok .nx en' ∧ I rs.length en' := by
    intro k
    induction k with
    | zero =>
      intro i en hk hI
      have e : i = rs.length := by omega
      subst e
      rw [List.drop_length]
      exact ⟨en, rfl, hI⟩
    | succ k ih =>
      intro i en hk hI
      have hi : i < rs.length := by omega
      obtain ⟨e1, e2, h1, h2, h3⟩ := step i hi en hI
      obtain ⟨en', h4, h5⟩ := ih (i + 1) e2 (by omega) h3
      refine ⟨en', ?_, h5⟩
      rw [List.drop_eq_getElem_cons hi]
      unfold forM
      rw [h1]
      simp only [h2]
      exact h4
  intro en hI
  have := key rs.length 0 en (by omega) hI
  simpa using this
theorem get_last (l : List Oc) (a : Oc) : (l ++ [a])[l.length]? = some a := by simp
theorem set_last (l : List Oc) (a b : Oc) : (l ++ [a]).set l.length b = l ++ [b] := by simp
/-- one turn of a comprehension -/
def Stp (h : Rv → En → Option En) (gt : M Bool) (fe : M Rv) (sl : List (Option Rv)) (k : Nat) (r : PyData) (J : List Oc → List Rv → Prop) (ob : List Oc) (acc : List Rv) : Prop :=
  ∃ (e1 : En) (b : Bool) (sl2 : List (Option Rv)) (ob2 : List Oc), h (.dat r) ⟨sl, ob ++ [.lst acc]⟩ = some e1 ∧ gt e1 = .ok b ⟨sl2, ob2 ++ [.lst acc]⟩ ∧ ob2.length = k ∧ (b = false → J ob2 acc) ∧
      (b = true → ∃ (v : Rv) (sl3 : List (Option Rv)) (ob3 : List Oc), fe ⟨sl2, ob2 ++ [.lst acc]⟩ = .ok v ⟨sl3, ob3 ++ [.lst acc]⟩ ∧ ob3.length = k ∧ acc.length < sizeLine ∧ J ob3 (acc ++ [v]))
theorem Stp.no {h : Rv → En → Option En} {gt : M Bool} {fe : M Rv} {sl : List (Option Rv)} {k : Nat} {r : PyData} {J : List Oc → List Rv → Prop} {ob : List Oc} {acc : List Rv} (e1 : En) (sl2 : List (Option Rv)) (ob2 : List Oc) (h1 : h (.dat r) ⟨sl, ob ++ [.lst acc]⟩ = some e1) (h2 : gt e1 = .ok false ⟨sl2, ob2 ++ [.lst acc]⟩) (h3 : ob2.length = k) (h4 : J ob2 acc) : Stp h gt fe sl k r J ob acc :=
  ⟨e1, false, sl2, ob2, h1, h2, h3, fun _ => h4, fun z => nomatch z⟩
theorem Stp.yes {h : Rv → En → Option En} {gt : M Bool} {fe : M Rv} {sl : List (Option Rv)} {k : Nat} {r : PyData} {J : List Oc → List Rv → Prop} {ob : List Oc} {acc : List Rv} (e1 : En) (sl2 : List (Option Rv)) (ob2 : List Oc) (v : Rv) (sl3 : List (Option Rv)) (ob3 : List Oc) (h1 : h (.dat r) ⟨sl, ob ++ [.lst acc]⟩ = some e1) (h2 : gt e1 = .ok true ⟨sl2, ob2 ++ [.lst acc]⟩) (h3 : ob2.length = k)
    (h4 : fe ⟨sl2, ob2 ++ [.lst acc]⟩ = .ok v ⟨sl3, ob3 ++ [.lst acc]⟩) (h5 : ob3.length = k) (h6 : acc.length < sizeLine) (h7 : J ob3 (acc ++ [v])) : Stp h gt fe sl k r J ob acc :=
  ⟨e1, true, sl2, ob2, h1, h2, h3, (fun z => by cases z), fun _ => ⟨v, sl3, ob3, h4, h5, h6, h7⟩⟩
theorem compL_inv {h : Rv → En → Option En} {gt : M Bool} {fe : M Rv} {sl : List (Option Rv)} {k : Nat} (rs : List PyData) (I : Nat → List Oc → List Rv → Prop)
    (step : ∀ (i : Nat) (hi : i < rs.length) (ob : List Oc) (acc : List Rv), I i ob acc → ob.length = k → Stp h gt fe sl k rs[i] (fun ob' acc' => I (i + 1) ob' acc') ob acc) :
    ∀ ob acc, ob.length = k → I 0 ob acc → ∃ ob' acc', compL h gt fe sl k rs ⟨sl, ob ++ [.lst acc]⟩ = some ⟨sl, ob' ++ [.lst acc']⟩ ∧ ob'.length = k ∧ I rs.length ob' acc' := by
  have key : ∀ (n i : Nat) (ob : List Oc) (acc : List Rv), i + n = rs.length → ob.length = k → I i ob acc → ∃ ob' acc', compL h gt fe sl k (rs.drop i) ⟨sl, ob ++ [.lst acc]⟩ = some ⟨sl, ob' ++ [.lst acc']⟩ ∧ ob'.length = k ∧ I rs.length ob' acc' := by
    intro n
    induction n with
    | zero =>
      intro i ob acc hk hl hI
      have e : i = rs.length := by omega
      subst e
      rw [List.drop_length]
      exact ⟨ob, acc, rfl, hl, hI⟩
    | succ n ih =>
      intro i ob acc hk hl hI
      have hi : i < rs.length := by omega
      obtain ⟨e1, b, sl2, ob2, h1, h2, h3, h4, h5⟩ := step i hi ob acc hI hl
      rw [List.drop_eq_getElem_cons hi]
      unfold compL
      rw [h1]
      simp only [h2]
      cases b with
      | false => exact ih (i + 1) ob2 acc (by omega) h3 (h4 rfl)
      | true =>
        obtain ⟨v, sl3, ob3, h6, h7, h8, h9⟩ := h5 rfl
        obtain ⟨ob', acc', g1, g2, g3⟩ := ih (i + 1) ob3 (acc ++ [v]) (by omega) h7 h9
        refine ⟨ob', acc', ?_, g2, g3⟩
        simp only [h6]
        have e : (ob3 ++ [Oc.lst acc])[k]? = some (.lst acc) := by rw [← h7]; exact get_last _ _
        rw [e]
        simp only [h8, if_true]
        have e2 : (ob3 ++ [Oc.lst acc]).set k (.lst (acc ++ [v])) = ob3 ++ [.lst (acc ++ [v])] := by rw [← h7]; exact set_last _ _ _
        rw [e2]
        exact g1
  intro ob acc hl hI
  have := key rs.length 0 ob acc (by omega) hl hI
  simpa using this
/-- a comprehension that changes nothing else -/
theorem compL_pure {h : Rv → En → Option En} {gt : M Bool} {fe : M Rv} {sl : List (Option Rv)} {ob : List Oc} (rs : List PyData) (f : PyData → Option Rv)
    (step : ∀ r ∈ rs, ∀ acc, ∃ e1 b sl2, h (.dat r) ⟨sl, ob ++ [.lst acc]⟩ = some e1 ∧ gt e1 = .ok b ⟨sl2, ob ++ [.lst acc]⟩ ∧ (b = false → f r = none) ∧ (b = true → ∃ v sl3, fe ⟨sl2, ob ++ [.lst acc]⟩ = .ok v ⟨sl3, ob ++ [.lst acc]⟩ ∧ f r = some v)) :
    ∀ acc, acc.length + rs.length ≤ sizeLine → compL h gt fe sl ob.length rs ⟨sl, ob ++ [.lst acc]⟩ = some ⟨sl, ob ++ [.lst (acc ++ rs.filterMap f)]⟩ := by
  induction rs with
  | nil => intro acc _; simp [compL]
  | cons r rs ih =>
    intro acc hl
    obtain ⟨e1, b, sl2, h1, h2, h3, h4⟩ := step r (List.mem_cons_self ..) acc
    have ih' := ih fun r hr => step r (List.mem_cons_of_mem _ hr)
    simp only [List.length_cons] at hl
    unfold compL
    rw [h1]
    simp only [h2]
    cases b with
    | false => rw [List.filterMap_cons, h3 rfl]; exact ih' acc (by omega)
    | true =>
      obtain ⟨v, sl3, h5, h6⟩ := h4 rfl
      simp only [h5, get_last]
      rw [if_pos (by omega), set_last, ih' (acc ++ [v]) (by simp; omega), List.filterMap_cons, h6]
      simp
theorem while_count {gc : M Bool} {G : M Fl} (e : Nat → En) (n : Nat) (h1 : ∀ i, i < n → gc (e i) = .ok true (e i) ∧ G (e i) = .ok .nx (e (i + 1))) (h2 : gc (e n) = .ok false (e n)) : whileM gc G (e 0) = .ok .nx (e n) := by
  have key : ∀ (k i : Nat), i + k = n → whileN gc G (k + 1) (e i) = some (.ok .nx (e n)) := by
    intro k
    induction k with
    | zero =>
      intro i hi
      have : i = n := by omega
      subst this
      unfold whileN
      rw [h2]
    | succ k ih =>
      intro i hi
      obtain ⟨a, b⟩ := h1 i (by omega)
      unfold whileN
      rw [a]
      simp only [b]
      exact ih (i + 1) (by omega)
  exact whileM_eq (key n 0 (by omega))
/-! ### kinds -/
theorem k_nt : kitB "NoneType" "tuple" = some false := by decide +kernel
theorem k_nl : kitB "NoneType" "list" = some false := by decide +kernel
theorem k_ns : kitB "NoneType" "str" = some false := by decide +kernel
theorem k_bt : kitB "bool" "tuple" = some false := by decide +kernel
theorem k_bl : kitB "bool" "list" = some false := by decide +kernel
theorem k_bs : kitB "bool" "str" = some false := by decide +kernel
theorem k_it : kitB "int" "tuple" = some false := by decide +kernel
theorem k_il : kitB "int" "list" = some false := by decide +kernel
theorem k_is : kitB "int" "str" = some false := by decide +kernel
theorem k_st : kitB "str" "tuple" = some false := by decide +kernel
theorem k_sl : kitB "str" "list" = some false := by decide +kernel
theorem k_ss : kitB "str" "str" = some true := by decide +kernel
theorem k_tt : kitB "tuple" "tuple" = some true := by decide +kernel
theorem k_tl : kitB "tuple" "list" = some false := by decide +kernel
theorem k_ts : kitB "tuple" "str" = some false := by decide +kernel
theorem k_ti : kitB "tuple" "int" = some false := by decide +kernel
theorem k_tb : kitB "tuple" "bool" = some false := by decide +kernel
theorem k_lt : kitB "list" "tuple" = some false := by decide +kernel
theorem k_ll : kitB "list" "list" = some true := by decide +kernel
theorem k_ls : kitB "list" "str" = some false := by decide +kernel
theorem k_li : kitB "list" "int" = some false := by decide +kernel
theorem k_lb : kitB "list" "bool" = some false := by decide +kernel
/-! ### equality -/
theorem q_int (i j : Int) : eqG (.int i) (.int j) = some (.bool (i == j)) := by unfold eqG; simp [SeqAt.shaped, PyData.canLay0, PyData.depth, PyData.eqv]
theorem q_bool (i j : Bool) : eqG (.bool i) (.bool j) = some (.bool (i == j)) := by unfold eqG; simp [SeqAt.shaped, PyData.canLay0, PyData.depth, PyData.eqv]
theorem q_nint (i j : Int) : neG (.int i) (.int j) = some (.bool (!(i == j))) := by unfold neG; simp [SeqAt.shaped, PyData.canLay0, PyData.depth, PyData.eqv]
theorem q_nbool (i j : Bool) : neG (.bool i) (.bool j) = some (.bool (!(i == j))) := by unfold neG; simp [SeqAt.shaped, PyData.canLay0, PyData.depth, PyData.eqv]
theorem ints_lay : ∀ l : List Int, PyData.canLayAll0 (l.map PyData.int) = true
  | [] => by simp [PyData.canLayAll0]
  | i :: l => by simp [PyData.canLayAll0, PyData.canLay0, ints_lay l]
theorem ints_dep : ∀ l : List Int, PyData.depthAll (l.map PyData.int) = 0
  | [] => by simp [PyData.depthAll]
  | i :: l => by simp [PyData.depthAll, PyData.depth, ints_dep l]
theorem q_ntup0 (l : List Int) : neG (.tuple (l.map PyData.int)) (.tuple []) = some (.bool (!l.isEmpty)) := by
  unfold neG
  cases l with
  | nil => simp [SeqAt.shaped, PyData.canLay0, PyData.canLayAll0, PyData.depth, PyData.depthAll, PyData.eqv, PyData.eqvAll]
  | cons i l => simp [SeqAt.shaped, PyData.canLay0, PyData.canLayAll0, PyData.depth, PyData.depthAll, PyData.eqv, PyData.eqvAll, ints_lay, ints_dep]
theorem q_lst0 : eqG (.list []) (.list []) = some (.bool true) := by
  unfold eqG
  simp [SeqAt.shaped, PyData.canLay0, PyData.canLayAll0, PyData.depth, PyData.depthAll, PyData.eqv, PyData.eqvAll]
theorem mul_ok {i j : Int} (h0 : 0 ≤ j) (h1 : j < 1000000) : mulG (.int i) (.int j) = some (.int (i * j)) := by
  have e : (1000000 : Int) ≤ 2 ^ 64 := by decide
  unfold mulG
  refine if_pos (Or.inr ⟨?_, ?_⟩)
  · generalize (2 : Int) ^ 64 = n at *; omega
  · generalize (2 : Int) ^ 64 = n at *; omega
theorem mul_c {i : Int} : mulG (.int i) (.int 48271) = some (.int (i * 48271)) := mul_ok (by decide) (by decide)
theorem rng1_ok (n : Nat) (h : n < 1000000) (en : En) : rng1I [.dat (.int (n : Int))] en = .ok (upI 0 n) en := by
  have e : (1000000 : Int) ≤ 2 ^ 62 := by decide
  unfold rng1I
  have c : -(2 ^ 62) ≤ (n : Int) ∧ (n : Int) < 2 ^ 62 := by
    constructor
    · generalize (2 : Int) ^ 62 = k at *; omega
    · generalize (2 : Int) ^ 62 = k at *; omega
  simp only [c, and_self, if_true, Int.toNat_natCast]
theorem sq_to {m k : M Fl} {en : En} {o : Out Fl} (e : En) (h : m en = .ok .nx e) (h2 : k e = o) : sq m k en = o := by unfold sq; rw [h]; exact h2
theorem bnd_to {α β : Type} {m : M α} {k : α → M β} {en : En} {o : Out β} (a : α) (e : En) (h : m en = .ok a e) (h2 : k a e = o) : bnd m k en = o := by unfold bnd; rw [h]; exact h2
theorem sq_to_ret {m k : M Fl} {en e : En} {r : Rv} (h : m en = .ok (.ret r) e) : (match m en with
  | .ok .nx e => k e
  | o => o) = .ok (.ret r) e := by rw [h]
theorem sq_ret {m k : M Fl} {en e : En} {r : Rv} (h : m en = .ok (.ret r) e) : sq m k en = .ok (.ret r) e := by unfold sq; rw [h]
theorem runR_ok {np n : Nat} {G : M Fl} {rows ds rows' : List PyData} {d : PyData} {e : En} (hl : ds.length + 1 = np) (h : G ⟨some (.own 0) :: slots0 (n - 1) ds, [.lst (rows.map Rv.dat)]⟩ = .ok (.ret (.dat d)) e) (h2 : rowOf e = some rows') : runR np n G rows ds = .ok d rows' := by
  unfold runR
  rw [if_pos hl, h]
  simp [frz, h2]
theorem runD_ok {np n : Nat} {G : M Fl} {ds : List PyData} {d : PyData} {e : En} (hl : ds.length = np) (h : G ⟨slots0 n ds, []⟩ = .ok (.ret (.dat d)) e) : runD np n G ds = .ok d := by
  unfold runD
  rw [if_pos hl, h]
  simp [frz]
theorem runD_nx {np n : Nat} {G : M Fl} {ds : List PyData} {e : En} (hl : ds.length = np) (h : G ⟨slots0 n ds, []⟩ = .ok .nx e) : runD np n G ds = .ok .none := by
  unfold runD
  rw [if_pos hl, h]
theorem cut2 (l : List PyData) : cutD l none (some 2) = l.take 2 := by
  unfold cutD
  simp [HT.sIx, List.take_eq_take_iff]
end Pd

namespace Pd
open PySem PySem.Spec PyProof.Rows L2
variable [Lams]
theorem code_cT {K : PySem.W.Frag} {x qual : Str} {params : Arguments} {body : List Stmt} {scope : Scope} {fd : FuncData} (F : FunD K x qual params body scope [] [] (He.ga K x) fd) : fd.code = .ref (He.cT K (x, none)).1 := by
  obtain ⟨oc, od, dV, kV, doc, pm, an, cdv, ct, osl, rfl, lk, hcd, _, _⟩ := F.ex
  obtain ⟨c, rfl⟩ := He.codeIn_ref hcd
  show Value.ref c = .ref (He.codeOf K (x, none))
  rw [He.codeOf_eq (p := (x, none)) lk rfl]
theorem tabB_of {base : Heap} {mg : Str → Option Value} {c P : Addr} (q : LamX.TabB base mg c P) : GxR.TabB base mg c P := ⟨q.code, q.bm, q.gP⟩
open Classical in
/-- the start: the tables set apart -/
noncomputable def F0 (TT : Tt) (H : Hp) : Hp := fun b => if TT b then none else H b
theorem F0_same (TT : Tt) (H : Hp) : Same (F0 TT H) H := fun b o e => by
  unfold F0 at e
  split at e
  · cases e
  · exact e
theorem F0_at {TT : Tt} {H : Hp} {b : Addr} {o : HO} (e : H b = some o) (h : ∀ P, TT P → H P = some (.tbl #[])) (n : o ≠ .tbl #[]) : F0 TT H b = some o := by
  unfold F0
  rw [if_neg]
  · exact e
  · intro t
    have q := h b t
    rw [e] at q
    cases q
    exact n rfl
theorem law_start {K : PySem.W.Frag} {TT : Tt} {Fn : List PyData → Res} {H : Hp} {a : Addr} {ns : List Int} (h : ∀ P, TT P → H P = some (.tbl #[])) (hS : SqL K H a (ns.map V.int)) (hF : Fn [.list (ns.map PyData.int)] = .ok (.bool true)) :
    spD K TT Fn [.ref a] H (fun v _ => v = .bl true) (fun _ _ _ => False) := by
  refine ⟨F0 TT H, [.list (ns.map PyData.int)], F0_same TT H, fun P t => ⟨⟨#[], h P t, trivial⟩, ?_⟩, .cons (.lst ?_ (dpAll_ofInts ns)) .nil, ?_⟩
  · unfold F0
    rw [if_pos t]
  · rcases hS with (e | ⟨o, e⟩) | e
    · exact .inl (.inl (F0_at e h (fun z => by cases z)))
    · exact .inl (.inr ⟨o, F0_at e h (fun z => by cases z)⟩)
    · exact .inr e
  · rw [hF]
    intro v F' H' _ hd
    cases hd
    rfl
theorem no_cx {P : Program} {w : World} {H : Hp} {s s' : Shared} {e : Value} (h : L2.CX P w [] H s (fun _ _ _ => False) e s') : False := by
  obtain ⟨_, _, _, _, _, _, _, _, _, _, _, _, z⟩ := h
  exact z
end Pd

namespace Pd
open PySem PySem.Spec PyProof.Rows L2
variable [Lams]
/-! ## calls that are lent the whole table of owned objects -/
inductive GRes where
  | ok (r : Rv) (ob : List Oc)
  | exc (x : Ex) (ob : List Oc)
  | bad
structure Tb (K : PySem.W.Frag) (TT : Tt) (al : List Addr) (ob : List Oc) (F H : Hp) : Prop where
  sub : Same F H
  tabs : Tabs TT F H
  alen : al.length = ob.length
  objs : ∀ (k : Nat) (a : Addr) (oc : Oc), al[k]? = some a → ob[k]? = some oc → OcOk K F al H a oc
  anod : al.Nodup
  atab : ∀ a, a ∈ al → ¬ TT a
structure GF (K : PySem.W.Frag) (TT : Tt) (F : Hp) (al : List Addr) (H : Hp) (F' : Hp) (al' : List Addr) (H' : Hp) (ob' : List Oc) : Prop where
  t : Tb K TT al' ob' F' H'
  f : Same F F'
  a : al <+: al'
  keep : ∀ b o, H b = some o → ¬ TT b → b ∉ al → H' b = some o
  new : ∀ b, F' b ≠ none → F b ≠ none ∨ Im H b ∨ b ∈ al
  anew : ∀ b, b ∈ al' → H b = none ∨ b ∈ al
def spG (K : PySem.W.Frag) (TT : Tt) (Fn : List Rv → List Oc → GRes) : Sp := fun vs H Q E => ∃ (F : Hp) (al : List Addr) (ob : List Oc) (rs : List Rv), Tb K TT al ob F H ∧ RvAll K F al vs rs ∧
  match Fn rs ob with
  | .ok r ob' => ∀ v F' al' H', GF K TT F al H F' al' H' ob' → RvR K F' al' v r → Q v H'
  | .exc x ob' => ∀ cls dO F' al' H', GF K TT F al H F' al' H' ob' → ExAt K F' H' x cls dO → E cls dO H'
  | .bad => False
def callG (Fn : List Rv → List Oc → GRes) (rs : List Rv) : M Rv := fun en => match Fn rs en.ob with
  | .ok r ob' => .ok r { en with ob := ob' }
  | .exc x ob' => .exc x { en with ob := ob' }
  | .bad => .bad
def fCallG (Fn : List Rv → List Oc → GRes) (fs : M (List Rv)) : M Rv := bnd fs (callG Fn)
theorem mem_get {al : List Addr} {b : Addr} (h : b ∈ al) : ∃ k : Nat, al[k]? = some b := by
  obtain ⟨k, hk, e⟩ := List.getElem_of_mem h
  exact ⟨k, by rw [List.getElem?_eq_getElem hk, e]⟩
theorem Sv.tb {K : PySem.W.Frag} {TT : Tt} {g : Gh} {al : List Addr} {en : En} {F : Hp} {σ : L2.St} {H : Hp} (s : Sv K TT g al en F σ H) : Tb K TT al en.ob F H := ⟨s.sub, s.tabs, s.alen, s.objs, s.anod, s.atab⟩
theorem Sv.gf {K : PySem.W.Frag} {TT : Tt} {g : Gh} {al al' : List Addr} {en : En} {F F' : Hp} {σ : L2.St} {H H' : Hp} {ob' : List Oc} (s : Sv K TT g al en F σ H) (h : GF K TT F al H F' al' H' ob') : Sv K TT g al' { en with ob := ob' } F' σ H' := by
  have l : Le F al F' al' := ⟨h.f, h.a⟩
  have an : ∀ b, b ∈ al → g.H0 b = none ∨ g.bor b := fun b hb => by
    obtain ⟨k, e⟩ := mem_get hb
    exact s.anew k b e
  exact {
  sub := h.t.sub
  frF := s.frF.trans h.f
  nF := fun b hb => by
    rcases h.new b hb with z | z | z
    · exact s.nF b z
    · exact .inr (s.im0 z)
    · rcases an b z with w | w
      · exact .inr (.inl (.inl w))
      · exact .inr (.inr w)
  frame := fun b o e nt nb => h.keep b o (s.frame b o e nt nb) nt fun hb => by
    rcases an b hb with w | w
    · rw [w] at e; cases e
    · exact nb w
  tabs := h.t.tabs
  len := s.len
  slots := fun i r e => by
    obtain ⟨v, f1, q⟩ := s.slots i r e
    exact ⟨v, f1, q.mono l⟩
  alen := h.t.alen
  objs := h.t.objs
  anew := fun k b e => by
    rcases h.anew b (List.mem_of_getElem? e) with z | z
    · exact .inl (s.g0 z)
    · exact an b z
  bin := fun b hb => h.a.subset (s.bin b hb)
  anod := h.t.anod
  atab := h.t.atab }
section
variable {X : Cx} {TT : Tt} {W : WX} {a b c : Expr} {fa fb fc : M Rv} {pos : Pos} {es : List Expr} {fs : M (List Rv)} {x : Str} {p : Pos}
theorem GF.le {K : PySem.W.Frag} {F F' H H' : Hp} {al al' : List Addr} {ob' : List Oc} (h : GF K TT F al H F' al' H' ob') : Le F al F' al' := ⟨h.f, h.a⟩
theorem pd_callG {k : Nat} {f : Addr} {fd : FuncData} {ps : List Str} {Fn : List Rv → List Oc → GRes} (G : FnOk X.prog X.w X.K X.mg X.base (L2.CX X.prog X.w) k f fd ps (spG X.K TT Fn)) (hr : Room k X.A) (hm : X.mg x = some (.ref f)) (hk : PySem.W.keepIn X.K (.ref f) = true) (hb : Binds X.K fd ps [])
    (hx : ∀ σ, PassesAt (L2.CX X.prog X.w) X σ (WE W σ)) (ha : PAD X TT W (a :: es) fs) (hg : Gl X x := by rfl) (hdb : (x == ("__debug__" : Str)) = false := by decide) (he : starEach (a :: es) X.env = (false, eval a X.env) :: starEach es X.env := by rfl) (hpl : (backTo pos (starEach es X.env)).any (·.1) = false := by rfl) :
    PD X TT W (.Call (.Name x p) (a :: es) [] pos) (fCallG Fn fs) := by
  obtain ⟨⟨t, pt, q⟩⟩ := ha
  refine ⟨⟨_, pe_callS (E := WE W) G hr hg hm hk hb hx pt hdb he hpl, fun g al en F σ H Q s h => ?_⟩⟩
  refine q g al en F σ H _ s (Post.seq h fun rs e1 F1 a1 H1 l1 s1 p1 vs r1 => ?_)
  refine ⟨F1, a1, e1.ob, rs, s1.tb, r1, ?_⟩
  unfold callG at p1
  split
  · rename_i r ob' e
    rw [e] at p1
    exact fun v F' al' H' hf hd => p1 F' al' H' hf.le (s1.gf hf) v hd
  · rename_i x ob' e
    rw [e] at p1
    exact fun cls dO F' al' H' hf hx => p1 F' al' H' cls dO hf.le (s1.gf hf) hx
  · rename_i e
    rw [e] at p1
    exact p1
end
def slotsG (n : Nat) (rs : List Rv) : List (Option Rv) := rs.map some ++ List.replicate (n - rs.length) none
def runG (np n : Nat) (G : M Fl) (rs : List Rv) (ob : List Oc) : GRes := if rs.length = np then (match G { sl := slotsG n rs, ob := ob } with
  | .ok .nx e => .ok (.dat .none) e.ob
  | .ok (.ret r) e => .ok r e.ob
  | .exc x e => .exc x e.ob
  | _ => .bad) else .bad
section
variable {P : Program} {w : World} {K : PySem.W.Frag} {mg : Str → Option Value} {base : Heap} {TT : Tt} {x qual : Str} {params : Arguments} {body : List Stmt} {scope : Scope} {f : Addr} {fd : FuncData} {N ps : List Str} {k : Nat} {G : M Fl}
theorem start_slotsG {F : Hp} {al : List Addr} {N : List Str} {vs : List V} {rs : List Rv} (h : RvAll K F al vs rs) : (L2.start N vs).length = (slotsG N.length rs).length ∧ ∀ (i : Nat) (r : Rv), (slotsG N.length rs)[i]? = some (some r) → ∃ v, (L2.start N vs)[i]? = some (some v) ∧ SlR K TT F al v r := by
  have hl := h.len
  refine ⟨by simp [L2.start, slotsG, hl], fun i r e => ?_⟩
  unfold slotsG at e
  unfold L2.start
  by_cases hi : i < rs.length
  · rw [List.getElem?_append_left (by simpa using hi), List.getElem?_map] at e
    rw [List.getElem?_append_left (by simpa [hl] using hi), List.getElem?_map]
    cases q : rs[i]? with
    | none => rw [q] at e; cases e
    | some r' =>
      rw [q] at e
      simp at e
      subst e
      obtain ⟨v, e1, f1⟩ := h.get q
      exact ⟨v, by rw [e1]; rfl, f1.sl⟩
  · rw [List.getElem?_append_right (by simpa using hi)] at e
    by_cases hr : i - (rs.map some).length < N.length - rs.length
    · rw [List.getElem?_replicate_of_lt hr] at e; cases e
    · rw [List.getElem?_eq_none (by simpa using hr)] at e; cases e
theorem Sv.startG {F H : Hp} {al : List Addr} {ob : List Oc} {vs : List V} {rs : List Rv} (t : Tb K TT al ob F H) (h : RvAll K F al vs rs) : Sv K TT ⟨F, H, fun b => b ∈ al⟩ al { sl := slotsG N.length rs, ob := ob } F (L2.start N vs) H where
  sub := t.sub
  frF := Same.refl _
  nF := fun b hb => .inl hb
  frame := fun b o e _ _ => e
  tabs := t.tabs
  len := (start_slotsG (TT := TT) (N := N) h).1
  slots := (start_slotsG (TT := TT) (N := N) h).2
  alen := t.alen
  objs := t.objs
  anew := fun k a e => .inr (List.mem_of_getElem? e)
  bin := fun b hb => hb
  anod := t.anod
  atab := t.atab
theorem Sv.toGF {F H F' H' : Hp} {al al' : List Addr} {en : En} {σ : L2.St} (s : Sv K TT ⟨F, H, fun b => b ∈ al⟩ al' en F' σ H') (ha : al <+: al') : GF K TT F al H F' al' H' en.ob where
  t := s.tb
  f := s.frF
  a := ha
  keep := fun b o e nt nb => s.frame b o e nt nb
  new := fun b hb => s.nF b hb
  anew := fun b hb => by
    obtain ⟨k, e⟩ := mem_get hb
    exact s.anew k b e
theorem okG (Fd : FunD K x qual params body scope [] [] f fd) (S : FnScope N ps scope) (hG : ∀ z E, Room k (z.2.1.deeper (envOfC qual scope z.2.2.2.1.heap.objs.size f z.1)) → z.1 = fd.code → PSsD (Cb P w K mg base N qual scope f z E) TT (fun cls d _ H => E cls d H) body G) :
    FnOk P w K mg base (L2.CX P w) (k + 1) f fd ps (spG K TT (runG ps.length N.length G)) := by
  refine okc Fd S (fun vs H Q E h => ?_) (fun A outer s H vs Q E hr h => ?_)
  · obtain ⟨F, al, ob, rs, _, h3, h4⟩ := h
    by_cases e : rs.length = ps.length
    · rw [h3.len]; exact e
    · unfold runG at h4
      rw [if_neg e] at h4
      exact h4.elim
  · obtain ⟨F, al, ob, rs, h1, h3, h4⟩ := h
    obtain ⟨⟨t, pt, q⟩⟩ := hG (fd.code, A, outer, s, H) E hr rfl
    refine ⟨t, pt, q ⟨F, H, fun b => b ∈ al⟩ al { sl := slotsG N.length rs, ob := ob } F (L2.start N vs) H _ (Sv.startG h1 h3) ?_⟩
    unfold runG at h4
    by_cases e0 : rs.length = ps.length
    · rw [if_pos e0] at h4
      cases qg : G { sl := slotsG N.length rs, ob := ob } with
      | bad => rw [qg] at h4; exact h4.elim
      | exc x e =>
        rw [qg] at h4
        exact fun F' al' σ' H' cls dO l s2 hx => h4 cls dO F' al' H' (s2.toGF l.a) hx
      | ok fl e =>
        rw [qg] at h4
        cases fl with
        | brk => exact h4.elim
        | cnt => exact h4.elim
        | nx => exact fun F' al' σ' H' l s2 => h4 .non F' al' H' (s2.toGF l.a) Dp.non
        | ret r => exact fun v F' al' σ' H' l s2 hv => h4 v F' al' H' (s2.toGF l.a) hv
    · rw [if_neg e0] at h4
      exact h4.elim
end
end Pd

namespace Pd
open PySem PySem.Spec PyProof.Rows L2
variable [Lams]
/-! ## owned things of any kind: laid, written -/
def OcAt (K : PySem.W.Frag) (F : Hp) (al : List Addr) (o : HO) : Oc → Prop
  | .lst rs => ∃ xs, o = .lst xs ∧ RvAll K F al xs rs
  | .fz _ => False
  | .dk kvs => ∃ vs, o = .dK vs ∧ KvR K F al vs kvs
  | .dt kvs => ∃ vs, o = .dT vs ∧ KvR K F al vs kvs
  | .ins n fs => ∃ dx vs, o = .ins (He.ga K n) dx vs ∧ KvR K F al vs fs
  | .fk _ => False
  | .ft _ => False
  | .ltab => False
  | .any => False
def Oc.open : Oc → Bool
  | .fz _ => false
  | .fk _ => false
  | .ft _ => false
  | .ltab => false
  | .any => false
  | _ => true
section
variable {K : PySem.W.Frag} {TT : Tt} {g : Gh} {al al' : List Addr} {en en' : En} {F F' : Hp} {σ σ' : L2.St} {H H' : Hp}
theorem OcAt.ok {a : Addr} {o : HO} {oc : Oc} (h : OcAt K F al o oc) (hf : F a = none) (hH : H a = some o) : OcOk K F al H a oc := by
  cases oc with
  | lst rs => obtain ⟨xs, rfl, q⟩ := h; exact ⟨hf, xs, hH, q⟩
  | fz _ => exact h.elim
  | fk _ => exact h.elim
  | ft _ => exact h.elim
  | ltab => exact h.elim
  | any => exact h.elim
  | dk kvs => obtain ⟨xs, rfl, q⟩ := h; exact ⟨hf, xs, hH, q⟩
  | dt kvs => obtain ⟨xs, rfl, q⟩ := h; exact ⟨hf, xs, hH, q⟩
  | ins n fs => obtain ⟨dx, xs, rfl, q⟩ := h; exact ⟨hf, dx, xs, hH, q⟩
theorem OcAt.mono {o : HO} {oc : Oc} (h : OcAt K F al o oc) (l : Le F al F' al') : OcAt K F' al' o oc := by
  cases oc with
  | lst rs => obtain ⟨xs, e, q⟩ := h; exact ⟨xs, e, q.mono l⟩
  | fz _ => exact h.elim
  | fk _ => exact h.elim
  | ft _ => exact h.elim
  | ltab => exact h.elim
  | any => exact h.elim
  | dk kvs => obtain ⟨xs, e, q⟩ := h; exact ⟨xs, e, q.mono l⟩
  | dt kvs => obtain ⟨xs, e, q⟩ := h; exact ⟨xs, e, q.mono l⟩
  | ins n fs => obtain ⟨dx, xs, e, q⟩ := h; exact ⟨dx, xs, e, q.mono l⟩
theorem OcOk.at {a : Addr} {oc : Oc} (h : OcOk K F al H a oc) (hn : oc.open = true) : F a = none ∧ ∃ o, H a = some o ∧ OcAt K F al o oc := by
  cases oc with
  | lst rs => obtain ⟨f, xs, e, q⟩ := h; exact ⟨f, _, e, xs, rfl, q⟩
  | fz _ => cases hn
  | fk _ => cases hn
  | ft _ => cases hn
  | ltab => cases hn
  | any => cases hn
  | dk kvs => obtain ⟨f, xs, e, q⟩ := h; exact ⟨f, _, e, xs, rfl, q⟩
  | dt kvs => obtain ⟨f, xs, e, q⟩ := h; exact ⟨f, _, e, xs, rfl, q⟩
  | ins n fs => obtain ⟨f, dx, xs, e, q⟩ := h; exact ⟨f, _, e, dx, xs, rfl, q⟩
theorem Sv.newOc (s : Sv K TT g al en F σ H) {p : Addr} {o : HO} {oc : Oc} (hp : H p = none) (h : OcAt K F al o oc) :
    Sv K TT g (al ++ [p]) { en with ob := en.ob ++ [oc] } F σ (upd H p o) where
  sub := fun b u e => by rw [upd_ne (ne_of_none (s.sub b u e) hp)]; exact s.sub b u e
  frF := s.frF
  nF := s.nF
  frame := fun b o e nt nb => by
    have z := s.frame b o e nt nb
    rw [upd_ne (ne_of_none z hp)]; exact z
  tabs := s.tabs.newH (s.nt hp)
  len := s.len
  slots := fun i r e => by
    obtain ⟨v, e1, q⟩ := s.slots i r e
    exact ⟨v, e1, q.mono le_own⟩
  alen := by simp [s.alen]
  objs := fun k a oc e1 e2 => by
    by_cases hk : k < al.length
    · rw [List.getElem?_append_left hk] at e1
      rw [List.getElem?_append_left (by rw [← s.alen]; exact hk)] at e2
      refine (s.objs k a oc e1 e2).mono (TT := TT) le_own (fun hne _ => ?_) (s.atab a (List.mem_of_getElem? e1)) fun _ _ z => z
      rw [upd_ne (fun z => hne (by rw [z]; exact hp))]
    · have hk2 : al.length ≤ k := Nat.le_of_not_lt hk
      rw [List.getElem?_append_right hk2] at e1
      rw [List.getElem?_append_right (by rw [← s.alen]; exact hk2)] at e2
      have e0 : k - al.length = 0 := by
        cases q : k - al.length with
        | zero => rfl
        | succ n => rw [q] at e1; simp at e1
      rw [e0] at e1
      rw [← s.alen, e0] at e2
      simp at e1 e2
      subst e1 e2
      exact (h.mono le_own).ok (s.fnone hp) upd_same
  anew := fun k a e1 => by
    by_cases hk : k < al.length
    · rw [List.getElem?_append_left hk] at e1
      exact s.anew k a e1
    · have hk2 : al.length ≤ k := Nat.le_of_not_lt hk
      rw [List.getElem?_append_right hk2] at e1
      cases q : k - al.length with
      | zero =>
        rw [q] at e1; simp at e1; subst e1
        exact .inl (s.g0 hp)
      | succ n => rw [q] at e1; simp at e1
  bin := fun b hb => List.mem_append_left _ (s.bin b hb)
  anod := (s.newOwn (xs := []) hp .nil).anod
  atab := (s.newOwn (xs := []) hp .nil).atab
theorem Sv.writeOc (s : Sv K TT g al en F σ H) {k : Nat} {a : Addr} {oc oc' : Oc} {o' : HO} (e1 : al[k]? = some a) (e2 : en.ob[k]? = some oc) (ho : oc.open = true) (h : OcAt K F al o' oc') :
    Sv K TT g al { en with ob := en.ob.set k oc' } F σ (upd H a o') := by
  have fn := ((s.objs k a oc e1 e2).at ho).1
  exact {
  sub := fun b u e => by rw [upd_ne (ne_of_none e fn)]; exact s.sub b u e
  frF := s.frF
  nF := s.nF
  frame := fun b o e nt nb => by
    have z := s.frame b o e nt nb
    have ne : b ≠ a := fun q => by
      rcases s.anew k a e1 with w | w
      · rw [q, w] at e; cases e
      · exact nb (q ▸ w)
    rw [upd_ne ne]; exact z
  tabs := s.tabs.newH (s.atab a (List.mem_of_getElem? e1))
  len := s.len
  slots := s.slots
  alen := by simp [s.alen]
  objs := fun j b oc f1 f2 => by
    by_cases hj : j = k
    · subst hj
      rw [e1] at f1
      cases f1
      rw [List.getElem?_set_self (by rw [← s.alen]; exact (List.getElem?_eq_some_iff.mp e1).1)] at f2
      cases f2
      exact h.ok fn upd_same
    · rw [List.getElem?_set_ne (Ne.symm hj)] at f2
      have ne : b ≠ a := fun z => hj (nodup_get s.anod f1 (z ▸ e1))
      refine (s.objs j b oc f1 f2).mono (TT := TT) (Le.refl _ _) (fun _ _ => upd_ne ne) (s.atab b (List.mem_of_getElem? f1)) fun _ _ z => z
  anew := s.anew
  bin := s.bin
  anod := s.anod
  atab := s.atab }
end
/-! ## keys -/
def kK : PyData → Option Key
  | .int i => some (.inl i)
  | .str x => some (.inr x)
  | _ => none
def kKs : List PyData → Option (List Key)
  | [] => some []
  | d :: ds => match kK d, kKs ds with
    | some k, some ks => some (k :: ks)
    | _, _ => none
def kT : PyData → Option (List Key)
  | .tuple ds => kKs ds
  | _ => none
section
variable {K : PySem.W.Frag} {F : Hp} {al : List Addr}
theorem kK_ok {d : PyData} {v : V} {k : Key} (h : Dp K F v d) (e : kK d = some k) : v = kV k := by
  cases h with
  | int i => cases e; rfl
  | str x => cases e; rfl
  | _ => cases e
theorem kKs_ok : ∀ {ds : List PyData} {vs : List V} {ks : List Key}, DpAll K F vs ds → kKs ds = some ks → vs = ks.map kV
  | _, _, ks, .nil, e => by cases e; rfl
  | d :: ds, v :: vs, ks, .cons h t, e => by
    unfold kKs at e
    split at e
    · rename_i k ks' e1 e2
      cases e
      rw [kK_ok h e1, kKs_ok t e2]
      rfl
    · cases e
theorem kT_ok {d : PyData} {v : V} {ks : List Key} (h : Dp K F v d) (e : kT d = some ks) : ∃ b, v = .ref b ∧ F b = some (.tup (ks.map kV)) := by
  cases h with
  | tup h1 h2 =>
    rw [kKs_ok h2 e] at h1
    exact ⟨_, rfl, h1⟩
  | _ => cases e
variable {κ : Type} [DecidableEq κ]
def valR (kvs : List (κ × Rv)) (k : κ) : Option Rv := match kvs with
  | [] => none
  | p :: r => if p.1 = k then some p.2 else valR r k
def putR (kvs : List (κ × Rv)) (k : κ) (v : Rv) : List (κ × Rv) := if (valR kvs k).isSome then kvs.map (fun p => if p.1 = k then (p.1, v) else p) else kvs ++ [(k, v)]
theorem kvR_val : ∀ {vs : List (κ × V)} {rs : List (κ × Rv)} (k : κ), KvR K F al vs rs → (valR rs k = none ∧ valV vs k = none) ∨ ∃ r v, valR rs k = some r ∧ valV vs k = some v ∧ RvR K F al v r
  | _, _, k, .nil => .inl ⟨rfl, rfl⟩
  | _, _, k, .cons (k := j) (v := v) (r := r) h t => by
    by_cases e : j = k
    · refine .inr ⟨r, v, ?_, valV_pos (p := (j, v)) e, h⟩
      unfold valR
      rw [if_pos e]
    · have ih := kvR_val k t
      rw [valV_neg (p := (j, v)) e]
      unfold valR
      rw [if_neg e]
      exact ih
theorem kvR_len : ∀ {vs : List (κ × V)} {rs : List (κ × Rv)}, KvR K F al vs rs → vs.length = rs.length
  | _, _, .nil => rfl
  | _, _, .cons _ t => by simp [kvR_len t]
theorem kvR_app : ∀ {vs us : List (κ × V)} {rs qs : List (κ × Rv)}, KvR K F al vs rs → KvR K F al us qs → KvR K F al (vs ++ us) (rs ++ qs)
  | _, _, _, _, .nil, s => s
  | _, _, _, _, .cons h t, s => .cons h (kvR_app t s)
theorem kvR_map (k : κ) {v : V} {r : Rv} (q : RvR K F al v r) : ∀ {vs : List (κ × V)} {rs : List (κ × Rv)}, KvR K F al vs rs → KvR K F al (vs.map fun p => if p.1 = k then (p.1, v) else p) (rs.map fun p => if p.1 = k then (p.1, r) else p)
  | _, _, .nil => .nil
  | _, _, .cons (k := j) h t => by
    simp only [List.map_cons]
    by_cases e : j = k
    · rw [if_pos e, if_pos e]
      exact .cons q (kvR_map k q t)
    · rw [if_neg e, if_neg e]
      exact .cons h (kvR_map k q t)
theorem kvR_put {vs : List (κ × V)} {rs : List (κ × Rv)} {k : κ} {v : V} {r : Rv} (h : KvR K F al vs rs) (q : RvR K F al v r) : KvR K F al (putK vs k v) (putR rs k r) := by
  unfold putK putR
  rw [valV_any k vs]
  rcases kvR_val k h with ⟨a, b⟩ | ⟨r', v', a, b, _⟩
  · rw [a, b]
    exact kvR_app h (.cons q .nil)
  · rw [a, b]
    exact kvR_map k q h
end
end Pd

namespace Pd
open PySem PySem.Spec PyProof.Rows L2
variable [Lams]
section
variable {X : Cx} {TT : Tt} {W : WX} {a b c o i : Expr} {fa fb fc fo fi : M Rv} {pos : Pos}
/-! ## dicts -/
def newM (oc : Oc) : M Rv := fun en => .ok (.own en.ob.length) { en with ob := en.ob ++ [oc] }
theorem newM_post {K : PySem.W.Frag} {g : Gh} {al : List Addr} {en : En} {F : Hp} {σ : L2.St} {H : Hp} {p : Addr} {u : HO} {oc : Oc} {Q : VK} (s : Sv K TT g al en F σ H) (hp : H p = none) (hu : OcAt K F al u oc)
    (h : Post K TT W g F al σ (newM oc en) (fun r _ F' al' H' => ∀ v, RvR K F' al' v r → Q v H')) : Q (.ref p) (upd H p u) := by
  refine h F _ _ le_own (s.newOc hp hu) _ ⟨p, ?_, rfl⟩
  rw [← s.alen, List.getElem?_append_right (Nat.le_refl _)]
  simp
theorem pd_dt0 : PD X TT W (.Dict [] [] pos) (newM (.dt [])) :=
  ⟨⟨_, pe_dnewT, fun g al en F σ H Q s h p hp => newM_post (oc := .dt []) s hp ⟨[], rfl, .nil⟩ h⟩⟩
theorem pd_dk0 : PD X TT W (.Dict [] [] pos) (newM (.dk [])) :=
  ⟨⟨_, pe_dnewK, fun g al en F σ H Q s h p hp => newM_post (oc := .dk []) s hp ⟨[], rfl, .nil⟩ h⟩⟩
/-- what a key finds -/
def dFind (oc : Oc) (d : PyData) : Option (Option Rv) := match oc with
  | .dk kvs => (kK d).map (valR kvs)
  | .dt kvs => (kT d).map (valR kvs)
  | .fk kvs => (kK d).map (valR kvs)
  | .ft kvs => (kT d).map (valR kvs)
  | _ => none
def dPut (oc : Oc) (d : PyData) (v : Rv) : Option Oc := match oc with
  | .dk kvs => if kvs.length < sizeLine then (kK d).map fun k => .dk (putR kvs k v) else none
  | .dt kvs => if kvs.length < sizeLine then (kT d).map fun k => .dt (putR kvs k v) else none
  | _ => none
/-- the owned thing and the key -/
def dLook (en : En) (r ri : Rv) : Option (Option Rv) := match r, ri with
  | .own k, .dat d => (match en.ob[k]? with
    | some oc => dFind oc d
    | none => none)
  | _, _ => none
theorem dLook_ok {K : PySem.W.Frag} {g : Gh} {al : List Addr} {en : En} {F : Hp} {σ : L2.St} {H : Hp} {r ri : Rv} {v vi : V} {res : Option Rv} (s : Sv K TT g al en F σ H) (h : RvR K F al v r) (hi : RvR K F al vi ri) (e : dLook en r ri = some res) :
    ∃ (a : Addr) (ov : Option V), v = .ref a ∧ DGet H a vi ov ∧ ((res = none ∧ ov = none) ∨ ∃ q w, res = some q ∧ ov = some w ∧ RvR K F al w q) := by
  unfold dLook at e
  split at e
  · rename_i k d
    split at e
    · rename_i oc eo
      obtain ⟨a, ea, rfl⟩ := h
      have ok := s.objs k a oc ea eo
      unfold dFind at e
      split at e
      · rename_i kvs
        obtain ⟨_, vs, hv, hr⟩ := ok
        cases ek : kK d with
        | none => rw [ek] at e; cases e
        | some key =>
          rw [ek] at e
          cases e
          rw [kK_ok hi ek]
          refine ⟨a, valV vs key, rfl, DGet.k hv, ?_⟩
          rcases kvR_val key hr with ⟨x, y⟩ | ⟨q, w, x, y, z⟩
          · exact .inl ⟨x, y⟩
          · exact .inr ⟨q, w, x, y, z⟩
      · rename_i kvs
        obtain ⟨_, vs, hv, hr⟩ := ok
        cases ek : kT d with
        | none => rw [ek] at e; cases e
        | some key =>
          rw [ek] at e
          cases e
          obtain ⟨b, rfl, hb⟩ := kT_ok hi ek
          refine ⟨a, valV vs key, rfl, DGet.t hv (s.sub _ _ hb), ?_⟩
          rcases kvR_val key hr with ⟨x, y⟩ | ⟨q, w, x, y, z⟩
          · exact .inl ⟨x, y⟩
          · exact .inr ⟨q, w, x, y, z⟩
      · rename_i kvs
        obtain ⟨od, vs, hv, hr⟩ := ok
        cases ek : kK d with
        | none => rw [ek] at e; cases e
        | some key =>
          rw [ek] at e
          cases e
          rw [kK_ok hi ek]
          refine ⟨a, valV vs key, rfl, .inl ⟨vs, key, .inr ⟨od, s.sub _ _ hv⟩, rfl, rfl⟩, ?_⟩
          rcases kvR_val key hr with ⟨x, y⟩ | ⟨q, w, x, y, z⟩
          · exact .inl ⟨x, y⟩
          · exact .inr ⟨q, w, x, y, z⟩
      · rename_i kvs
        obtain ⟨od, vs, hv, hr⟩ := ok
        cases ek : kT d with
        | none => rw [ek] at e; cases e
        | some key =>
          rw [ek] at e
          cases e
          obtain ⟨b, rfl, hb⟩ := kT_ok hi ek
          refine ⟨a, valV vs key, rfl, .inr ⟨vs, key, b, .inr ⟨od, s.sub _ _ hv⟩, rfl, s.sub _ _ hb, rfl⟩, ?_⟩
          rcases kvR_val key hr with ⟨x, y⟩ | ⟨q, w, x, y, z⟩
          · exact .inl ⟨x, y⟩
          · exact .inr ⟨q, w, x, y, z⟩
      · cases e
    · cases e
  · cases e
def dGetM (r ri : Rv) : M Rv := fun en => match dLook en r ri with
  | some (some v) => .ok v en
  | _ => .bad
def dInM (neg : Bool) (ri r : Rv) : M Rv := fun en => match dLook en r ri with
  | some o => .ok (.dat (.bool (if neg then !o.isSome else o.isSome))) en
  | none => .bad
theorem pd_dget (hu : X.A.units + 64 < cLine) (ho : PD X TT W o fo) (hi : PD X TT W i fi) (hs : NoSl i := by intro _ _; rfl) : PD X TT W (.Subscript o i pos) (bnd fo fun r => bnd fi fun ri => dGetM r ri) := by
  obtain ⟨⟨t, pt, q⟩⟩ := ho
  obtain ⟨⟨t2, pt2, q2⟩⟩ := hi
  refine ⟨⟨_, pe_dget (by omega) pt pt2 hs, fun g al en F σ H Q s h => ?_⟩⟩
  refine q g al en F σ H _ s (Post.seq h fun r e1 F1 a1 H1 l1 s1 p1 v1 r1 => ?_)
  refine q2 g a1 e1 F1 σ H1 _ s1 (Post.seq p1 fun ri e2 F2 a2 H2 l2 s2 p2 v2 r2 => ?_)
  unfold dGetM at p2
  split at p2
  · rename_i v e
    obtain ⟨a, ov, rfl, dg, hh⟩ := dLook_ok s2 (r1.mono l2) r2 e
    rcases hh with ⟨x, _⟩ | ⟨q, w, x, y, z⟩
    · cases x
    · cases x
      subst y
      exact ⟨a, w, rfl, dg, p2.here s2 w z⟩
  · exact p2.elim
theorem pd_din (neg : Bool) (hu : X.A.units + 64 < cLine) (hi : PD X TT W i fi) (ho : PD X TT W o fo) (hm : behindInMarks (if neg then .NotIn else .In) o = false := by rfl) : PD X TT W (.Compare i [if neg then .NotIn else .In] [o] pos) (bnd fi fun ri => bnd fo fun r => dInM neg ri r) := by
  obtain ⟨⟨t, pt, q⟩⟩ := hi
  obtain ⟨⟨t2, pt2, q2⟩⟩ := ho
  have key : ∀ g al en F σ H (Q : VK), Sv X.K TT g al en F σ H → Post X.K TT W g F al σ ((bnd fi fun ri => bnd fo fun r => dInM neg ri r) en) (fun r _ F' al' H' => ∀ v, RvR X.K F' al' v r → Q v H') →
      t σ H fun y H1 => t2 σ H1 fun x H2 => ∃ a o, x = V.ref a ∧ DGet H2 a y o ∧ Q (.bl (if neg then !o.isSome else o.isSome)) H2 := fun g al en F σ H Q s h => by
    refine q g al en F σ H _ s (Post.seq h fun ri e1 F1 a1 H1 l1 s1 p1 v1 r1 => ?_)
    refine q2 g a1 e1 F1 σ H1 _ s1 (Post.seq p1 fun r e2 F2 a2 H2 l2 s2 p2 v2 r2 => ?_)
    unfold dInM at p2
    split at p2
    · rename_i o e
      obtain ⟨a, ov, rfl, dg, hh⟩ := dLook_ok s2 r2 (r1.mono l2) e
      have es : ov.isSome = o.isSome := by
        rcases hh with ⟨x, y⟩ | ⟨q, w, x, y, z⟩
        · rw [x, y]; rfl
        · rw [x, y]; rfl
      refine ⟨a, ov, rfl, dg, ?_⟩
      rw [es]
      exact p2.here s2 _ (Dp.bl _)
    · exact p2.elim
  cases neg with
  | false => exact ⟨⟨_, pe_cmp (pc_din (by omega) pt pt2) hm, fun g al en F σ H Q s h => key g al en F σ H Q s h⟩⟩
  | true => exact ⟨⟨_, pe_cmp (pc_dnotin (by omega) pt pt2) hm, fun g al en F σ H Q s h => key g al en F σ H Q s h⟩⟩
def dSetM (v r ri : Rv) : M Fl := fun en => match r, ri with
  | .own k, .dat d => (match en.ob[k]? with
    | some oc => (match dPut oc d v with
      | some oc' => .ok .nx { en with ob := en.ob.set k oc' }
      | none => .bad)
    | none => .bad)
  | _, _ => .bad
theorem sd_dput {pos' : Pos} (hu : X.A.units + 64 < cLine) (hv : PD X TT W a fa) (ho : PD X TT W o fo) (hi : PD X TT W i fi) (hs : swapsWith a (some (.Subscript o i pos')) pos.line X.env = pure false := by rfl) :
    PSD X TT W (.Assign [.Subscript o i pos'] a pos) (bnd fa fun v => bnd fo fun r => bnd fi fun ri => dSetM v r ri) := by
  obtain ⟨⟨t0, pt0, q0⟩⟩ := hv
  obtain ⟨⟨t, pt, q⟩⟩ := ho
  obtain ⟨⟨t2, pt2, q2⟩⟩ := hi
  refine ⟨⟨_, ps_dput (by omega) pt pt2 pt0 hs, fun g al en F σ H D s h => q0 g al en F σ H _ s (h.seq fun v e0 F0 a0 H0 l0 s0 p0 v0 r0 => ?_)⟩⟩
  refine q g a0 e0 F0 σ H0 _ s0 (p0.seq fun r e1 F1 a1 H1 l1 s1 p1 v1 r1 => ?_)
  refine q2 g a1 e1 F1 σ H1 _ s1 (p1.seq fun ri e2 F2 a2 H2 l2 s2 p2 v2 r2 => ?_)
  unfold dSetM at p2
  split at p2
  · rename_i k d
    split at p2
    · rename_i oc eo
      split at p2
      · rename_i oc' ep
        obtain ⟨a, ea, rfl⟩ := r1.mono l2
        have ok := s2.objs k a oc ea eo
        have rv : RvR X.K F2 a2 v0 v := (r0.mono l1).mono l2
        unfold dPut at ep
        split at ep
        · rename_i kvs
          split at ep
          · rename_i hl
            obtain ⟨_, vs, hvs, hr⟩ := ok
            cases ek : kK d with
            | none => rw [ek] at ep; cases ep
            | some key =>
              rw [ek] at ep
              cases ep
              rw [kK_ok r2 ek]
              refine ⟨a, _, rfl, DPut.k hvs (by rw [kvR_len hr]; exact hl), p2.next (Le.refl _ _) (s2.writeOc ea eo rfl ⟨_, rfl, kvR_put hr rv⟩)⟩
          · cases ep
        · rename_i kvs
          split at ep
          · rename_i hl
            obtain ⟨_, vs, hvs, hr⟩ := ok
            cases ek : kT d with
            | none => rw [ek] at ep; cases ep
            | some key =>
              rw [ek] at ep
              cases ep
              obtain ⟨b, rfl, hb⟩ := kT_ok r2 ek
              refine ⟨a, _, rfl, DPut.t hvs (s2.sub _ _ hb) (by rw [kvR_len hr]; exact hl), p2.next (Le.refl _ _) (s2.writeOc ea eo rfl ⟨_, rfl, kvR_put hr rv⟩)⟩
          · cases ep
        · cases ep
      · exact p2.elim
    · exact p2.elim
  · exact p2.elim
end
end Pd

namespace Pd
open PySem PySem.Spec PyProof.Rows L2
variable [Lams]
/-! ## the pairs of a dict with tuple keys, the dict locked for good -/
section
variable {X : Cx} {pins : List (Addr × Obj)} {σ : L2.St} {H : Hp} {s : Shared} {d : Addr} {o : Obj}
theorem frzT2 {kvs : List (List Key × V)} (I : L2.Inv X pins σ H s) (h : H d = some (.frz o (.dT kvs))) :
    (d == sysModules) = false ∧ s.heap.get? d = some o ∧ o.ExactDict ∧ ∃ (es : Array DictEntry) (ep : Nat), o.data = .dict es ep ∧ es.size = kvs.length ∧
      ∀ (i : Nat) (k : List Key) (v : V), kvs[i]? = some (k, v) → ∃ (en : DictEntry) (q : Addr), es[i]? = some en ∧ en.key = .ref q ∧ H q = some (.tup (k.map kV)) ∧ RelV v en.val := by
  obtain ⟨hd, z, hs, xs, pr, o', es, ep, ho, hx, hdt, he, _⟩ := I.hok d _ h
  rw [hd] at ho
  cases ho
  refine ⟨hs, hd, hx, es, ep, hdt, ?_, fun i k v e => ?_⟩
  · have l1 : es.size = xs.length := size_of_entries he
    have l2 : kvs.length = xs.length := Paired.length pr
    omega
  · obtain ⟨b, hb, e1, e2, e3⟩ := paired_get pr e
    have q := entry_at he i
    rw [hb] at q
    exact ⟨_, b.2.1, q, rfl, e2, e3⟩
def ItiT (d : Addr) (o : Obj) (kvs : List (List Key × V)) : It :=
  ⟨fun i H => H d = some (.frz o (.dT kvs)) ∧ i < kvs.length, fun i H x H' => ∃ T k v q, kvs[i]? = some (k, v) ∧ H q = some (.tup (k.map kV)) ∧ x = .ref T ∧ H T = none ∧ H' = upd H T (.tup [.ref q, v]), fun i H => H d = some (.frz o (.dT kvs)) ∧ kvs.length ≤ i⟩
theorem turn_itemsT {P : Program} {w : World} {K : PySem.W.Frag} {es : Array DictEntry} {ep : Nat} {kvs : List (List Key × V)} {elts : List Expr} {kk : Nat} {tpos : Pos} (it : Addr) (hod : o.data = .dict es ep) :
    Turn P w K (.Tuple elts kk tpos) (ItiT d o kvs) [it] it (fun i h => ∃ ok ov, IsItemIter h it d i es.size ep ok ov) where
  mem := by simp
  obj := fun i h st b hb => by
    have e : b = it := by simpa using hb
    subst e
    obtain ⟨ok, ov, e⟩ := st
    exact ⟨_, e, fun v z => nomatch z⟩
  keep := fun i h h' st k => let ⟨ok, ov, e⟩ := st; ⟨ok, ov, k it (by simp) _ e⟩
  item := by
    intro X hP hw hK hc i pins s σ H E I hf st hg
    subst hP hw hK
    obtain ⟨hd, hi⟩ := hg
    obtain ⟨hs, hgd, hx, es', ep', hdt, hsz, ent⟩ := frzT2 I hd
    obtain ⟨rfl, rfl⟩ := dict_ep hod hdt
    obtain ⟨⟨k, v⟩, hkv⟩ : ∃ p, kvs[i]? = some p := ⟨kvs[i], List.getElem?_eq_getElem hi⟩
    obtain ⟨en, q, hen, hkey, hq, rv⟩ := ent i k v hkv
    have hie : i < es'.size := by rw [hsz]; exact hi
    have ee : es'[i] = en := by
      rw [Array.getElem?_eq_getElem hie] at hen
      exact Option.some.inj hen
    obtain ⟨ok, ov, he⟩ := st
    have hlt : it < s.heap.objs.size := Heap.lt_size he
    refine DT.nextI he ⟨o, hgd, hx, hdt⟩ hie fun h' ho hT hz hk => ?_
    rw [ee, hkey] at ho hT
    refine ⟨_, rfl, wpAny_letOwnedTupleGo_items (s := { s with heap := h' }) ho fun h'' he' sb => ?_⟩
    have hT2 : h''.get? s.heap.objs.size = some { cls := .type "tuple", data := .seq #[.ref q, en.val] } := (sb.2 _ (Nat.ne_of_gt hlt)).trans hT
    have new : ObjOk X.prog X.w (upd H s.heap.objs.size (.tup [.ref q, v])) h'' s.heap.objs.size (.tup [.ref q, v]) :=
      ⟨by show 2 ≤ sizeLine; decide, [.ref q, en.val], .cons rfl (.cons rv .nil), ⟨_, hT2, rfl, _, rfl⟩⟩
    have I1 : L2.Inv X pins σ (upd H s.heap.objs.size (.tup [.ref q, v])) { s with heap := h'' } :=
      I.turnedNew (t' := s.toks) (ch := [it]) (fun b ob hb e => (sb.2 b (by simpa using hb)).trans (hk b ob (by simpa using hb) e)) hf (Nat.le_refl _) new
    refine ⟨.ref s.heap.objs.size, _, I1, rfl, ⟨_, k, v, q, hkv, hq, rfl, I.hok.fresh (Nat.le_refl _), rfl⟩, ⟨.ref q, en.val, he'⟩, fun b hb => ?_⟩
    have e : b = it := by simpa using hb
    rw [e, upd_ne (Nat.ne_of_lt hlt)]
    exact (hf it (by simp)).1
  done := by
    intro X hP hw hK hc i pins s σ H E I hf st hg
    subst hP hw hK
    obtain ⟨hd, hi⟩ := hg
    obtain ⟨f0, f1, f2, f3, f4, f5⟩ := hf it (by simp)
    obtain ⟨hs, hgd, hx, es', ep', hdt, hsz, ent⟩ := frzT2 I hd
    obtain ⟨rfl, rfl⟩ := dict_ep hod hdt
    obtain ⟨ok, ov, he⟩ := st
    exact DT.endI (I.ok.hd hc) he ⟨o, hgd, hx, hdt⟩ (by rw [hsz]; exact hi) fun h' eb => ⟨rfl, I.turned (t' := s.toks) (fun b ob hb e => eb b ob hb e) f0 f1 f3 f4 f5⟩
  self := fun A i s Q E st h => let ⟨_, _, e⟩ := st; PySem.W.kcp_self e h
end
def iItemsTL (td : TE) : TI := fun σ H R => td σ H fun x H1 => ∃ d kvs, x = .ref d ∧ H1 d = some (.dT kvs) ∧ ∀ od, R (ItiT d od kvs) (upd H1 d (.frz od (.dT kvs)))
section
variable {X : Cx} {e : Expr} {td : TE} {apos cpos : Pos}
theorem pi_itemsTL {elts : List Expr} {kk : Nat} {tpos : Pos} (he : PE X e td) (hbase : attributeBase e "items" X.env (eval e X.env) = eval e X.env := by rfl) (hline : (apos.endLine == cpos.line) = true := by rfl) :
    PI X (.Tuple elts kk tpos) (.Call (.Attribute e "items" apos) [] [] cpos) (iItemsTL td) := by
  refine ⟨fun pins s σ H R I h => ?_⟩
  refine wpAny_Call_method (T := "dict") (id := "dict.items") hbase rfl hline PySem.F.plainAttrs_dict PySem.F.slot_dict_items PySem.F.type_dict_items (thn (he.run pins s σ H _ I h) fun u s1 ⟨x, H1, I1, rx, d, kvs, ex, hd0, q0⟩ => ?_)
  subst ex
  obtain rfl : u = Value.ref d := rx
  obtain ⟨od, I1'⟩ := I1.lock hd0 (by trivial)
  have q := q0 od
  obtain ⟨hs, hgd, hx, es, ep, hdt, hsz, ent⟩ := frzT2 I1' upd_same
  have hraw : DT.Raw s1.heap d es ep := ⟨od, hgd, hx, hdt⟩
  refine ⟨hraw.typeIs, (fun a ea => by cases ea; exact ⟨od, hgd, hx.2.1⟩), ?_⟩
  have I2 : L2.Inv X pins σ (upd H1 d (.frz od (.dT kvs))) { s1 with heap := s1.heap.push { cls := .type "dict_items", data := .fields #[.ref d] } } := I1'.kept (t' := s1.toks) fun b ob q => Heap.get?_push_of_some _ q
  have fin : wpAny (model X.prog X.w) X.A (pyIter (.ref s1.heap.objs.size)) (PIE X pins σ (.Tuple elts kk tpos) R) X.xe { s1 with heap := s1.heap.push { cls := .type "dict_items", data := .fields #[.ref d] } } := by
    refine DT.iterI (d := d) (es := es) (ep := ep) ⟨_, Heap.get?_push_size _ rfl, rfl, rfl⟩ (hraw.push _) (pi_one (tk := s1.toks) I2 _ (turn_itemsT _ hdt) ⟨.none, .none, ?_⟩ q)
    exact Heap.get?_push_size _ rfl
  show wpAny _ _ (callWith cpos (.builtin "dict.items") [.ref d] [] []) _ X.xe s1
  exact method_meetsIn PySem.F.slot_dict_items PySem.F.entry_dict_items rfl (PySem.evalArgs_none ⟨rfl, hraw.typeIs, PySem.F.args_dict_items_1 _, _, DT.meetsItems (es := es) (ep := ep) hs, ⟨hraw, fin⟩⟩)
end
end Pd

namespace Pd
open PySem PySem.Spec PyProof.Rows L2
variable [Lams]
/-! ## for (..), v in d.items(): the dict is locked for good -/
def kD : Key → PyData
  | .inl i => .int i
  | .inr x => .str x
/-- all values plain data -/
def datKv {κ : Type} : List (κ × Rv) → Option (List (κ × PyData))
  | [] => some []
  | (k, .dat d) :: r => (datKv r).map ((k, d) :: ·)
  | _ :: _ => none
def pairsT (kvs : List (List Key × PyData)) : List PyData := kvs.map fun p => .tuple [.tuple (p.1.map kD), p.2]
section
variable {K : PySem.W.Frag} {TT : Tt} {g : Gh} {al : List Addr} {en : En} {F F' : Hp} {σ : L2.St} {H H' : Hp}
theorem dp_keys : ∀ ks : List Key, DpAll K F (ks.map kV) (ks.map kD)
  | [] => .nil
  | .inl i :: r => .cons (.int i) (dp_keys r)
  | .inr x :: r => .cons (.str x) (dp_keys r)
theorem datKv_get {κ : Type} : ∀ {vs : List (κ × V)} {rs : List (κ × Rv)} {ds : List (κ × PyData)} {i : Nat} {k : κ} {d : PyData}, KvR K F al vs rs → datKv rs = some ds → ds[i]? = some (k, d) → ∃ v, vs[i]? = some (k, v) ∧ Dp K F v d
  | _, _, ds, i, k, d, .nil, e, h => by cases e; simp at h
  | _, _, ds, i, k, d, .cons (r := .own _) _ _, e, h => by cases e
  | _, _, ds, i, k, d, .cons (r := .fn _ _) _ _, e, h => by cases e
  | _, _, ds, i, k, d, .cons (r := .fns _) _ _, e, h => by cases e
  | _, _, ds, i, k, d, .cons (r := .exv) _ _, e, h => by cases e
  | _, _, ds, i, k, d, .cons (k := k0) (v := v0) (r := .dat d0) q t, e, h => by
    unfold datKv at e
    cases e2 : datKv _ with
    | none => rw [e2] at e; cases e
    | some es =>
      rw [e2] at e
      have e' : (k0, d0) :: es = ds := Option.some.inj e
      subst e'
      cases i with
      | zero =>
        simp at h
        obtain ⟨rfl, rfl⟩ := h
        exact ⟨v0, rfl, q⟩
      | succ i =>
        obtain ⟨v, a, b⟩ := datKv_get (i := i) t e2 (by simpa using h)
        exact ⟨v, by simpa using a, b⟩
theorem datKv_len {κ : Type} : ∀ {rs : List (κ × Rv)} {ds : List (κ × PyData)}, datKv rs = some ds → ds.length = rs.length
  | [], _, e => by cases e; rfl
  | (k, .dat d) :: r, ds, e => by
    unfold datKv at e
    cases e2 : datKv r with
    | none => rw [e2] at e; cases e
    | some es =>
      rw [e2] at e
      have e' : (k, d) :: es = ds := Option.some.inj e
      subst e'
      simp [datKv_len e2]
  | (_, .own _) :: _, _, e => by cases e
  | (_, .fn _ _) :: _, _, e => by cases e
  | (_, .fns _) :: _, _, e => by cases e
  | (_, .exv) :: _, _, e => by cases e
/-- an owned dict with tuple keys is locked -/
theorem Sv.lockT (s : Sv K TT g al en F σ H) {k : Nat} {a : Addr} {kvs : List (List Key × Rv)} {vs : List (List Key × V)} {od : Obj} (e1 : al[k]? = some a) (e2 : en.ob[k]? = some (.dt kvs)) (hv : H a = some (.dT vs)) (hr : KvR K F al vs kvs) (fn : F a = none) :
    Sv K TT g al { en with ob := en.ob.set k (.ft kvs) } (upd F a (.frz od (.dT vs))) σ (upd H a (.frz od (.dT vs))) ∧ Le F al (upd F a (.frz od (.dT vs))) al := by
  have hle : Le F al (upd F a (.frz od (.dT vs))) al := ⟨same_new fn, List.prefix_rfl⟩
  have nt := s.atab a (List.mem_of_getElem? e1)
  refine ⟨{
  sub := fun b u e => by
    by_cases h : b = a
    · subst h; rw [upd_same] at e ⊢; exact e
    · rw [upd_ne h] at e ⊢; exact s.sub b u e
  frF := s.frF.trans hle.f
  nF := fun b hb => by
    by_cases h : b = a
    · subst h
      rcases s.anew k b e1 with w | w
      · exact .inr (.inl (.inl w))
      · exact .inr (.inr w)
    · rw [upd_ne h] at hb; exact s.nF b hb
  frame := fun b o e nt nb => by
    have z := s.frame b o e nt nb
    have ne : b ≠ a := fun q => by
      rcases s.anew k a e1 with w | w
      · rw [q, w] at e; cases e
      · exact nb (q ▸ w)
    rw [upd_ne ne]; exact z
  tabs := fun P hP => by
    obtain ⟨q1, q2⟩ := (s.tabs.newH nt (u := .frz od (.dT vs))) P hP
    refine ⟨q1, ?_⟩
    have ne : P ≠ a := fun z => nt (by rw [← z]; exact hP)
    rw [upd_ne ne]; exact q2
  len := s.len
  slots := fun i r e => by
    obtain ⟨v, f1, q⟩ := s.slots i r e
    exact ⟨v, f1, q.mono hle⟩
  alen := by simp [s.alen]
  objs := fun j b oc f1 f2 => by
    by_cases hj : j = k
    · subst hj
      rw [e1] at f1
      cases f1
      rw [List.getElem?_set_self (by rw [← s.alen]; exact (List.getElem?_eq_some_iff.mp e1).1)] at f2
      cases f2
      exact ⟨od, vs, upd_same, hr.mono hle⟩
    · rw [List.getElem?_set_ne (Ne.symm hj)] at f2
      have ne : b ≠ a := fun z => hj (nodup_get s.anod f1 (z ▸ e1))
      exact (s.objs j b oc f1 f2).mono (TT := TT) hle (fun _ _ => upd_ne ne) (s.atab b (List.mem_of_getElem? f1)) fun _ _ z => by rw [upd_ne ne]; exact z
  anew := s.anew
  bin := s.bin
  anod := s.anod
  atab := s.atab }, hle⟩
end
def itemsM (r : Rv) : M (List PyData) := fun en => match r with
  | .own k => (match en.ob[k]? with
    | some (.dt kvs) => (match datKv kvs with
      | some ds => .ok (pairsT ds) { en with ob := en.ob.set k (.ft kvs) }
      | none => .bad)
    | _ => .bad)
  | _ => .bad
section
variable {X : Cx} {TT : Tt} {W : WX} {a : Expr} {fa : M Rv} {apos cpos : Pos}
theorem id_itemsT {elts : List Expr} {kk : Nat} {tpos : Pos} (ha : PD X TT W a fa) (hbase : attributeBase a "items" X.env (eval a X.env) = eval a X.env := by rfl) (hline : (apos.endLine == cpos.line) = true := by rfl) :
    PID X TT W (.Tuple elts kk tpos) (.Call (.Attribute a "items" apos) [] [] cpos) (bnd fa itemsM) := by
  obtain ⟨⟨t, pt, q⟩⟩ := ha
  refine ⟨⟨_, pi_itemsTL pt hbase hline, fun g al en F σ H R s h => q g al en F σ H _ s (Post.seq h fun r e F1 a1 H1 l1 s1 p1 v hv => ?_)⟩⟩
  unfold itemsM at p1
  split at p1
  · rename_i k
    split at p1
    · rename_i kvs eo
      split at p1
      · rename_i ds ed
        obtain ⟨ar, ea, rfl⟩ := hv
        obtain ⟨fn, vs, hvs, hr⟩ := s1.objs k ar _ ea eo
        refine ⟨ar, vs, rfl, hvs, fun od => ?_⟩
        obtain ⟨s2, l2⟩ := s1.lockT (od := od) ea eo hvs hr fn
        refine p1 _ _ _ l2 s2 _ fun g3 al3 en3 F3 σ3 H3 hs3 s3 i => ⟨fun r hr2 => ?_, fun hi => ?_⟩
        · unfold pairsT at hr2
          rw [List.getElem?_map] at hr2
          cases eg : ds[i]? with
          | none => rw [eg] at hr2; cases hr2
          | some p =>
            obtain ⟨ky, d⟩ := p
            rw [eg] at hr2
            have e5 := Option.some.inj hr2
            subst e5
            obtain ⟨w, ew, dw⟩ := datKv_get hr ed eg
            have hlt : i < vs.length := (List.getElem?_eq_some_iff.mp ew).1
            refine ⟨⟨s3.sub _ _ (hs3 _ _ upd_same), hlt⟩, fun x H' hy => ?_⟩
            obtain ⟨T, k2, v2, q2, e6, hq, rfl, hT, rfl⟩ := hy
            rw [ew] at e6
            cases e6
            obtain ⟨s4, sm⟩ := s3.frzT hq
            refine ⟨upd (upd F3 q2 (.tup (ky.map kV))) T (.tup [.ref q2, w]), .inr ⟨q2, _, T, _, hq, hT, rfl, rfl⟩, dp_tup (.cons (.tup upd_same (dp_keys ky)) (.cons ?_ .nil)) (s4.fnone hT)⟩
            exact dp_mono ((l2.f.trans hs3).trans sm) _ _ dw
        · refine ⟨s3.sub _ _ (hs3 _ _ upd_same), ?_⟩
          unfold pairsT at hi
          rw [List.length_map, datKv_len ed] at hi
          rw [kvR_len hr]
          exact hi
      · exact p1.elim
    · exact p1.elim
  · exact p1.elim
end
end Pd

namespace Pd
open PySem PySem.Spec PyProof.Rows L2
variable [Lams]
section
variable {X : Cx} {TT : Tt} {W : WX} {a b c : Expr} {fa fb fc : M Rv} {pos : Pos} {fs : M (List Rv)}
/-- three names at once -/
def par3 (i j l : Nat) (rs : List Rv) : M Fl := fun en => match rs with
  | [r, q, t] => .ok .nx { en with sl := ((en.sl.set i (some r)).set j (some q)).set l (some t) }
  | _ => .bad
theorem sd_par3 (i j l : Nat) {x y z : Str} {px py pz pt : Pos} {kt k2 pt2} (hc : X.calm = true) (hN : X.N.Nodup) (ha : PAD X TT W [a, b, c] fs) (hi : X.N[i]? = some x := by rfl) (hj : X.N[j]? = some y := by rfl) (hl : X.N[l]? = some z := by rfl) (hij : i ≠ j := by decide) (hil : i ≠ l := by decide) (hjl : j ≠ l := by decide)
    (hx : X.env.scope.names.lookup x = some .local := by rfl) (hy : X.env.scope.names.lookup y = some .local := by rfl) (hz : X.env.scope.names.lookup z = some .local := by rfl)
    (hw : swappedStores [.Tuple [.Name x px, .Name y py, .Name z pz] kt pt] (.Tuple [a, b, c] k2 pt2) X.env = pure (some [x, y, z]) := by rfl)
    (hs : swapsWithSole [.Tuple [.Name x px, .Name y py, .Name z pz] kt pt] (.Tuple [a, b, c] k2 pt2) pos.line X.env = pure false := by rfl) :
    PSD X TT W (.Assign [.Tuple [.Name x px, .Name y py, .Name z pz] kt pt] (.Tuple [a, b, c] k2 pt2) pos) (bnd fs (par3 i j l)) := by
  obtain ⟨⟨t, pt, q⟩⟩ := ha
  refine ⟨⟨_, ps_par3 hc hN hi hj hl hij hil hjl hx hy hz pt hw hs, fun g al en F σ H D s h => q g al en F σ H _ s (h.seq fun rs e F' al' H' l s2 p vs hv => ?_)⟩⟩
  unfold par3 at p
  split at p
  · cases hv with
    | cons h1 h2 =>
      cases h2 with
      | cons h3 h4 =>
        cases h4 with
        | cons h5 h6 =>
          cases h6
          exact ⟨_, _, _, rfl, p.next (Le.refl _ _) (((s2.setS h1).setS h3).setS h5)⟩
  · exact p.elim
/-! ## len of a dict -/
def lenDM (r : Rv) : M Rv := fun en => match r with
  | .own k => (match en.ob[k]? with
    | some (.dk kvs) => .ok (.dat (.int kvs.length)) en
    | some (.dt kvs) => .ok (.dat (.int kvs.length)) en
    | _ => .bad)
  | _ => .bad
/-! ## an instance's attributes -/
def fldM (n f : Str) (r : Rv) : M Rv := fun en => match r with
  | .own k => (match en.ob[k]? with
    | some (.ins m fs) => if m = n then (match valR fs f with
      | some v => .ok v en
      | none => .bad) else .bad
    | _ => .bad)
  | _ => .bad
theorem kvR_lookup {K : PySem.W.Frag} {F : Hp} {al : List Addr} : ∀ {vs : List (Str × V)} {rs : List (Str × Rv)} {f : Str} {r : Rv}, KvR K F al vs rs → valR rs f = some r → ∃ v, vs.lookup f = some v ∧ RvR K F al v r
  | _, _, _, _, .nil, e => by cases e
  | _, _, f, r, .cons (k := j) (v := v) h t, e => by
    unfold valR at e
    by_cases q : j = f
    · rw [if_pos q] at e
      cases e
      subst q
      exact ⟨v, by simp [List.lookup_cons], h⟩
    · rw [if_neg q] at e
      obtain ⟨w, e1, e2⟩ := kvR_lookup t e
      refine ⟨w, ?_, e2⟩
      rw [List.lookup_cons]
      have : (f == j) = false := by simp [Ne.symm q]
      rw [this]
      exact e1
theorem pd_fld (n f : Str) (hc : Cls X.K (He.ga X.K n)) (hn : NoAttr X.K (He.ga X.K n) f) (ha : PD X TT W a fa) (hb : attributeBase a f X.env (eval a X.env) = eval a X.env := by rfl) : PD X TT W (.Attribute a f pos) (bnd fa (fldM n f)) := by
  obtain ⟨⟨t, pt, q⟩⟩ := ha
  refine ⟨⟨_, pe_fld pt hb, fun g al en F σ H Q s h => q g al en F σ H _ s (Post.seq h fun r e1 F1 a1 H1 l1 s1 p1 v r1 => ?_)⟩⟩
  unfold fldM at p1
  split at p1
  · rename_i k
    split at p1
    · rename_i m fs eo
      split at p1
      · rename_i em
        subst em
        split at p1
        · rename_i w ew
          obtain ⟨ar, ea, rfl⟩ := r1
          obtain ⟨fn, dx, vs, hv, hr⟩ := s1.objs k ar _ ea eo
          obtain ⟨u, e1, e2⟩ := kvR_lookup hr ew
          exact ⟨ar, _, dx, vs, u, rfl, hv, hc, hn, e1, p1.here s1 u e2⟩
        · exact p1.elim
      · exact p1.elim
    · exact p1.elim
  · exact p1.elim
def putFR (f : Str) (v : Rv) : List (Str × Rv) → List (Str × Rv)
  | [] => [(f, v)]
  | (g, x) :: r => if g = f then (g, v) :: r else (g, x) :: putFR f v r
theorem kvR_putF {K : PySem.W.Frag} {F : Hp} {al : List Addr} {f : Str} {v : V} {r : Rv} (q : RvR K F al v r) : ∀ {vs : List (Str × V)} {rs : List (Str × Rv)}, KvR K F al vs rs → KvR K F al (putF f v vs) (putFR f r rs)
  | _, _, .nil => .cons q .nil
  | _, _, .cons (k := j) h t => by
    unfold putF putFR
    by_cases e : j = f
    · rw [if_pos e, if_pos e]; exact .cons q t
    · rw [if_neg e, if_neg e]; exact .cons h (kvR_putF q t)
def setFM (n f : Str) (r v : Rv) : M Fl := fun en => match r with
  | .own k => (match en.ob[k]? with
    | some (.ins m fs) => if m = n ∧ fs.length < 1000 then .ok .nx { en with ob := en.ob.set k (.ins m (putFR f v fs)) } else .bad
    | _ => .bad)
  | _ => .bad
theorem sd_fld {o : Expr} {fo : M Rv} {pos' : Pos} (n f : Str) (hc : Cls X.K (He.ga X.K n)) (hn : NoAttr X.K (He.ga X.K n) f) (ho : PD X TT W o fo) (hv : PD X TT W a fa) (hs : swapsWith a (some (.Attribute o f pos')) pos.line X.env = pure false := by rfl) :
    PSD X TT W (.Assign [.Attribute o f pos'] a pos) (bnd fa fun v => bnd fo fun r => setFM n f r v) := by
  obtain ⟨⟨t0, pt0, q0⟩⟩ := hv
  obtain ⟨⟨t, pt, q⟩⟩ := ho
  refine ⟨⟨_, ps_fld pt pt0 hs, fun g al en F σ H D s h => q0 g al en F σ H _ s (h.seq fun v e0 F0 a0 H0 l0 s0 p0 v0 r0 => ?_)⟩⟩
  refine q g a0 e0 F0 σ H0 _ s0 (p0.seq fun r e1 F1 a1 H1 l1 s1 p1 v1 r1 => ?_)
  unfold setFM at p1
  split at p1
  · rename_i k
    split at p1
    · rename_i m fs eo
      split at p1
      · rename_i em
        obtain ⟨rfl, hl⟩ := em
        obtain ⟨ar, ea, rfl⟩ := r1
        obtain ⟨fn, dx, vs, hvs, hr⟩ := s1.objs k ar _ ea eo
        exact ⟨ar, _, dx, vs, rfl, hvs, hc, hn, by rw [kvR_len hr]; exact hl, p1.next (Le.refl _ _) (s1.writeOc ea eo rfl ⟨dx, _, rfl, kvR_putF (r0.mono l1) hr⟩)⟩
      · exact p1.elim
    · exact p1.elim
  · exact p1.elim
end
end Pd

namespace Pd
open PySem PySem.Spec PyProof.Rows L2
variable [Lams]
/-! ## a method called: the receiver and the whole table are lent; no exception comes out -/
/-- r is an instance of the class n without an attribute m of its own -/
def recM (n m : Str) (r : Rv) : M Unit := fun en => match r with
  | .own k => (match en.ob[k]? with
    | some (.ins n' fs) => if n' = n ∧ valR fs m = none then .ok () en else .bad
    | _ => .bad)
  | _ => .bad
theorem kvR_nolook {K : PySem.W.Frag} {F : Hp} {al : List Addr} : ∀ {vs : List (Str × V)} {rs : List (Str × Rv)} {f : Str}, KvR K F al vs rs → valR rs f = none → vs.lookup f = none
  | _, _, _, .nil, _ => rfl
  | _, _, f, .cons (k := j) (v := v) h t, e => by
    unfold valR at e
    by_cases q : j = f
    · rw [if_pos q] at e; cases e
    · rw [if_neg q] at e
      rw [List.lookup_cons]
      have : (f == j) = false := by simp [Ne.symm q]
      rw [this]
      exact kvR_nolook t e
def fMethG (n m : Str) (Fn : List Rv → List Oc → GRes) (fo : M Rv) (fs : M (List Rv)) : M Rv := bnd fo fun r => bnd (recM n m r) fun _ => bnd fs fun rs => callG Fn (r :: rs)
theorem meth_core {X : Cx} {TT : Tt} {W : WX} {n m : Str} {Fn : List Rv → List Oc → GRes} {fo : M Rv} {fs : M (List Rv)} {t : TE} {u : TA} (hF : ∀ rs ob x ob', Fn rs ob ≠ .exc x ob')
    (q : ∀ g al en F σ H Q, Sv X.K TT g al en F σ H → Post X.K TT W g F al σ (fo en) (fun r _ F' al' H' => ∀ v, RvR X.K F' al' v r → Q v H') → t σ H Q)
    (q2 : ∀ g al en F σ H Q, Sv X.K TT g al en F σ H → Post X.K TT W g F al σ (fs en) (fun rs _ F' al' H' => ∀ vs, RvAll X.K F' al' vs rs → Q vs H') → u σ H Q)
    {g : Gh} {al : List Addr} {en : En} {F : Hp} {σ : L2.St} {H : Hp} {Q : VK} (s : Sv X.K TT g al en F σ H) (h : Post X.K TT W g F al σ (fMethG n m Fn fo fs en) (fun r _ F' al' H' => ∀ v, RvR X.K F' al' v r → Q v H')) :
    tMeth (He.ga X.K n) m (spG X.K TT Fn) [] E0 t u σ H Q := by
  refine q g al en F σ H _ s (Post.seq h fun r e1 F1 a1 H1 l1 s1 p1 v1 r1 => ?_)
  unfold bnd recM at p1
  split at p1
  · rename_i _ e2 hrec
    split at hrec
    · rename_i k
      split at hrec
      · rename_i n' fs' eo
        split at hrec
        · rename_i hc
          obtain ⟨rfl, hnl⟩ := hc
          cases hrec
          obtain ⟨ar, ea, rfl⟩ := r1
          obtain ⟨fn, dx, vs, hv, hr⟩ := s1.objs k ar _ ea eo
          refine ⟨ar, dx, vs, rfl, hv, kvR_nolook hr hnl, ?_⟩
          have p1 : Post X.K TT W g F1 a1 σ (bnd fs (fun rs => callG Fn (.own k :: rs)) e1) (fun r _ F' al' H' => ∀ v, RvR X.K F' al' v r → Q v H') := p1
          refine q2 g a1 e1 F1 σ H1 _ s1 (Post.seq p1 fun rs e3 F3 a3 H3 l3 s3 p3 ws rw_ => ?_)
          refine ⟨F3, a3, e3.ob, .own k :: rs, s3.tb, ?_, ?_⟩
          · rw [List.append_nil]
            exact .cons ⟨ar, pre_get l3.a ea, rfl⟩ rw_
          · unfold callG at p3
            split
            · rename_i r' ob' e
              rw [e] at p3
              exact fun v F' al' H' hf hd => p3 F' al' H' hf.le (s3.gf hf) v hd
            · rename_i x ob' e
              exact absurd e (hF _ _ _ _)
            · rename_i e
              rw [e] at p3
              exact p3
        · cases hrec
      · cases hrec
    · cases hrec
  · rename_i x e' hrec
    split at hrec
    · split at hrec
      · split at hrec
        · cases hrec
        · cases hrec
      · cases hrec
    · cases hrec
  · exact p1.elim
/-- exceptions are no promise -/
def noX (Fn : List Rv → List Oc → GRes) : List Rv → List Oc → GRes := fun rs ob => match Fn rs ob with
  | .ok r ob' => .ok r ob'
  | _ => .bad
theorem noX_no {Fn : List Rv → List Oc → GRes} (rs : List Rv) (ob : List Oc) (x : Ex) (ob' : List Oc) : noX Fn rs ob ≠ .exc x ob' := by
  unfold noX
  split
  · intro z; cases z
  · intro z; cases z
theorem spG_noX {K : PySem.W.Frag} {TT : Tt} {Fn : List Rv → List Oc → GRes} (vs : List V) (H : Hp) (Q : VK) (E : XK) (h : spG K TT (noX Fn) vs H Q E) : spG K TT Fn vs H Q E := by
  obtain ⟨F, al, ob, rs, h1, h2, h3⟩ := h
  refine ⟨F, al, ob, rs, h1, h2, ?_⟩
  unfold noX at h3
  cases e : Fn rs ob with
  | ok r ob' => rw [e] at h3; exact h3
  | exc x ob' => rw [e] at h3; exact h3.elim
  | bad => rw [e] at h3; exact h3.elim
theorem pd_methG {X : Cx} {TT : Tt} {W : WX} {n m : Str} {Fn : List Rv → List Oc → GRes} {o e : Expr} {es : List Expr} {fo : M Rv} {fs : M (List Rv)} {k : Nat} {f : Addr} {fd : FuncData} {ps : List Str} {apos pos : Pos} {pl : Sem Bool}
    (c : Cls X.K (He.ga X.K n)) (hm : Meth X.K (He.ga X.K n) m f) (G : FnOk X.prog X.w X.K X.mg X.base (L2.CX X.prog X.w) k f fd ps (spG X.K TT Fn)) (hr : Room k X.A) (hb : Binds X.K fd ps []) (ho : PD X TT W o fo) (ha : PAD X TT W (e :: es) fs)
    (hst : starEach (e :: es) X.env = (false, eval e X.env) :: starEach es X.env := by rfl) (hpl : (backTo pos (starEach es X.env)).any (·.1) = false := by rfl)
    (ht : eval (.Call (.Attribute o m apos) (e :: es) [] pos) X.env = (do
      let ov ← eval o X.env
      standAt apos.atName
      let (f, first) ← holding [ov] (getMethod ov m pl)
      callWith pos f first (backTo pos (starEach (e :: es) X.env)) (backToKw pos (keywordEach [] X.env))) := by rfl) :
    PD X TT W (.Call (.Attribute o m apos) (e :: es) [] pos) (fMethG n m (noX Fn) fo fs) := by
  obtain ⟨⟨t, pt, q⟩⟩ := ho
  obtain ⟨⟨u, pu, q2⟩⟩ := ha
  exact ⟨⟨_, pe_meth (dvs := []) (ds := []) (E := E0) pt c hm (G.imp spG_noX) hr hb .nil passL pu hst hpl ht, fun g al en F σ H Q s h => meth_core noX_no q q2 s h⟩⟩
end Pd

namespace Pd
open PySem PySem.Spec PyProof.Rows L2
variable [Lams]
/-! ## a class called: a new instance, its __init__ -/
theorem Sv.junk {K : PySem.W.Frag} {TT : Tt} {g : Gh} {al : List Addr} {en : En} {F : Hp} {σ : L2.St} {H : Hp} (s : Sv K TT g al en F σ H) {p : Addr} (o : HO) (hp : H p = none) : Sv K TT g al en F σ (upd H p o) :=
  s.ext (Same.refl F) (fun b u e => by rw [upd_ne (ne_of_none (s.sub b u e) hp)]; exact s.sub b u e) (s.tabs.newH (s.nt hp)) (fun b u e _ => by rw [upd_ne (ne_of_none e hp)]; exact e) fun b hb => .inl hb
def makeM (n : Str) (Fn : List Rv → List Oc → GRes) (rs : List Rv) : M Rv := fun en => match Fn (.own en.ob.length :: rs) (en.ob ++ [.ins n []]) with
  | .ok (.dat .none) ob' => .ok (.own en.ob.length) { en with ob := ob' }
  | _ => .bad
theorem pd_make {X : Cx} {TT : Tt} {W : WX} {n : Str} {Fn : List Rv → List Oc → GRes} {e : Expr} {es : List Expr} {fs : M (List Rv)} {k : Nat} {f : Addr} {fd : FuncData} {ps : List Str} {p pos : Pos}
    (Mk_ : Mk X.K (He.ga X.K n) f) (G : FnOk X.prog X.w X.K X.mg X.base (L2.CX X.prog X.w) k f fd ps (spG X.K TT Fn)) (hr : Room (k + 1) X.A) (hm : X.mg n = some (.ref (He.ga X.K n))) (hb : Binds X.K fd ps []) (ha : PAD X TT W (e :: es) fs)
    (hg : Gl X n := by rfl) (hdb : (n == ("__debug__" : Str)) = false := by decide) (he : starEach (e :: es) X.env = (false, eval e X.env) :: starEach es X.env := by rfl) (hpl : (backTo pos (starEach es X.env)).any (·.1) = false := by rfl) :
    PD X TT W (.Call (.Name n p) (e :: es) [] pos) (bnd fs (makeM n Fn)) := by
  obtain ⟨⟨u, pu, q2⟩⟩ := ha
  refine ⟨⟨_, pe_make (dvs := []) (ds := []) (E := E0) Mk_ (G.imp spG_noX) hr hg hm hb .nil passL pu hdb he hpl, fun g al en F σ H Q s h => ?_⟩⟩
  refine q2 g al en F σ H _ s (Post.seq h fun rs e1 F1 a1 H1 l1 s1 p1 vs rv => ?_)
  intro x dx hx hdx hne
  have s2 := s1.junk (.own x) hdx
  have hx2 : upd H1 dx (.own x) x = none := by rw [upd_ne (Ne.symm hne)]; exact hx
  have s3 := s2.newOc (p := x) (o := .ins (He.ga X.K n) dx []) (oc := .ins n []) hx2 ⟨dx, [], rfl, .nil⟩
  have lx : Le F1 a1 F1 (a1 ++ [x]) := le_own
  have ex : (a1 ++ [x])[e1.ob.length]? = some x := by rw [← s1.alen, List.getElem?_append_right (Nat.le_refl _)]; simp
  refine ⟨F1, a1 ++ [x], e1.ob ++ [.ins n []], .own e1.ob.length :: rs, s3.tb, ?_, ?_⟩
  · rw [List.append_nil]
    exact .cons ⟨x, ex, rfl⟩ (rv.mono lx)
  · unfold makeM at p1
    unfold noX
    cases eF : Fn (.own e1.ob.length :: rs) (e1.ob ++ [.ins n []]) with
    | bad => rw [eF] at p1; exact p1.elim
    | exc _ _ => rw [eF] at p1; exact p1.elim
    | ok r ob' =>
      rw [eF] at p1
      simp only at p1 ⊢
      intro v F' al' H' hf hv
      cases r with
      | own _ => exact p1.elim
      | fn _ _ => exact p1.elim
      | fns _ => exact p1.elim
      | exv => exact p1.elim
      | dat d =>
        cases d with
        | none =>
          have hv' : Dp X.K F' v .none := hv
          cases hv'
          exact ⟨rfl, p1 F' al' H' (lx.trans hf.le) (s3.gf hf) (.ref x) ⟨x, pre_get hf.a ex, rfl⟩⟩
        | _ => exact p1.elim
end Pd

namespace Pd
open PySem PySem.Spec PyProof.Rows L2
variable [Lams]
section
variable {K : PySem.W.Frag} {TT : Tt} {g : Gh} {al : List Addr} {en : En} {F F' : Hp} {σ : L2.St} {H H' : Hp}
/-- an owned dict with plain keys is locked -/
theorem Sv.lockK (s : Sv K TT g al en F σ H) {k : Nat} {a : Addr} {kvs : List (Key × Rv)} {vs : List (Key × V)} {od : Obj} (e1 : al[k]? = some a) (e2 : en.ob[k]? = some (.dk kvs)) (hv : H a = some (.dK vs)) (hr : KvR K F al vs kvs) (fn : F a = none) :
    Sv K TT g al { en with ob := en.ob.set k (.fk kvs) } (upd F a (.frz od (.dK vs))) σ (upd H a (.frz od (.dK vs))) ∧ Le F al (upd F a (.frz od (.dK vs))) al := by
  have hle : Le F al (upd F a (.frz od (.dK vs))) al := ⟨same_new fn, List.prefix_rfl⟩
  have nt := s.atab a (List.mem_of_getElem? e1)
  refine ⟨{
  sub := fun b u e => by
    by_cases h : b = a
    · subst h; rw [upd_same] at e ⊢; exact e
    · rw [upd_ne h] at e ⊢; exact s.sub b u e
  frF := s.frF.trans hle.f
  nF := fun b hb => by
    by_cases h : b = a
    · subst h
      rcases s.anew k b e1 with w | w
      · exact .inr (.inl (.inl w))
      · exact .inr (.inr w)
    · rw [upd_ne h] at hb; exact s.nF b hb
  frame := fun b o e nt nb => by
    have z := s.frame b o e nt nb
    have ne : b ≠ a := fun q => by
      rcases s.anew k a e1 with w | w
      · rw [q, w] at e; cases e
      · exact nb (q ▸ w)
    rw [upd_ne ne]; exact z
  tabs := fun P hP => by
    obtain ⟨q1, q2⟩ := (s.tabs.newH nt (u := .frz od (.dK vs))) P hP
    refine ⟨q1, ?_⟩
    have ne : P ≠ a := fun z => nt (by rw [← z]; exact hP)
    rw [upd_ne ne]; exact q2
  len := s.len
  slots := fun i r e => by
    obtain ⟨v, f1, q⟩ := s.slots i r e
    exact ⟨v, f1, q.mono hle⟩
  alen := by simp [s.alen]
  objs := fun j b oc f1 f2 => by
    by_cases hj : j = k
    · subst hj
      rw [e1] at f1
      cases f1
      rw [List.getElem?_set_self (by rw [← s.alen]; exact (List.getElem?_eq_some_iff.mp e1).1)] at f2
      cases f2
      exact ⟨od, vs, upd_same, hr.mono hle⟩
    · rw [List.getElem?_set_ne (Ne.symm hj)] at f2
      have ne : b ≠ a := fun z => hj (nodup_get s.anod f1 (z ▸ e1))
      exact (s.objs j b oc f1 f2).mono (TT := TT) hle (fun _ _ => upd_ne ne) (s.atab b (List.mem_of_getElem? f1)) fun _ _ z => by rw [upd_ne ne]; exact z
  anew := s.anew
  bin := s.bin
  anod := s.anod
  atab := s.atab }, hle⟩
end
def tLk (td : TE) : TE := fun σ H Q => td σ H fun x H1 => ∃ d kvs, x = .ref d ∧ H1 d = some (.dK kvs) ∧ ∀ od, Q x (upd H1 d (.frz od (.dK kvs)))
theorem pe_lk {X : Cx} {e : Expr} {td : TE} (he : PE X e td) : PE X e (tLk td) := ⟨fun pins s σ H Q I h => thn (he.run pins s σ H _ I h) fun u s1 ⟨x, H1, I1, rx, d, kvs, ex, hd, q⟩ => by
  obtain ⟨od, I2⟩ := I1.lock hd (by trivial)
  exact ⟨x, _, I2, rx, q od⟩⟩
def pairsK (kvs : List (Key × PyData)) : List PyData := kvs.map fun p => .tuple [kD p.1, p.2]
def itemsKM (r : Rv) : M (List PyData) := fun en => match r with
  | .own k => (match en.ob[k]? with
    | some (.dk kvs) => (match datKv kvs with
      | some ds => .ok (pairsK ds) { en with ob := en.ob.set k (.fk kvs) }
      | none => .bad)
    | _ => .bad)
  | _ => .bad
theorem dp_key {K : PySem.W.Frag} {F : Hp} (k : Key) : Dp K F (kV k) (kD k) := by
  cases k with
  | inl i => exact .int i
  | inr x => exact .str x
section
variable {X : Cx} {TT : Tt} {W : WX} {a : Expr} {fa : M Rv} {apos cpos : Pos}
theorem id_itemsK {elts : List Expr} {kk : Nat} {tpos : Pos} (ha : PD X TT W a fa) (hbase : attributeBase a "items" X.env (eval a X.env) = eval a X.env := by rfl) (hline : (apos.endLine == cpos.line) = true := by rfl) :
    PID X TT W (.Tuple elts kk tpos) (.Call (.Attribute a "items" apos) [] [] cpos) (bnd fa itemsKM) := by
  obtain ⟨⟨t, pt, q⟩⟩ := ha
  refine ⟨⟨_, pi_items (pe_lk pt) hbase hline, fun g al en F σ H R s h => q g al en F σ H _ s (Post.seq h fun r e F1 a1 H1 l1 s1 p1 v hv => ?_)⟩⟩
  unfold itemsKM at p1
  split at p1
  · rename_i k
    split at p1
    · rename_i kvs eo
      split at p1
      · rename_i ds ed
        obtain ⟨ar, ea, rfl⟩ := hv
        obtain ⟨fn, vs, hvs, hr⟩ := s1.objs k ar _ ea eo
        refine ⟨ar, vs, rfl, hvs, fun od => ⟨ar, od, vs, rfl, upd_same, ?_⟩⟩
        obtain ⟨s2, l2⟩ := s1.lockK (od := od) ea eo hvs hr fn
        refine p1 _ _ _ l2 s2 _ fun g3 al3 en3 F3 σ3 H3 hs3 s3 i => ⟨fun r hr2 => ?_, fun hi => ?_⟩
        · unfold pairsK at hr2
          rw [List.getElem?_map] at hr2
          cases eg : ds[i]? with
          | none => rw [eg] at hr2; cases hr2
          | some p =>
            obtain ⟨ky, d⟩ := p
            rw [eg] at hr2
            have e5 := Option.some.inj hr2
            subst e5
            obtain ⟨w, ew, dw⟩ := datKv_get hr ed eg
            have hlt : i < vs.length := (List.getElem?_eq_some_iff.mp ew).1
            refine ⟨⟨s3.sub _ _ (hs3 _ _ upd_same), hlt⟩, fun x H' hy => ?_⟩
            obtain ⟨T, k2, v2, e6, rfl, hT, rfl⟩ := hy
            rw [ew] at e6
            cases e6
            exact ⟨upd F3 T (.tup [kV ky, w]), .inl (.inr ⟨T, _, hT, rfl, rfl⟩), dp_tup (.cons (dp_key ky) (.cons (dp_mono (l2.f.trans hs3) _ _ dw) .nil)) (s3.fnone hT)⟩
        · refine ⟨s3.sub _ _ (hs3 _ _ upd_same), ?_⟩
          unfold pairsK at hi
          rw [List.length_map, datKv_len ed] at hi
          rw [kvR_len hr]
          exact hi
      · exact p1.elim
    · exact p1.elim
  · exact p1.elim
end
end Pd

namespace Pd
open PySem PySem.Spec PyProof.Rows L2
variable [Lams]
/-! ## sorted of a list of ints -/
def srtI (ns : List Int) : List Int := ns.mergeSort (fun a b => decide (a ≤ b))
theorem srtI_perm (ns : List Int) : (srtI ns).Perm ns := List.mergeSort_perm ns _
theorem srtI_inc (ns : List Int) : (srtI ns).Pairwise (· ≤ ·) := by
  have h := List.pairwise_mergeSort (le := fun a b : Int => decide (a ≤ b)) (fun a b c h1 h2 => by simp at h1 h2 ⊢; omega) (fun a b => by simp; omega) ns
  exact h.imp fun {a b} z => by simpa using z
theorem sorted_uniq : ∀ {l m : List Int}, l.Perm m → l.Pairwise (· ≤ ·) → m.Pairwise (· ≤ ·) → l = m := fun {l m} p h1 h2 =>
  List.Perm.eq_of_pairwise (le := (· ≤ ·)) (fun a b _ _ x y => Int.le_antisymm x y) h1 h2 p
def sortG : List PyData → Option (List PyData)
  | [.list ds] => (toIs ds).map fun ns => (srtI ns).map PyData.int
  | _ => none
theorem l_sorted {K : PySem.W.Frag} : OpL K (rSortedI K) sortG := by
  intro F H xs ds z Q s hx hg k
  unfold sortG at hg
  split at hg
  · rename_i es
    cases e : toIs es with
    | none => rw [e] at hg; cases hg
    | some ns =>
      rw [e] at hg
      have hg' : (srtI ns).map PyData.int = z := Option.some.inj hg
      subst hg'
      cases hx with
      | cons h1 h2 =>
        cases h2
        obtain ⟨a, us, rfl, q1, q2⟩ := h1.list s
        rw [toIs_eq e] at q2
        have eu := dpAll_ints q2
        subst eu
        refine ⟨a, ns, rfl, q1, fun ns' p hp hs hn => ?_⟩
        have e9 : ns' = srtI ns := sorted_uniq (hp.trans (srtI_perm ns).symm) hs (srtI_inc ns)
        rw [e9]
        exact k p _ hn (dpAll_ofInts _)
  · cases hg
end Pd

namespace Pd
open PySem PySem.Spec PyProof.Rows L2
variable [Lams]
section
variable {X : Cx} {TT : Tt} {W : WX} {a : Expr} {es : List Expr} {fs : M (List Rv)} {x : Str} {p pos : Pos}
/-- a built-in function that gives a new list -/
theorem pd_callBL {id : String} {r : List V → Hp → VK → Prop} {gg : List PyData → Option (List PyData)} (hc : CallR X (.builtin id) r) (hr : OpL X.K r gg) (hm : X.mg x = none) (hv : bootBuiltins x = some (.builtin id)) (ha : PAD X TT W (a :: es) fs) (hg : Gl X x := by rfl)
    (hn : x ≠ "__name__" := by decide) (hdb : (x == ("__debug__" : Str)) = false := by decide) (he : starEach (a :: es) X.env = (false, eval a X.env) :: starEach es X.env := by rfl) (hpl : (backTo pos (starEach es X.env)).any (·.1) = false := by rfl) :
    PD X TT W (.Call (.Name x p) (a :: es) [] pos) (fL gg fs) := by
  obtain ⟨⟨t, pt, q⟩⟩ := ha
  exact ⟨⟨_, pe_callB hc hg hm hv pt hn hdb he hpl, fun g al en F σ H Q s h => argL q hr s h⟩⟩
end
end Pd

namespace Pd
open PySem PySem.Spec PyProof.Rows L2
variable [Lams]
section
variable {X : Cx} {TT : Tt} {W : WX} {a : Expr} {fa : M Rv} {p pos : Pos}
/-- len of an owned dict: of plain keys, of tuple keys -/
def lenKM (r : Rv) : M Rv := fun en => match r with
  | .own k => (match en.ob[k]? with
    | some (.dk kvs) => .ok (.dat (.int kvs.length)) en
    | _ => .bad)
  | _ => .bad
def lenTM (r : Rv) : M Rv := fun en => match r with
  | .own k => (match en.ob[k]? with
    | some (.dt kvs) => .ok (.dat (.int kvs.length)) en
    | _ => .bad)
  | _ => .bad
theorem pd_lenK (hm : X.mg "len" = none) (ha : PD X TT W a fa) (hg : Gl X "len" := by rfl) (he : starEach [a] X.env = (false, eval a X.env) :: starEach [] X.env := by rfl) (hpl : (backTo pos (starEach [] X.env)).any (·.1) = false := by rfl) :
    PD X TT W (.Call (.Name "len" p) [a] [] pos) (bnd fa lenKM) := by
  obtain ⟨⟨t, pt, q⟩⟩ := ha
  refine ⟨⟨_, pe_callB call_lenD hg hm boot_len (pa_cons pt pa_nil he) (by decide) (by decide) he hpl, fun g al en F σ H Q s h => ?_⟩⟩
  refine q g al en F σ H _ s (Post.seq h fun r e1 F1 a1 H1 l1 s1 p1 v r1 => ?_)
  unfold lenKM at p1
  split at p1
  · rename_i k
    split at p1
    · rename_i kvs eo
      obtain ⟨ar, ea, rfl⟩ := r1
      obtain ⟨fn, vs, hv, hr⟩ := s1.objs k ar _ ea eo
      rw [← kvR_len hr] at p1
      exact ⟨ar, vs, rfl, hv, p1.here s1 _ (Dp.int _)⟩
    · exact p1.elim
  · exact p1.elim
theorem pd_lenT (hm : X.mg "len" = none) (ha : PD X TT W a fa) (hg : Gl X "len" := by rfl) (he : starEach [a] X.env = (false, eval a X.env) :: starEach [] X.env := by rfl) (hpl : (backTo pos (starEach [] X.env)).any (·.1) = false := by rfl) :
    PD X TT W (.Call (.Name "len" p) [a] [] pos) (bnd fa lenTM) := by
  obtain ⟨⟨t, pt, q⟩⟩ := ha
  refine ⟨⟨_, pe_callB call_len_dT hg hm boot_len (pa_cons pt pa_nil he) (by decide) (by decide) he hpl, fun g al en F σ H Q s h => ?_⟩⟩
  refine q g al en F σ H _ s (Post.seq h fun r e1 F1 a1 H1 l1 s1 p1 v r1 => ?_)
  unfold lenTM at p1
  split at p1
  · rename_i k
    split at p1
    · rename_i kvs eo
      obtain ⟨ar, ea, rfl⟩ := r1
      obtain ⟨fn, vs, hv, hr⟩ := s1.objs k ar _ ea eo
      rw [← kvR_len hr] at p1
      exact ⟨ar, vs, rfl, hv, p1.here s1 _ (Dp.int _)⟩
    · exact p1.elim
  · exact p1.elim
end
end Pd

namespace Pd
open PySem PySem.Spec PyProof.Rows L2
variable [Lams]
section
variable {X : Cx} {TT : Tt} {W : WX} {a : Expr} {fa : M Rv} {p pos : Pos}
/-- dict(d), plain keys -/
def copyKM (r : Rv) : M Rv := fun en => match r with
  | .own k => (match en.ob[k]? with
    | some (.dk kvs) => newM (.dk kvs) en
    | some (.fk kvs) => newM (.dk kvs) en
    | _ => .bad)
  | _ => .bad
theorem pd_dictK (hm : X.mg "dict" = none) (ha : PD X TT W a fa) (hg : Gl X "dict" := by rfl) (he : starEach [a] X.env = (false, eval a X.env) :: starEach [] X.env := by rfl) (hpl : (backTo pos (starEach [] X.env)).any (·.1) = false := by rfl) :
    PD X TT W (.Call (.Name "dict" p) [a] [] pos) (bnd fa copyKM) := by
  obtain ⟨⟨t, pt, q⟩⟩ := ha
  refine ⟨⟨_, pe_callTy call_dictD hg hm boot_dict (pa_cons pt pa_nil he) (by decide) (by decide) he hpl, fun g al en F σ H Q s h => ?_⟩⟩
  refine q g al en F σ H _ s (Post.seq h fun r e1 F1 a1 H1 l1 s1 p1 v r1 => ?_)
  unfold copyKM at p1
  split at p1
  · rename_i k
    split at p1
    · rename_i kvs eo
      obtain ⟨ar, ea, rfl⟩ := r1
      obtain ⟨fn, vs, hv, hr⟩ := s1.objs k ar _ ea eo
      exact ⟨ar, vs, rfl, .inl hv, fun pp hp => newM_post (oc := .dk kvs) s1 hp ⟨vs, rfl, hr⟩ p1⟩
    · rename_i kvs eo
      obtain ⟨ar, ea, rfl⟩ := r1
      obtain ⟨od, vs, hv, hr⟩ := s1.objs k ar _ ea eo
      exact ⟨ar, vs, rfl, .inr ⟨od, s1.sub _ _ hv⟩, fun pp hp => newM_post (oc := .dk kvs) s1 hp ⟨vs, rfl, hr⟩ p1⟩
    · exact p1.elim
  · exact p1.elim
end
end Pd

namespace Pd
open PySem PySem.Spec PyProof.Rows L2
variable [Lams]
/-! ## a value frozen at once; lists joined; max of a list -/
def frzR (r : Rv) : M Rv := bnd (frz r) fun d => ret (.dat d)
section
variable {X : Cx} {TT : Tt} {W : WX} {a b c : Expr} {fa fb fc : M Rv} {pos p : Pos} {es : List Expr} {fs : M (List Rv)}
theorem pd_frz (ha : PD X TT W a fa) : PD X TT W a (bnd fa frzR) := by
  obtain ⟨⟨t, pt, q⟩⟩ := ha
  refine ⟨⟨t, pt, fun g al en F σ H Q s h => q g al en F σ H _ s (Post.seq h fun r e1 F1 a1 H1 l1 s1 p1 v r1 => ?_)⟩⟩
  obtain ⟨d, e2, F2, s2, l2, d2, p2⟩ := frz_seq s1 r1 p1
  exact Post.at (a := Rv.dat d) p2 (Le.refl _ _) s2 v d2
/-- the items of an owned list -/
def lsR (en : En) : Rv → Option (List Rv)
  | .own k => match en.ob[k]? with
    | some (.lst rs) => some rs
    | some (.fz ds) => some (ds.map Rv.dat)
    | _ => none
  | _ => none
theorem lsR_ok {K : PySem.W.Frag} {g : Gh} {al : List Addr} {en : En} {F : Hp} {σ : L2.St} {H : Hp} {v : V} {r : Rv} {rs : List Rv} (s : Sv K TT g al en F σ H) (h : RvR K F al v r) (e : lsR en r = some rs) : ∃ a xs, v = .ref a ∧ H a = some (.lst xs) ∧ RvAll K F al xs rs := by
  cases r with
  | dat d => cases e
  | fn _ _ => cases e
  | fns _ => cases e
  | exv => cases e
  | own k =>
    obtain ⟨a, ea, rfl⟩ := h
    unfold lsR at e
    simp only at e
    split at e
    · rename_i rs' eo
      cases e
      obtain ⟨_, xs, hx, hr⟩ := s.objs k a _ ea eo
      exact ⟨a, xs, rfl, hx, hr⟩
    · rename_i ds eo
      cases e
      obtain ⟨xs, hf, hd⟩ := s.objs k a _ ea eo
      exact ⟨a, xs, rfl, s.sub _ _ hf, rvAll_dat hd⟩
    · cases e
def catM (x y : Rv) : M Rv := fun en => match lsR en x, lsR en y with
  | some rs, some qs => if rs.length + qs.length ≤ sizeLine then newL (rs ++ qs) en else .bad
  | _, _ => .bad
theorem pd_cat (ha : PD X TT W a fa) (hb : PD X TT W b fb) : PD X TT W (.BinOp a .Add b pos) (bnd fa fun x => bnd fb fun y => catM x y) := by
  obtain ⟨⟨ta, pa, qa⟩⟩ := ha
  obtain ⟨⟨tb, pb, qb⟩⟩ := hb
  refine ⟨⟨_, pe_op op_cat pa pb, fun g al en F σ H Q s h => ?_⟩⟩
  refine qa g al en F σ H _ s (Post.seq h fun x e1 F1 a1 H1 l1 s1 p1 v1 r1 => ?_)
  refine qb g a1 e1 F1 σ H1 _ s1 (Post.seq p1 fun y e2 F2 a2 H2 l2 s2 p2 v2 r2 => ?_)
  unfold catM at p2
  split at p2
  · rename_i rs qs ex ey
    split at p2
    · rename_i hz
      obtain ⟨l, xs, rfl, hx, hrx⟩ := lsR_ok s2 (r1.mono l2) ex
      obtain ⟨m, ys, rfl, hy, hry⟩ := lsR_ok s2 r2 ey
      exact ⟨l, m, xs, ys, rfl, rfl, hx, hy, by rw [hrx.len, hry.len]; exact hz, fun q hq => newL_post s2 hq (hrx.app hry) p2⟩
    · exact p2.elim
  · exact p2.elim
end
def maxI : List Int → Option Int
  | [] => none
  | x :: xs => some (xs.foldl max x)
theorem foldl_max : ∀ (xs : List Int) (x : Int), (xs.foldl max x = x ∨ xs.foldl max x ∈ xs) ∧ x ≤ xs.foldl max x ∧ ∀ y ∈ xs, y ≤ xs.foldl max x
  | [], x => ⟨.inl rfl, Int.le_refl _, fun y h => by cases h⟩
  | a :: xs, x => by
    obtain ⟨h1, h2, h3⟩ := foldl_max xs (max x a)
    refine ⟨?_, ?_, fun y hy => ?_⟩
    · rcases h1 with h | h
      · simp only [List.foldl_cons]
        rw [h]
        by_cases q : x ≤ a
        · right; rw [Int.max_eq_right q]; simp
        · left; exact Int.max_eq_left (by omega)
      · right; simp only [List.foldl_cons]; exact List.mem_cons_of_mem _ h
    · simp only [List.foldl_cons]; exact Int.le_trans (Int.le_max_left _ _) h2
    · simp only [List.foldl_cons]
      rcases List.mem_cons.mp hy with q | q
      · subst q; exact Int.le_trans (Int.le_max_right _ _) h2
      · exact h3 y q
theorem maxI_ok {ns : List Int} {m : Int} (h : maxI ns = some m) : m ∈ ns ∧ ∀ y ∈ ns, y ≤ m := by
  cases ns with
  | nil => cases h
  | cons x xs =>
    cases h
    obtain ⟨h1, h2, h3⟩ := foldl_max xs x
    refine ⟨?_, fun y hy => ?_⟩
    · rcases h1 with h | h
      · rw [h]; simp
      · exact List.mem_cons_of_mem _ h
    · rcases List.mem_cons.mp hy with q | q
      · rw [q]; exact h2
      · exact h3 y q
theorem maxI_of {ns : List Int} {m : Int} (h1 : m ∈ ns) (h2 : ∀ y ∈ ns, y ≤ m) : maxI ns = some m := by
  cases e : maxI ns with
  | none =>
    cases ns with
    | nil => cases h1
    | cons x xs => cases e
  | some k =>
    obtain ⟨a, b⟩ := maxI_ok e
    have := h2 k a
    have := b m h1
    congr 1
    omega
def maxLG : List PyData → Option PyData
  | [.list ds] => (toIs ds).bind fun ns => (maxI ns).map PyData.int
  | _ => none
theorem n_maxL {K : PySem.W.Frag} : OpN K (rMax K) maxLG := by
  intro F H xs ds z Q s hx hg k
  unfold maxLG at hg
  split at hg
  · rename_i es
    cases q : toIs es with
    | none => rw [q] at hg; cases hg
    | some ns =>
      rw [q] at hg
      simp only [Option.bind_some] at hg
      cases q3 : maxI ns with
      | none => rw [q3] at hg; cases hg
      | some m =>
        rw [q3] at hg
        cases hg
        cases hx with
        | cons h1 h2 =>
          cases h2
          obtain ⟨a, us, rfl, q1, q2⟩ := h1.list s
          rw [toIs_eq q] at q2
          rw [dpAll_ints q2] at q1
          obtain ⟨hm, hmx⟩ := maxI_ok q3
          refine ⟨a, ns, rfl, q1, List.length_pos_of_mem hm, fun m' a1 a2 => ?_⟩
          have e : m' = m := by
            have := hmx m' a1
            have := a2 m hm
            omega
          rw [e]
          exact k _ F H (.same _ _) (.int _)
  · cases hg
/-! ## the keys of a dict with tuple keys -/
def keysD (kvs : List (List Key × Rv)) : List PyData := kvs.map fun p => .tuple (p.1.map kD)
theorem kvR_keys {K : PySem.W.Frag} {F : Hp} {al : List Addr} {κ : Type} : ∀ {vs : List (κ × V)} {rs : List (κ × Rv)}, KvR K F al vs rs → vs.map (·.1) = rs.map (·.1)
  | _, _, .nil => rfl
  | _, _, .cons _ t => by simp [kvR_keys t]
theorem Sv.frzTs {K : PySem.W.Frag} {TT : Tt} {g : Gh} {al : List Addr} {en : En} {σ : L2.St} {H : Hp} : ∀ {ks : List (List Key)} {bs : List Addr} {F : Hp}, Sv K TT g al en F σ H → PySem.W.EachIs (fun b k => H b = some (.tup (k.map kV))) bs ks →
    ∃ F', Sv K TT g al en F' σ H ∧ Same F F' ∧ DpAll K F' (bs.map V.ref) (ks.map fun k => PyData.tuple (k.map kD))
  | _, _, F, s, .nil => ⟨F, s, Same.refl _, .nil⟩
  | _, _, F, s, .cons (b := k) h t => by
    obtain ⟨s2, l2⟩ := s.frzT h
    obtain ⟨F3, s3, l3, d3⟩ := Sv.frzTs s2 t
    exact ⟨F3, s3, l2.trans l3, .cons (.tup (l3 _ _ upd_same) (dpAll_mono l3 _ _ (dp_keys k))) d3⟩
theorem isKeys_each {H : Hp} : ∀ {kvs : List (List Key × V)} {bs : List Addr}, IsKeys H kvs bs → PySem.W.EachIs (fun b k => H b = some (.tup (k.map kV))) bs (kvs.map (·.1))
  | _, _, .nil => .nil
  | _, _, .cons h t => .cons h (isKeys_each t)
def keysTM (r : Rv) : M Rv := fun en => match r with
  | .own k => (match en.ob[k]? with
    | some (.dt kvs) => newL ((keysD kvs).map Rv.dat) en
    | some (.ft kvs) => newL ((keysD kvs).map Rv.dat) en
    | _ => .bad)
  | _ => .bad
section
variable {X : Cx} {TT : Tt} {W : WX} {a b c : Expr} {fa fb fc : M Rv} {pos p : Pos} {es : List Expr} {fs : M (List Rv)}
theorem pd_listT (hcalm : X.calm = true) (hm : X.mg "list" = none) (ha : PD X TT W a fa) (hg : Gl X "list" := by rfl) (he : starEach [a] X.env = (false, eval a X.env) :: starEach [] X.env := by rfl) (hpl : (backTo pos (starEach [] X.env)).any (·.1) = false := by rfl) :
    PD X TT W (.Call (.Name "list" p) [a] [] pos) (bnd fa keysTM) := by
  obtain ⟨⟨t, pt, q⟩⟩ := ha
  refine ⟨⟨_, pe_callTy (call_list_dT hcalm) hg hm boot_list (pa_cons pt pa_nil he) (by decide) (by decide) he hpl, fun g al en F σ H Q s h => ?_⟩⟩
  refine q g al en F σ H _ s (Post.seq h fun r e1 F1 a1 H1 l1 s1 p1 v r1 => ?_)
  have fin : ∀ (kvs : List (List Key × Rv)) (vs : List (List Key × V)), KvR X.K F1 a1 vs kvs → Post X.K TT W g F1 a1 σ (newL ((keysD kvs).map Rv.dat) e1) (fun r _ F' al' H' => ∀ v, RvR X.K F' al' v r → Q v H') → ∀ (p : Addr) (bs : List Addr), H1 p = none → IsKeys H1 vs bs → Q (.ref p) (upd H1 p (.lst (bs.map V.ref))) := fun kvs vs hr p1 p bs hp hk => by
    have h3 := isKeys_each hk
    rw [kvR_keys hr] at h3
    obtain ⟨F2, s2, l2, d2⟩ := s1.frzTs h3
    refine newL_post s2 hp (rvAll_dat ?_) (p1.up ⟨l2, List.prefix_rfl⟩)
    have e : keysD kvs = (kvs.map (·.1)).map fun k => PyData.tuple (k.map kD) := by unfold keysD; rw [List.map_map]; rfl
    rw [e]
    exact d2
  unfold keysTM at p1
  split at p1
  · rename_i k
    split at p1
    · rename_i kvs eo
      obtain ⟨ar, ea, rfl⟩ := r1
      obtain ⟨fn, vs, hv, hr⟩ := s1.objs k ar _ ea eo
      exact ⟨ar, vs, rfl, .inl hv, fin kvs vs hr p1⟩
    · rename_i kvs eo
      obtain ⟨ar, ea, rfl⟩ := r1
      obtain ⟨od, vs, hv, hr⟩ := s1.objs k ar _ ea eo
      exact ⟨ar, vs, rfl, .inr ⟨od, s1.sub _ _ hv⟩, fin kvs vs hr p1⟩
    · exact p1.elim
  · exact p1.elim
end
end Pd

namespace Pd
open PySem PySem.Spec PyProof.Rows L2
variable [Lams]
/-! ## sorted: rows of ints (tuples), of a list, of a dict's keys -/
def rowD (r : List Int) : PyData := .tuple (r.map PyData.int)
def rowLe (a b : List Int) : Bool := decide (a ≤ b)
def srtR (rs : List (List Int)) : List (List Int) := rs.mergeSort rowLe
theorem dataLe_tups : PySem.W.dataLe false rowD = rowLe := by
  funext p q
  show (!PySem.W.dataLt (.tuple (q.map .int)) (.tuple (p.map .int))) = _
  rw [PySem.W.dataLt_tuple]
  show (!PySem.W.rowLt (q.map .int) (p.map .int)) = _
  rw [PySem.W.dataLt_ints]
  unfold rowLe
  by_cases h : q < p
  · have h' : ¬ p ≤ q := fun r => List.not_lt.mpr r h
    simp [h, h']
  · have h' : p ≤ q := List.not_lt.mp h
    simp [h, h']
def toRow : PyData → Option (List Int)
  | .tuple ds => toIs ds
  | _ => none
/-- all of them rows of ints, none empty -/
def toRows : List PyData → Option (List (List Int))
  | [] => some []
  | d :: ds => match toRow d, toRows ds with
    | some (x :: r), some rs => some ((x :: r) :: rs)
    | _, _ => none
theorem toRows_eq : ∀ {ds : List PyData} {rs : List (List Int)}, toRows ds = some rs → ds = rs.map rowD ∧ ∀ r ∈ rs, r ≠ []
  | [], rs, h => by cases h; exact ⟨rfl, fun r h => by cases h⟩
  | d :: ds, rs, h => by
    unfold toRows at h
    split at h
    · rename_i x r rs' e1 e2
      cases h
      obtain ⟨h1, h2⟩ := toRows_eq e2
      refine ⟨?_, fun r' hr => ?_⟩
      · have e : d = rowD (x :: r) := by
          unfold toRow at e1
          split at e1
          · rw [toIs_eq e1]; rfl
          · cases e1
        rw [h1, e]; rfl
      · rcases List.mem_cons.mp hr with q | q
        · rw [q]; exact fun z => nomatch z
        · exact h2 r' q
    · cases h
theorem toRows_map : ∀ (rs : List (List Int)), (∀ r ∈ rs, r ≠ []) → toRows (rs.map rowD) = some rs
  | [], _ => rfl
  | r :: rs, h => by
    have ih := toRows_map rs fun x hx => h x (List.mem_cons_of_mem _ hx)
    have hr := h r (by simp)
    cases r with
    | nil => exact absurd rfl hr
    | cons x r =>
      simp only [List.map_cons]
      unfold toRows
      rw [ih]
      have e : toRow (rowD (x :: r)) = some (x :: r) := by unfold toRow rowD; exact toIs_map _
      rw [e]
theorem rows_alike (rs : List (List Int)) : PySem.W.AllAlike (rs.map rowD) := PySem.W.AllAlike.of fun b b' => by
  show PySem.W.alike (.tuple _) (.tuple _) = true
  rw [PySem.W.alike]
  exact PySem.W.alike_ints _ _
theorem rows_sortable {rs : List (List Int)} (h : ∀ r ∈ rs, r ≠ []) : PySem.W.Sortable (rs.map rowD) := .inl fun d hd => by
  obtain ⟨r, hr, rfl⟩ := List.mem_map.mp hd
  cases r with
  | nil => exact absurd rfl (h _ hr)
  | cons x r => exact ⟨.int x, r.map .int, rfl⟩
theorem row_depth (r : List Int) : (rowD r).depth ≤ 1 := by
  unfold rowD
  simp [PyData.depth, PySem.W.depth_ints]
theorem each_vals {Z : V → List Int → Prop} : ∀ {xs : List V} {us : List Value} {bs : List (List Int)}, Vals xs us → PySem.W.EachIs Z xs bs → PySem.W.EachIs (fun u b => ∃ x, RelV x u ∧ Z x b) us bs
  | _, _, _, .nil, .nil => .nil
  | _, _, _, .cons r t, .cons z e => .cons ⟨_, r, z⟩ (each_vals t e)
theorem vals_each {Z : V → List Int → Prop} : ∀ {us : List Value} {bs : List (List Int)}, PySem.W.EachIs (fun u b => ∃ x, RelV x u ∧ Z x b) us bs → ∃ xs, Vals xs us ∧ PySem.W.EachIs Z xs bs
  | _, _, .nil => ⟨[], .nil, .nil⟩
  | _, _, .cons ⟨x, r, z⟩ t => by
    obtain ⟨xs, h1, h2⟩ := vals_each t
    exact ⟨x :: xs, .cons r h1, .cons z h2⟩
def rSortDa (K : PySem.W.Frag) : List V → Hp → VK → Prop := fun vs H Q => ∃ (a : Addr) (xs : List V) (rs : List (List Int)) (Z : V → List Int → Prop), vs = [V.ref a] ∧ SqL K H a xs ∧ PySem.W.EachIs Z xs rs ∧ (∀ x r, Z x r → L2.Dp K H x (rowD r)) ∧ (∀ r ∈ rs, r ≠ []) ∧
  ∀ ys p, PySem.W.EachIs Z ys (srtR rs) → H p = none → Q (.ref p) (upd H p (.lst ys))
section
variable {X : Cx}
theorem cr_sortDa (hu : X.A.units + 64 < cLine) : CallR X (.builtin "sorted") (rSortDa X.K) := by
  intro pins s σ H vs us Q I r h
  obtain ⟨a, xs, rs, Z, rfl, hs, hz, hd, hn, q⟩ := h
  obtain ⟨its, rv, hl, hsz⟩ := I.list hs
  rw [Vals.ref1 r]
  have e := each_vals rv hz
  have er : PySem.W.EachIs (fun u b => ∃ as, Reads s.heap u (rowD b) as) its rs := e.mono fun u b ⟨x, r1, z⟩ => L2.Dp.reads I _ x u (hd x b z) r1
  have el : its.length = rs.length := e.length
  refine PySem.W.sorted_data (enc := rowD) hl.isList e er (rows_alike rs) (rows_sortable hn) (by rw [← el, ← rv.length]; exact hsz) (fun b _ => by have := row_depth b; omega) fun out ho eo => ?_
  rw [dataLe_tups] at eo
  obtain ⟨ys, hy, ey⟩ := vals_each eo
  obtain ⟨ep, he'⟩ := PyProof.Rows.sortedAll_at s.heap its out.toArray
  have hlen : ys.length ≤ sizeLine := by
    rw [hy.length, ho, ← el, ← rv.length]
    exact hsz
  exact ⟨.ref _, upd H (s.heap.objs.size + 1) (.lst ys), I.laid (t' := s.toks) (fun _ _ => PyProof.Rows.sortedAll_old) (Nat.le_succ _) ⟨hlen, out, ep, hy, he'⟩, rfl, q _ _ ey (I.hok.fresh (Nat.le_succ _))⟩
end
def toZ : List Key → Option (List Int)
  | [] => some []
  | .inl i :: r => (toZ r).map (i :: ·)
  | .inr _ :: _ => none
theorem toZ_eq : ∀ {k : List Key} {r : List Int}, toZ k = some r → k = r.map Sum.inl
  | [], r, h => by cases h; rfl
  | .inl i :: k, r, h => by
    unfold toZ at h
    cases e : toZ k with
    | none => rw [e] at h; cases h
    | some r' =>
      rw [e] at h
      cases h
      rw [toZ_eq e]; rfl
  | .inr _ :: _, _, h => by cases h
theorem toZ_map : ∀ r : List Int, toZ (r.map Sum.inl) = some r
  | [] => rfl
  | i :: r => by simp [toZ, toZ_map r]
def keyZ (r : List Int) : List Key := r.map Sum.inl
theorem keyZ_V (r : List Int) : (keyZ r).map kV = r.map V.int := by unfold keyZ; rw [List.map_map]; rfl
theorem keyZ_D (r : List Int) : (keyZ r).map kD = r.map PyData.int := by unfold keyZ; rw [List.map_map]; rfl
/-- keys that are rows of ints -/
def kvRows {α : Type} : List (List Key × α) → Option (List (List Int))
  | [] => some []
  | p :: ps => match toZ p.1, kvRows ps with
    | some (x :: r), some rs => some ((x :: r) :: rs)
    | _, _ => none
theorem kvRows_eq {α : Type} : ∀ {ps : List (List Key × α)} {rs : List (List Int)}, kvRows ps = some rs → ps.map (·.1) = rs.map keyZ ∧ ∀ r ∈ rs, r ≠ []
  | [], rs, h => by cases h; exact ⟨rfl, fun r h => by cases h⟩
  | p :: ps, rs, h => by
    unfold kvRows at h
    split at h
    · rename_i x r rs' e1 e2
      cases h
      obtain ⟨h1, h2⟩ := kvRows_eq e2
      refine ⟨?_, fun r' hr => ?_⟩
      · simp only [List.map_cons]
        rw [h1, toZ_eq e1]; rfl
      · rcases List.mem_cons.mp hr with q | q
        · rw [q]; exact fun z => nomatch z
        · exact h2 r' q
    · cases h
theorem each_of_paired {H : Hp} {α : Type} {G : α → Addr → Prop} : True := trivial
section
variable {X : Cx}
def rSortDT : List V → Hp → VK → Prop := fun xs H Q => ∃ (a : Addr) (kvs : List (List Key × V)) (rs : List (List Int)), xs = [.ref a] ∧ Rd H a (.dT kvs) ∧ kvs.map (·.1) = rs.map keyZ ∧ (∀ r ∈ rs, r ≠ []) ∧
  ∀ bs p, PySem.W.EachIs (fun b r => H b = some (.tup (r.map V.int))) bs (srtR rs) → H p = none → Q (.ref p) (upd H p (.lst (bs.map V.ref)))
theorem kt_each {H : Hp} : ∀ {kvs : List (List Key × V)} {ks : List (List Key × Addr × Value)} {rs : List (List Int)}, Paired (fun (p : List Key × V) (q : List Key × Addr × Value) => p.1 = q.1 ∧ H q.2.1 = some (.tup (p.1.map kV)) ∧ RelV p.2 q.2.2) kvs ks → kvs.map (·.1) = rs.map keyZ →
    PySem.W.EachIs (fun (u : Value) r => ∃ b, u = .ref b ∧ H b = some (.tup (r.map V.int))) (ks.map fun x => Value.ref x.2.1) rs
  | _, _, [], .nil, _ => .nil
  | _, _, r :: rs, .cons h t, e => by
    simp only [List.map_cons, List.cons.injEq] at e
    refine .cons ⟨_, rfl, ?_⟩ (kt_each t e.2)
    rw [h.2.1, e.1, keyZ_V]
  | _, _, _ :: _, .nil, e => by simp at e
  | _, _, [], .cons _ _, e => by simp at e
theorem each_back {H : Hp} : ∀ {us : List Value} {rs : List (List Int)}, PySem.W.EachIs (fun (u : Value) r => ∃ b, u = .ref b ∧ H b = some (.tup (r.map V.int))) us rs → ∃ bs : List Addr, us = bs.map Value.ref ∧ PySem.W.EachIs (fun b r => H b = some (.tup (r.map V.int))) bs rs
  | _, _, .nil => ⟨[], rfl, .nil⟩
  | _, _, .cons ⟨b, e, h⟩ t => by
    obtain ⟨bs, h1, h2⟩ := each_back t
    exact ⟨b :: bs, by rw [e, h1]; rfl, .cons h h2⟩
theorem cr_sortDT (hcalm : X.calm = true) (hu : X.A.units + 64 < cLine) : CallR X (.builtin "sorted") rSortDT := by
  intro pins s σ H xs us Q I r q
  obtain ⟨a, kvs, rs, ex, hd, hks, hn, q⟩ := q
  subst ex
  obtain ⟨u, eu, rx⟩ := vals1 r
  subst eu
  cases rx
  obtain ⟨z, hs, ks, pr, o, es, ep, ho, hx, hdt, he, hnd⟩ := (show ObjOk X.prog X.w H s.heap a (.dT kvs) from hd.ok I.hok)
  have l1 : es.size = ks.length := size_of_entries he
  have l2 : kvs.length = ks.length := Paired.length pr
  refine Calls.call_function_entry PyProof.Rows.kind_sorted PyProof.Rows.plain_sorted PyProof.Rows.entry_sorted (PyProof.Rows.args_sorted1 _) ?_
  unfold Builtin.«sorted»
  refine wpAny_bind (m := checkCount "sorted" 1 1 _) (wpAny_pure ?_)
  refine wpAny_bind (PySem.W.kdu_collect (A := X.A.in1) (kdl_raw hs hx hdt) (I.ok.hd hcalm) ho (by omega) fun h' tk acc hk hacc => ?_)
  have ea : acc.toList = ks.map fun x => Value.ref x.2.1 := by
    have hl : acc.toList.length = ks.length := by rw [Array.length_toList, hacc.1]; exact l1
    apply List.ext_getElem?
    intro j
    rw [List.getElem?_map]
    cases hj : acc.toList[j]? with
    | none =>
      have h1 := List.getElem?_eq_none_iff.mp hj
      rw [List.getElem?_eq_none (by omega)]
      all_goals rfl
    | some v =>
      obtain ⟨en, hen, hv⟩ := hacc.2 j v (by rw [← Array.getElem?_toList]; exact hj)
      have qe := entry_at he j
      rw [hen] at qe
      cases hb : ks[j]? with
      | none =>
        rw [hb] at qe
        exact nomatch (show some en = none from qe)
      | some b =>
        rw [hb] at qe
        have e2 : en = entryOfKey (tupleKind (mixKind X.prog X.w)) b := Option.some.inj qe
        rw [hv, e2]
        all_goals rfl
  have hal : acc.toList.length = ks.length := by rw [ea, List.length_map]
  have hsz : acc.toList.length ≤ sizeLine := by rw [hal, ← l2]; exact z
  have eR : PySem.W.EachIs (fun (u : Value) r => ∃ b, u = .ref b ∧ H b = some (.tup (r.map V.int))) acc.toList rs := by rw [ea]; exact kt_each pr hks
  have I1 : Inv X pins σ H { s with heap := h', toks := tk } := I.kept hk
  refine wpAny_bind (wpAny_newList ?_ hsz)
  have hoL : (h'.push (seqObj "list" acc.toList.toArray 0)).get? h'.objs.size = some (seqObj "list" acc.toList.toArray 0) := Heap.get?_push_size _ rfl
  show wpAny _ _ _ _ _ { s with heap := h'.push (seqObj "list" acc.toList.toArray 0), toks := tk }
  have er : PySem.W.EachIs (fun u b => ∃ as, Reads (PySem.W.sortingHeap (h'.push (seqObj "list" acc.toList.toArray 0)) h'.objs.size acc.toList) u (rowD b) as) acc.toList rs := eR.mono fun u b ⟨t, e1, e2⟩ => by
    obtain ⟨as, hr⟩ := L2.Dp.reads I1 (rowD b) (.ref t) u (.tup (.inl (.inl e2)) (dpAllK _ _ (noDAll_ints b) (dpAll_ofInts (F := H) (K := X.K) b))) e1
    exact ⟨as, PyProof.Rows.Reads.keeps (fun c ob hc => by
      have hb : c < h'.objs.size := Heap.lt_size hc
      exact PySem.W.sortingHeap_old (Nat.ne_of_lt hb) (Heap.get?_push_of_some _ hc)) hr⟩
  refine wpAny_bind (wpAny_holding (wpAny_call_entry PyProof.Rows.slot_list_sort ⟨_, hoL, rfl⟩ PyProof.Rows.entry_list_sort
    (PySem.W.list_sort_vals (κ := PySem.W.dataKind (PySem.W.sortingHeap (h'.push (seqObj "list" acc.toList.toArray 0)) h'.objs.size acc.toList) (rs.map rowD)) (s := { s with heap := h'.push (seqObj "list" acc.toList.toArray 0), toks := tk }) hoL
      (PySem.W.SortsAt.data (s := { s with heap := PySem.W.sortingHeap (h'.push (seqObj "list" acc.toList.toArray 0)) h'.objs.size acc.toList, toks := tk }) (PySem.W.each_map (R := fun v d => ∃ as, Reads (PySem.W.sortingHeap (h'.push (seqObj "list" acc.toList.toArray 0)) h'.objs.size acc.toList) v d as) rowD er) (rows_alike rs) (rows_sortable hn) (PySem.W.bound_map fun b _ => by have := row_depth b; show X.A.units + 1 + 1 + _ < _; omega)) hsz ⟨_, rfl, ?_⟩) (PyProof.Rows.args_list_sort _)))
  have eo := PySem.W.sortVals_data false eR er (rows_alike rs)
  rw [dataLe_tups] at eo
  obtain ⟨bs, eb, ebs⟩ := each_back eo
  obtain ⟨e', he'⟩ := PyProof.Rows.sortedHeap_at (vs := acc.toList) (out := (bs.map Value.ref).toArray) hoL
  have hlen : (bs.map V.ref).length ≤ sizeLine := by
    rw [List.length_map]
    have h1 : bs.length = (srtR rs).length := ebs.length
    have h2 := eR.length
    have h3 : (srtR rs).length = rs.length := by unfold srtR; rw [List.length_mergeSort]
    omega
  rw [eb]
  refine wpAny_pure ⟨_, rfl, .ref h'.objs.size, upd H h'.objs.size (.lst (bs.map V.ref)), I1.laid (t' := tk) (fun b u e => ?_) (Nat.le_refl _)
    (show ObjOk X.prog X.w _ _ _ (.lst (bs.map V.ref)) from ⟨hlen, bs.map Value.ref, e', vals_refs bs, he'⟩), rfl, q bs _ ebs (I1.hok.fresh (Nat.le_refl _))⟩
  have hb : b < h'.objs.size := Heap.lt_size e
  rw [PyProof.Rows.sortedHeap_old (Nat.ne_of_lt hb) (by rw [size_push']; exact Nat.lt_succ_of_lt hb)]
  exact Heap.get?_push_of_some _ e
end
end Pd

namespace Pd
open PySem PySem.Spec PyProof.Rows L2
variable [Lams]
/-! ## set(a list of ints), sorted of it -/
section
variable {P : Program} {w : World} {A : Around} {E : Value → Shared → Prop} {s : Shared}
abbrev voidSet (w : World) : Obj := { cls := .type "set", dict := none, data := .set #[] 0 (.fresh 0 0 (!w.params.followText "set-order")) }
/-- the filling -/
theorem set_fill {l : Addr} {cls : Value} {odict : Option Addr} {slots : Array (Option Value)} {items : Array Value} {nl : Nat} (ns : List Int) {R : Result → Shared → Prop} (hh : A.handled = none)
    (hol : s.heap.get? l = some { cls := .type "list", dict := odict, data := .seq items nl, slots := slots }) (hit : IntsAre items.toList ns) (hb : ns.length + 1 < scanBound) (hlen : items.size = ns.length)
    (k : ∀ (h' : Heap) (tk c : Nat), SetR w h' s.heap.objs.size (fun j => decide (j ∈ ns)) c → c ≤ ns.length → (∀ b o, s.heap.get? b = some o → h'.get? b = some o) → R (.ok (.ret .none)) { s with heap := h', toks := tk }) :
    wpAny (model P w) A.in1 (Builtin.«set.__init__» ⟨[.ref s.heap.objs.size, .ref l], []⟩) (fun fin s' => match fin with | .done f => R (.ok f) s' | .again c' => c'.quiet = true ∧ codeAny (model P w) A c' R s') (fun e s' => R (.error e) s') { s with heap := s.heap.push (voidSet w) } := by
  have lt : l < s.heap.objs.size := Heap.lt_size hol
  have own : (s.heap.push (voidSet w)).get? s.heap.objs.size = some (voidSet w) := Heap.get?_push_size _ rfl
  have src : (s.heap.push (voidSet w)).get? l = some { cls := .type "list", dict := odict, data := .seq items nl, slots := slots } := Heap.get?_push_of_some _ hol
  have asL : (s.heap.push (voidSet w)).IsList l items := ⟨_, src, rfl, nl, rfl⟩
  have n1 := F.sub_list_set
  have n2 := F.sub_list_frozenset
  have n3 : (Value.type "list" == Value.type "dict") = false := by decide
  have sT : Shared.TypeIs { s with heap := s.heap.push (voidSet w) } (.ref s.heap.objs.size) "set" := ⟨_, own, rfl⟩
  have size1 : (s.heap.push (voidSet w)).objs.size = s.heap.objs.size + 1 := Heap.size_push ..
  unfold Builtin.«set.__init__» noKeywords Builtin.Frozenset.updateFrom
  generalize hPI : pyIter = PI
  wp_walk
  subst hPI
  refine wpAny_pyIter_list asL (wpAny_bind (wpAny_runValue ?_))
  have z3 : A.in1.in1.handled = none := by simp [hh]
  have apart : l ≠ (s.heap.push (voidSet w)).objs.size := by rw [size1]; exact Nat.ne_of_lt (Nat.lt_succ_of_lt lt)
  have out2 : s.heap.objs.size ∉ [(s.heap.push (voidSet w)).objs.size, l] := by rw [size1]; simp; exact Nat.ne_of_gt lt
  have each : ∀ (i : Nat) (v : Value), items[i]? = some v → ∃ k t, ns[i]? = some k ∧ v = .int k t := fun i v hv => by
    have hi : i < ns.length := by rw [← hlen]; exact (Array.getElem?_eq_some_iff.mp hv).1
    obtain ⟨t, e⟩ := PyProof.Rows.IntsAre.int_at hit i v (by simpa using hv)
    exact ⟨ns[i], t, by simp [hi], by rw [e]; simp [List.getD, hi]⟩
  refine set_update_ints ((Walks.list z3 _ l apart items).toS) s.heap.objs.size out2 ns hlen hb each (items.size - 0) 0 { s with heap := (s.heap.push (voidSet w)).push { cls := .type "list_iterator", data := .fields #[.ref l, .int 0 0] } } (by omega) (Nat.zero_le _) ⟨⟨_, Heap.get?_push_size _ rfl, rfl, rfl⟩, asL.push _⟩ ⟨0, Nat.le_refl 0, ?z⟩ ?_
  case z => exact setR_new_at (w := w) (Heap.get?_push_of_some _ own)
  rintro ⟨h2, g2, d2, t2, o2⟩ c hm hc hS
  cases (hm.gens : g2 = s.gens)
  cases (hm.drawn : d2 = s.drawn)
  cases (hm.os : o2 = s.os)
  rw [hlen] at hc
  refine wpAny_pure (wpAny_pure (k h2 t2 c hS hc fun b o e => ?_))
  have lb : b < s.heap.objs.size := Heap.lt_size e
  refine hm.heap b o (fun q => ?_) (Heap.get?_push_of_some _ (Heap.get?_push_of_some _ e))
  rw [size1] at q
  simp at q
  rcases q with q | q
  · exact absurd q (Nat.ne_of_lt lb)
  · exact absurd q (Nat.ne_of_lt (Nat.lt_succ_of_lt lb))
theorem set_list {l : Addr} {items : Array Value} (ns : List Int) {Q : Value → Shared → Prop} (hh : A.handled = none) (hl : s.heap.IsList l items) (hit : IntsAre items.toList ns) (hb : ns.length + 1 < scanBound)
    (h : ∀ (h' : Heap) (tk c : Nat), SetR w h' s.heap.objs.size (fun j => decide (j ∈ ns)) c → c ≤ ns.length → (∀ b o, s.heap.get? b = some o → h'.get? b = some o) → Q (.ref s.heap.objs.size) { s with heap := h', toks := tk }) :
    wpAny (model P w) A (call (.type "set") [.ref l]) Q E s := by
  have hlen : items.size = ns.length := by
    have q := IntsAre.length hit
    rwa [Array.length_toList] at q
  obtain ⟨⟨c0, od, dt, sl⟩, ho, hc, nl, hd⟩ := hl
  simp only at hc hd
  subst hc hd
  obtain ⟨c, tl, m0⟩ := F.called_set.mro
  have m1 := F.called_set.made
  have m2 := F.called_set.sub
  have m3 := F.called_set.notType
  have m4 := F.called_set.canCreate
  have m5 := F.typeCall_set_1 (.ref l)
  refine wpAny_call (codeAny_of_tree ?_)
  show wpAny _ _ (callAny (.type "set") _) _ _ _
  refine wpAny_pure ⟨Code.quiet_builtin _ (by decide +kernel), codeAny_builtin F.entry_type_call ?_⟩
  rw [Around.under_plain (weight_type_call_type "set" [.ref l] []) rfl]
  repeat (any_goals (first | assumption | wp_step))
  refine codeAny_mono (code_set_led1 (.ref l) (E := E) (Q₁ := fun obj t => obj = .ref s.heap.objs.size ∧ t = { s with heap := s.heap.push (voidSet w) }) ⟨rfl, rfl⟩) fun r t hr => ?_
  cases r with
  | error e => exact hr
  | ok fl =>
    cases fl with
    | ret obj =>
      obtain ⟨rfl, rfl⟩ := hr
      have sT : Shared.TypeIs { s with heap := s.heap.push (voidSet w) } (.ref s.heap.objs.size) "set" := ⟨_, Heap.get?_push_size _ rfl, rfl⟩
      have i1 := F.called_set.init.lookup
      have i2 := F.called_set.init.bind (.ref s.heap.objs.size)
      repeat (any_goals (first | assumption | wp_step))
      refine codeAny_mono (codeAny_call_builtin (R := wants (fun r t => r = .none ∧ ∃ h' tk c, t = { s with heap := h', toks := tk } ∧ SetR w h' s.heap.objs.size (fun j => decide (j ∈ ns)) c ∧ c ≤ ns.length ∧ (∀ b o, s.heap.get? b = some o → h'.get? b = some o)) E)
        F.called_set.init.plain F.entry_set_init (check_set_init_1 sT (set_fill (cls := .none) ns (by simp [hh]) ho hit hb hlen fun h' tk c q1 q2 q3 => ⟨rfl, h', tk, c, rfl, q1, q2, q3⟩))) fun r2 t2 hr2 => ?_
      cases r2 with
      | error e => exact hr2
      | ok f2 =>
        cases f2 with
        | ret r =>
          obtain ⟨rfl, h', tk, c', rfl, q1, q2, q3⟩ := hr2
          repeat (any_goals (first | assumption | wp_step))
          exact h _ _ _ q1 q2 q3
        | _ => exact hr2.elim
    | _ => exact hr.elim
end
def rSetL (K : PySem.W.Frag) (w : World) : List V → Hp → VK → Prop := fun vs H Q => ∃ (a : Addr) (ns : List Int), vs = [V.ref a] ∧ SqL K H a (ns.map V.int) ∧ ns.length + 1 < scanBound ∧ ∀ p c, H p = none → c ≤ ns.length → Q (.ref p) (upd H p (SetO w p (fun j => decide (j ∈ ns)) c))
theorem cr_setL {X : Cx} (hc : X.calm = true) : CallR X (.type "set") (rSetL X.K X.w) := by
  intro pins s σ H xs us Q I r h
  obtain ⟨a, ns, rfl, hl, hb, q⟩ := h
  rw [Vals.ref1 r]
  obtain ⟨its, rv, pl, hz⟩ := I.list hl
  exact set_list (P := X.prog) (w := X.w) ns (I.ok.hd hc) pl.isList (by simpa using rv.ints) hb fun h' tk c R hcn k =>
    ⟨.ref s.heap.objs.size, _, I.laid (t' := tk) k (Nat.le_refl _) (setO_new R), rfl, q _ c (I.hok.fresh (Nat.le_refl _)) hcn⟩
end Pd

namespace Pd
open PySem PySem.Spec PyProof.Rows L2
variable [Lams]
/-! ## sorted, as rules over data -/
theorem CallR.or2 {X : Cx} {f : Value} {r r' : List V → Hp → VK → Prop} (h : CallR X f r) (h' : CallR X f r') : CallR X f (fun xs H Q => r xs H Q ∨ r' xs H Q) := by
  intro pins s σ H xs us Q I rr q
  rcases q with q | q
  · exact h pins s σ H xs us Q I rr q
  · exact h' pins s σ H xs us Q I rr q
def insR (a : List Int) : List (List Int) → List (List Int)
  | [] => [a]
  | b :: l => if rowLe a b = true then a :: b :: l else b :: insR a l
def srtK : List (List Int) → List (List Int)
  | [] => []
  | a :: l => insR a (srtK l)
theorem insR_perm (a : List Int) : ∀ l, (insR a l).Perm (a :: l)
  | [] => .refl _
  | b :: l => by
    unfold insR
    split
    · exact .refl _
    · exact ((insR_perm a l).cons b).trans (.swap a b l)
theorem srtK_perm : ∀ l, (srtK l).Perm l
  | [] => .refl _
  | a :: l => (insR_perm a _).trans ((srtK_perm l).cons a)
theorem rowLe_tot (a b : List Int) : rowLe a b = true ∨ rowLe b a = true := by
  unfold rowLe
  rcases List.le_total a b with h | h
  · exact .inl (decide_eq_true h)
  · exact .inr (decide_eq_true h)
theorem rowLe_trans (a b c : List Int) (h : rowLe a b = true) (h2 : rowLe b c = true) : rowLe a c = true := decide_eq_true (List.le_trans (of_decide_eq_true h) (of_decide_eq_true h2))
theorem rowLe_anti (a b : List Int) (h : rowLe a b = true) (h2 : rowLe b a = true) : a = b := List.le_antisymm (of_decide_eq_true h) (of_decide_eq_true h2)
theorem insR_inc (a : List Int) : ∀ l, l.Pairwise (fun x y => rowLe x y = true) → (insR a l).Pairwise fun x y => rowLe x y = true
  | [], _ => by simp [insR]
  | b :: l, h => by
    rw [List.pairwise_cons] at h
    unfold insR
    split
    · rename_i hab
      rw [List.pairwise_cons, List.pairwise_cons]
      exact ⟨fun x hx => by
        rcases List.mem_cons.mp hx with e | e
        · rw [e]; exact hab
        · exact rowLe_trans _ _ _ hab (h.1 x e), h⟩
    · rename_i hab
      have hba : rowLe b a = true := (rowLe_tot b a).resolve_right hab
      rw [List.pairwise_cons]
      exact ⟨fun x hx => by
        rcases List.mem_cons.mp ((insR_perm a l).mem_iff.mp hx) with e | e
        · rw [e]; exact hba
        · exact h.1 x e, insR_inc a l h.2⟩
theorem srtK_inc : ∀ l, (srtK l).Pairwise fun x y => rowLe x y = true
  | [] => .nil
  | a :: l => insR_inc a _ (srtK_inc l)
theorem srtR_eq (rs : List (List Int)) : srtR rs = srtK rs := by
  refine List.Perm.eq_of_pairwise (le := fun x y => rowLe x y = true) (fun a b _ _ h h2 => rowLe_anti a b h h2) ?_ (srtK_inc rs) ((List.mergeSort_perm rs rowLe).trans (srtK_perm rs).symm)
  exact List.pairwise_mergeSort (le := rowLe) (fun a b c h h2 => rowLe_trans a b c h h2) (fun a b => by
    rcases rowLe_tot a b with z | z
    · rw [z]; rfl
    · rw [z]; simp) rs
def sortAG : List PyData → Option (List PyData)
  | [.list ds] => (match toIs ds with
    | some ns => some ((srtI ns).map PyData.int)
    | none => (toRows ds).map fun rs => (srtK rs).map rowD)
  | _ => none
theorem dpAll_rows {K : PySem.W.Frag} {F : Hp} : ∀ {us : List V} {rs : List (List Int)}, DpAll K F us (rs.map rowD) → PySem.W.EachIs (fun x r => Dp K F x (rowD r)) us rs
  | _, [], .nil => .nil
  | _, r :: rs, .cons h t => .cons h (dpAll_rows t)
theorem rows_dpAll {K : PySem.W.Frag} {F : Hp} : ∀ {us : List V} {rs : List (List Int)}, PySem.W.EachIs (fun x r => Dp K F x (rowD r)) us rs → DpAll K F us (rs.map rowD)
  | _, _, .nil => .nil
  | _, _, .cons h t => .cons h (rows_dpAll t)
theorem l_sortA {K : PySem.W.Frag} : OpL K (fun xs H Q => rSortedI K xs H Q ∨ rSortDa K xs H Q) sortAG := by
  intro F H xs ds z Q s hx hg k
  unfold sortAG at hg
  simp only [← srtR_eq] at hg
  split at hg
  · rename_i es
    cases hx with
    | cons h1 h2 =>
      cases h2
      obtain ⟨a, us, rfl, q1, q2⟩ := h1.list s
      split at hg
      · rename_i ns e
        cases hg
        rw [toIs_eq e] at q2
        have eu := dpAll_ints q2
        subst eu
        refine .inl ⟨a, ns, rfl, q1, fun ns' p hp hs hn => ?_⟩
        have e9 : ns' = srtI ns := sorted_uniq (hp.trans (srtI_perm ns).symm) hs (srtI_inc ns)
        rw [e9]
        exact k p _ hn (dpAll_ofInts _)
      · cases e : toRows es with
        | none => rw [e] at hg; cases hg
        | some rs =>
          rw [e] at hg
          cases hg
          obtain ⟨e1, e2⟩ := toRows_eq e
          rw [e1] at q2
          exact .inr ⟨a, us, rs, fun x r => Dp K F x (rowD r), rfl, q1, dpAll_rows q2, fun x r h => dpK _ _ (noDAll_ints r) (dp_mono s _ _ h), e2, fun ys p he hn => k p ys hn (rows_dpAll he)⟩
  · cases hg
def sortTM (r : Rv) : M Rv := fun en => match r with
  | .own k => (match en.ob[k]? with
    | some (.dt kvs) => (match kvRows kvs with
      | some rs => newL (((srtK rs).map rowD).map Rv.dat) en
      | none => .bad)
    | some (.ft kvs) => (match kvRows kvs with
      | some rs => newL (((srtK rs).map rowD).map Rv.dat) en
      | none => .bad)
    | _ => .bad)
  | _ => .bad
theorem each_keyZ {H : Hp} : ∀ {bs : List Addr} {rs : List (List Int)}, PySem.W.EachIs (fun b (r : List Int) => H b = some (.tup (r.map V.int))) bs rs → PySem.W.EachIs (fun b (k : List Key) => H b = some (.tup (k.map kV))) bs (rs.map keyZ)
  | _, _, .nil => .nil
  | _, _, .cons h t => .cons (by rw [keyZ_V]; exact h) (each_keyZ t)
/-- strictly rising, of the same members -/
def insI (x : Int) : List Int → List Int
  | [] => [x]
  | y :: ys => if x < y then x :: y :: ys else if x = y then y :: ys else y :: insI x ys
def usrt (ns : List Int) : List Int := ns.foldr insI []
theorem insI_mem (x k : Int) : ∀ ys : List Int, k ∈ insI x ys ↔ k = x ∨ k ∈ ys
  | [] => by simp [insI]
  | y :: ys => by
    unfold insI
    split
    · simp
    · split
      · rename_i e; subst e; simp
      · simp [insI_mem x k ys]
        constructor
        · rintro (h | h | h) <;> simp [h]
        · rintro (h | h | h) <;> simp [h]
theorem insI_inc (x : Int) : ∀ ys : List Int, ys.Pairwise (· < ·) → (insI x ys).Pairwise (· < ·)
  | [], _ => by simp [insI]
  | y :: ys, h => by
    obtain ⟨h1, h2⟩ := List.pairwise_cons.mp h
    unfold insI
    split
    · rename_i q
      refine List.pairwise_cons.mpr ⟨fun z hz => ?_, h⟩
      rcases List.mem_cons.mp hz with e | e
      · rw [e]; exact q
      · exact Int.lt_trans q (h1 z e)
    · split
      · exact h
      · refine List.pairwise_cons.mpr ⟨fun z hz => ?_, insI_inc x ys h2⟩
        rcases (insI_mem x z ys).mp hz with e | e
        · rw [e]; omega
        · exact h1 z e
theorem usrt_mem (ns : List Int) (k : Int) : k ∈ usrt ns ↔ k ∈ ns := by
  induction ns with
  | nil => simp [usrt]
  | cons x xs ih =>
    show k ∈ insI x (usrt xs) ↔ _
    rw [insI_mem, ih]
    simp
theorem usrt_inc (ns : List Int) : (usrt ns).Pairwise (· < ·) := by
  induction ns with
  | nil => exact List.Pairwise.nil
  | cons x xs ih => exact insI_inc x _ ih
theorem inc_uniq : ∀ {l m : List Int}, l.Pairwise (· < ·) → m.Pairwise (· < ·) → (∀ k, k ∈ l ↔ k ∈ m) → l = m := fun {l m} h1 h2 h => by
  have n1 : l.Nodup := h1.imp fun {a b} q => by omega
  have n2 : m.Nodup := h2.imp fun {a b} q => by omega
  exact sorted_uniq ((List.perm_ext_iff_of_nodup n1 n2).mpr h) (h1.imp fun {a b} q => by omega) (h2.imp fun {a b} q => by omega)
def usrtG : List PyData → Option (List PyData)
  | [.list ds] => (toIs ds).bind fun ns => if (usrt ns).length < 64 ∧ ns.length + 1 < scanBound then some ((usrt ns).map PyData.int) else none
  | _ => none
theorem setR_count {w : World} {h : Heap} {a : Addr} {ns : List Int} {c : Nat} (R : SetR w h a (fun j => decide (j ∈ ns)) c) : c = (usrt ns).length := by
  obtain ⟨o, es, ep, t, ho, hex, hd, g, nd, hm, hb, hf, hn, hr, hl⟩ := R
  have p : (es.toList.map keyOf).Perm (usrt ns) := (List.perm_ext_iff_of_nodup nd ((usrt_inc ns).imp fun {a b} q => by omega)).mpr fun k => by
    rw [usrt_mem, ← hm k, decide_eq_true_eq]
  rw [← p.length_eq, List.length_map, Array.length_toList, hn]
def rSetS (K : PySem.W.Frag) (w : World) : List V → Hp → VK → Prop := fun vs H Q => ∃ (a : Addr) (ns : List Int), vs = [V.ref a] ∧ SqL K H a (ns.map V.int) ∧ ns.length + 1 < scanBound ∧ ∀ p, H p = none → Q (.ref p) (upd H p (SetO w p (fun j => decide (j ∈ ns)) (usrt ns).length))
theorem cr_setS {X : Cx} (hc : X.calm = true) : CallR X (.type "set") (rSetS X.K X.w) := by
  intro pins s σ H xs us Q I r h
  obtain ⟨a, ns, rfl, hl, hb, q⟩ := h
  rw [Vals.ref1 r]
  obtain ⟨its, rv, pl, hz⟩ := I.list hl
  exact set_list (P := X.prog) (w := X.w) ns (I.ok.hd hc) pl.isList (by simpa using rv.ints) hb fun h' tk c R hcn k =>
    ⟨.ref s.heap.objs.size, _, I.laid (t' := tk) k (Nat.le_refl _) (setO_new (setR_count R ▸ R)), rfl, q _ (I.hok.fresh (Nat.le_refl _))⟩
section
variable {X : Cx} {TT : Tt} {W : WX} {a b c : Expr} {fa fb fc : M Rv} {pos p p2 q2 : Pos} {es : List Expr} {fs : M (List Rv)}
theorem pd_sortA (hu : X.A.units + 64 < cLine) (hm : X.mg "sorted" = none) (ha : PAD X TT W [a] fs) (hg : Gl X "sorted" := by rfl) (he : starEach [a] X.env = (false, eval a X.env) :: starEach [] X.env := by rfl) (hpl : (backTo pos (starEach [] X.env)).any (·.1) = false := by rfl) :
    PD X TT W (.Call (.Name "sorted" p) [a] [] pos) (fL sortAG fs) :=
  pd_callBL (CallR.or2 cr_sortedI (cr_sortDa hu)) l_sortA hm (by decide +kernel) ha hg (by decide) (by decide) he hpl
theorem pd_sortT (hcalm : X.calm = true) (hu : X.A.units + 64 < cLine) (hm : X.mg "sorted" = none) (ha : PD X TT W a fa) (hg : Gl X "sorted" := by rfl) (he : starEach [a] X.env = (false, eval a X.env) :: starEach [] X.env := by rfl) (hpl : (backTo pos (starEach [] X.env)).any (·.1) = false := by rfl) :
    PD X TT W (.Call (.Name "sorted" p) [a] [] pos) (bnd fa sortTM) := by
  obtain ⟨⟨t, pt, q⟩⟩ := ha
  refine ⟨⟨_, pe_callB (cr_sortDT hcalm hu) hg hm (by decide +kernel) (pa_cons pt pa_nil he) (by decide) (by decide) he hpl, fun g al en F σ H Q s h => ?_⟩⟩
  refine q g al en F σ H _ s (Post.seq h fun r e1 F1 a1 H1 l1 s1 p1 v r1 => ?_)
  have fin : ∀ (kvs : List (List Key × Rv)) (vs : List (List Key × V)) (rs : List (List Int)), kvRows kvs = some rs → KvR X.K F1 a1 vs kvs → Post X.K TT W g F1 a1 σ (newL (((srtR rs).map rowD).map Rv.dat) e1) (fun r _ F' al' H' => ∀ v, RvR X.K F' al' v r → Q v H') →
      vs.map (·.1) = rs.map keyZ ∧ (∀ r ∈ rs, r ≠ []) ∧ ∀ (bs : List Addr) (p : Addr), PySem.W.EachIs (fun b r => H1 b = some (.tup (r.map V.int))) bs (srtR rs) → H1 p = none → Q (.ref p) (upd H1 p (.lst (bs.map V.ref))) := fun kvs vs rs ek hr p1 => by
    obtain ⟨k1, k2⟩ := kvRows_eq ek
    refine ⟨by rw [kvR_keys hr, k1], k2, fun bs p hk hp => ?_⟩
    have h3 : PySem.W.EachIs (fun b k => H1 b = some (.tup (k.map kV))) bs ((srtR rs).map keyZ) := each_keyZ hk
    obtain ⟨F2, s2, l2, d2⟩ := s1.frzTs h3
    refine newL_post s2 hp (rvAll_dat ?_) (p1.up ⟨l2, List.prefix_rfl⟩)
    have e : (srtR rs).map rowD = ((srtR rs).map keyZ).map fun k => PyData.tuple (k.map kD) := by
      rw [List.map_map]
      exact List.map_congr_left fun r _ => by show rowD r = .tuple ((keyZ r).map kD); rw [keyZ_D]; rfl
    rw [e]
    exact d2
  unfold sortTM at p1
  simp only [← srtR_eq] at p1
  split at p1
  · rename_i k
    split at p1
    · rename_i kvs eo
      split at p1
      · rename_i rs ek
        obtain ⟨ar, ea, rfl⟩ := r1
        obtain ⟨fn, vs, hv, hr⟩ := s1.objs k ar _ ea eo
        obtain ⟨f1, f2, f3⟩ := fin kvs vs rs ek hr p1
        exact ⟨ar, vs, rs, rfl, .inl hv, f1, f2, f3⟩
      · exact p1.elim
    · rename_i kvs eo
      split at p1
      · rename_i rs ek
        obtain ⟨ar, ea, rfl⟩ := r1
        obtain ⟨od, vs, hv, hr⟩ := s1.objs k ar _ ea eo
        obtain ⟨f1, f2, f3⟩ := fin kvs vs rs ek hr p1
        exact ⟨ar, vs, rs, rfl, .inr ⟨od, s1.sub _ _ hv⟩, f1, f2, f3⟩
      · exact p1.elim
    · exact p1.elim
  · exact p1.elim
/-- sorted(set(e)), ints -/
theorem pd_setsort (hcalm : X.calm = true) (hm : X.mg "sorted" = none) (hm2 : X.mg "set" = none) (ha : PAD X TT W [a] fs) (hg : Gl X "sorted" := by rfl) (hg2 : Gl X "set" := by rfl)
    (he : starEach [a] X.env = (false, eval a X.env) :: starEach [] X.env := by rfl) (hpl : (backTo pos (starEach [] X.env)).any (·.1) = false := by rfl)
    (he2 : starEach [.Call (.Name "set" p2) [a] [] pos] X.env = (false, eval (.Call (.Name "set" p2) [a] [] pos) X.env) :: starEach [] X.env := by rfl) (hpl2 : (backTo q2 (starEach [] X.env)).any (·.1) = false := by rfl) :
    PD X TT W (.Call (.Name "sorted" p) [.Call (.Name "set" p2) [a] [] pos] [] q2) (fL usrtG fs) := by
  obtain ⟨⟨t, pt, q⟩⟩ := ha
  refine ⟨⟨_, pe_callB (cr_sortedSet hcalm) hg hm (by decide +kernel) (pa_cons (pe_callTy (cr_setS hcalm) hg2 hm2 (by decide +kernel) pt (by decide) (by decide) he hpl) pa_nil he2) (by decide) (by decide) he2 hpl2, fun g al en F σ H Q s h => ?_⟩⟩
  refine q g al en F σ H _ s (Post.seq h fun rs e1 F1 a1 H1 l1 s1 p1 vs r1 => ?_)
  unfold appL at p1
  cases e : peeks e1 rs with
  | none => rw [e] at p1; exact p1.elim
  | some ds =>
    rw [e] at p1
    simp only at p1
    cases e2 : usrtG ds with
    | none => rw [e2] at p1; exact p1.elim
    | some z =>
      rw [e2] at p1
      have pk := peeks_ok s1 r1 e
      unfold usrtG at e2
      split at e2
      · rename_i es
        cases e3 : toIs es with
        | none => rw [e3] at e2; cases e2
        | some ns =>
          rw [e3] at e2
          simp only [Option.bind_some] at e2
          split at e2
          · rename_i hlt
            cases e2
            cases pk with
            | cons k1 k2 =>
              cases k2
              obtain ⟨ar, us, rfl, hq, hd⟩ := k1.list s1.sub
              rw [toIs_eq e3] at hd
              have eu := dpAll_ints hd
              subst eu
              refine ⟨ar, ns, rfl, hq, hlt.2, fun p hp => ?_⟩
              have s2 := s1.junk (SetO X.w p (fun j => decide (j ∈ ns)) (usrt ns).length) hp
              refine ⟨p, _, _, rfl, upd_same, hlt.1, fun ns' l hi hmem hln hl => ?_⟩
              have en : ns' = usrt ns := inc_uniq hi (usrt_inc ns) fun k => by rw [hmem k, usrt_mem, decide_eq_true_eq]
              rw [en]
              exact newL_post s2 hl (rvAll_dat (dpAll_ofInts _)) p1
          · cases e2
      · cases e2
end
end Pd

namespace Pd
open PySem PySem.Spec PyProof.Rows L2
variable [Lams]
/-! ## {key: value} with one tuple key; dict(d) of tuple keys -/
section
variable {X : Cx} {kx vx : Expr} {tk tv : TE} {pos : Pos}
def tDisp1 (tk tv : TE) : TE := fun σ H Q => ∀ p, H p = none → tk σ (upd H p (.dT [])) fun x H1 => tv σ H1 fun y H2 => H2 p = some (.dT []) ∧ ∃ (b : Addr) (key : List Key), x = .ref b ∧ H2 b = some (.tup (key.map kV)) ∧ Q (.ref p) (upd H2 p (.dT [(key, y)]))
theorem pe_disp1 (hu : X.A.units + 64 < cLine) (hk : PE X kx tk) (hv : PE X vx tv) : PE X (.Dict [some kx] [vx] pos) (tDisp1 tk tv) := by
  refine ⟨fun pins s σ H Q I q => ?_⟩
  have hn := I.hok.fresh (Nat.le_refl s.heap.objs.size)
  have I1 := I.laid (a := s.heap.objs.size) (o := .dT []) (h' := s.heap.push { cls := .type "dict", data := .dict #[] }) (t' := s.toks) (fun _ _ q => Heap.get?_push_of_some _ q) (Nat.le_refl _) (dt_empty s.heap I.big)
  rw [arm_eval_Dict, zip_pairTrees [some kx] [vx] X.env pos rfl rfl, dictDisplay_pairs (pairTrees [some kx] [vx] X.env pos) (by intro z; cases z) (show 1 < 17 by decide)]
  refine wpAny_bind (wpAny_standAt (wpAny_bind (wpAny_subDictH (knd := tupleKind (mixKind X.prog X.w)) (Q := fun d s' => wpAny (model X.prog X.w) X.A (pure (Value.ref d)) _ _ s') (show X.A.units < cLine by omega) (show 1 ≤ 15 by decide) ?_)))
  refine pairTrees_cons_walk (thn (hk.run pins _ σ _ _ I1 (q _ hn)) fun u s1 ⟨x, H1, I3, rx, q1⟩ => thn (hv.run pins s1 σ H1 _ I3 q1) fun v s2 ⟨y, H2, I2, h2, e, b, key, ex, hb, q2⟩ => pairTrees_nil_walk ?_)
  subst ex
  cases rx
  obtain ⟨z, hd, xs, rk, dd⟩ := dt_of I2.hok e
  cases rk
  refine ⟨[(key, b, v)], ⟨rfl, rfl, key_of I2.hok hb, trivial⟩, dd, fun h' tk' dd' hs => wpAny_pure ⟨.ref s.heap.objs.size, _, ?_, rfl, q2⟩⟩
  obtain ⟨o, es, ep, ho, g2, g3, g4, _, g5⟩ := dd'
  refine d_write (t' := tk') I2 (by rw [e]; exact True.intro) hs ⟨o, ho⟩ ⟨by show 1 ≤ sizeLine; rw [sizeLine_eq]; omega, hd, [(key, b, v)], .cons ⟨rfl, ?_, h2⟩ .nil, o, es, ep, ho, g2, g3, g4, g5⟩
  rw [upd_ne (ne_of hb e (fun z => nomatch z))]
  exact hb
end
/-- the hash of a row of ints -/
def rowH (r : List Int) : Int := reduceHash (Builtin.Tuple.tupleHashOf (r.map hashInt))
theorem keyZ_hash {P : Program} {w : World} (r : List Int) : (tupleKind (mixKind P w)).hash (keyZ r) = rowH r := by
  show reduceHash (Builtin.Tuple.tupleHashOf ((keyZ r).map (keyH w))) = _
  unfold keyZ rowH
  rw [List.map_map]
  rfl
theorem dict_copyT {P : Program} {w : World} {K : Type} [DecidableEq K] {knd : HeapKind P w K} {A : Around} {E : Value → Shared → Prop} {s : Shared} {o : Addr} {xs : List (K × Addr × Value)} {Q : Value → Shared → Prop} (hu : knd.room A.in1.in1) (lo : (o == sysModules) = false) (ho : s.heap.DictOfH knd o xs)
    (hst : ∀ h', (∀ b o, s.heap.get? b = some o → h'.get? b = some o) → ∀ x ∈ xs, knd.is h' x.1 x.2.1) (hty : ∀ x ∈ xs, s.TypeIs (.ref x.2.1) "tuple") (hap : (xs.map fun x => knd.hash x.1).Nodup) (hz : xs.length ≤ sizeLine)
    (k : ∀ h', h'.DictOfH knd s.heap.objs.size xs → Heap.SameBut s.heap.objs.size (s.heap.push { cls := .type "dict", data := .dict #[] }) h' → Q (.ref s.heap.objs.size) { s with heap := h' }) :
    wpAny (model P w) A (call (.type "dict") [.ref o]) Q E s := by
  refine callType_codes (Q₁ := fun obj t => obj = .ref s.heap.objs.size ∧ t = { s with heap := s.heap.push { cls := .type "dict", data := .dict #[] } }) PySem.F.kt_called_dict (PySem.F.kt_typeCall_dict_1 _) PySem.F.entry_dict_init (kt_code_dict_new _ ⟨rfl, rfl⟩) ?_
  rintro obj t ⟨rfl, rfl⟩
  have empty : (s.heap.push { cls := .type "dict", data := .dict #[] }).DictOfH knd s.heap.objs.size [] := Heap.DictOfH.new s.heap
  have old : ∀ b u, s.heap.get? b = some u → (s.heap.push { cls := .type "dict", data := .dict #[] }).get? b = some u := fun b u e => Heap.get?_push_of_some _ e
  obtain ⟨ob, es, ep, h1, h2, h3, h4, h5, h6⟩ := ho
  have full : (s.heap.push { cls := .type "dict", data := .dict #[] }).DictOfH knd o xs := ⟨ob, es, ep, old _ _ h1, h2, h3, h4, hst _ old, h6⟩
  have apart : s.heap.objs.size ≠ o := fun e => absurd (Heap.lt_size h1) (by rw [e]; exact Nat.lt_irrefl _)
  refine ⟨empty.typeIs, PySem.F.args_dict_init_2 _ _, ?_⟩
  unfold Builtin.«dict.__init__»
  refine wpAny_bind ?_
  unfold Builtin.Dict.selfAndRest
  refine wpAny_bind (wpAny_notOrdered_dict empty.typeIs (wpAny_pure ?_))
  refine updateFrom_dictH (A := A.in1) .none hu apart lo empty full (.inr ⟨fun x hx => ?_, hap⟩) (by simpa using hz) fun h' d' _ sb => ⟨rfl, k h' ?_ sb⟩
  · obtain ⟨u, e1, e2⟩ := hty x hx
    exact ⟨u, old _ _ e1, e2⟩
  · rw [storedAllH_nil_of_nodup xs h6] at d'
    exact d'
def rDictT : List V → Hp → VK → Prop := fun xs H Q => ∃ (a : Addr) (kvs : List (List Key × V)) (rs : List (List Int)), xs = [.ref a] ∧ Rd H a (.dT kvs) ∧ kvs.map (·.1) = rs.map keyZ ∧ (rs.map rowH).Nodup ∧ ∀ p, H p = none → Q (.ref p) (upd H p (.dT kvs))
theorem kt_tups {H : Hp} {h : Heap} {P : Program} {w : World} (ok : HOk P w H h) : ∀ {kvs : List (List Key × V)} {ks : List (List Key × Addr × Value)}, KT H kvs ks → ∀ x ∈ ks, ∃ ys, H x.2.1 = some (.tup ys)
  | _, _, .nil, x, hx => nomatch hx
  | _, _, .cons hq t, x, hx => by
    rcases List.mem_cons.mp hx with e | e
    · subst e; exact ⟨_, hq.2.1⟩
    · exact kt_tups ok t x e
theorem kt_names {H : Hp} : ∀ {kvs : List (List Key × V)} {ks : List (List Key × Addr × Value)}, KT H kvs ks → ks.map (·.1) = kvs.map (·.1)
  | _, _, .nil => rfl
  | _, _, .cons hq t => by simp only [List.map_cons]; rw [kt_names t, hq.1]
theorem cr_dictT {X : Cx} (hu : X.A.units + 64 < cLine) : CallR X (.type "dict") rDictT := by
  intro pins s σ H xs us Q I r h
  obtain ⟨a, kvs, rs, rfl, hd, hk, hn, q⟩ := h
  rw [Vals.ref1 r]
  obtain ⟨z, lo, ks, rel, dd⟩ := dt_rd I.hok hd
  have nm := kt_names rel
  have hl : kvs.length = ks.length := Paired.length rel
  obtain ⟨_, _, _, _, _, _, _, his, _⟩ := id dd
  refine dict_copyT (knd := tupleKind (mixKind X.prog X.w)) (show X.A.in1.in1.units < cLine by simp; omega) lo dd (fun h' k x hx => (tupleKind_stays (knd := mixKind X.prog X.w)).stays (fun b o _ _ e _ => k b o e) (his x hx)) (fun x hx => ?_) ?_ (by rw [← hl]; exact z) fun h' d' sb => ?_
  · obtain ⟨ys, e⟩ := kt_tups I.hok rel x hx
    obtain ⟨_, its, _, o, e1, e2, _⟩ := (show ObjOk X.prog X.w H s.heap x.2.1 (.tup ys) from I.hok _ _ e)
    exact ⟨o, e1, e2⟩
  · have e : (ks.map fun x => (tupleKind (mixKind X.prog X.w)).hash x.1) = rs.map rowH := by
      have e1 : (ks.map fun x => (tupleKind (mixKind X.prog X.w)).hash x.1) = (ks.map (·.1)).map (tupleKind (mixKind X.prog X.w)).hash := by rw [List.map_map]; rfl
      rw [e1, nm, hk, List.map_map]
      exact List.map_congr_left fun r _ => keyZ_hash r
    rw [e]
    exact hn
  · have hm : (s.heap.objs.size == sysModules) = false := beq_eq_false_iff_ne.mpr (Nat.ne_of_gt I.big)
    have fr := I.hok.fresh (Nat.le_refl s.heap.objs.size)
    obtain ⟨o, es, ep, g1, g2, g3, g4, _, g5⟩ := d'
    refine ⟨.ref s.heap.objs.size, upd H s.heap.objs.size (.dT kvs), I.laid (t' := s.toks) (fun b u e => (sb.2 b (Nat.ne_of_lt (Heap.lt_size e))).trans (Heap.get?_push_of_some _ e)) (Nat.le_refl _)
      (show ObjOk X.prog X.w _ _ _ (.dT kvs) from ⟨z, hm, ks, rel.keeps fun b ys e => ?_, o, es, ep, g1, g2, g3, g4, g5⟩), rfl, q _ fr⟩
    rw [upd_ne (ne_of_none e fr)]
    exact e
def dPut1 (r x y : Rv) : M Rv := fun en => match r, x with
  | .own k, .dat d => (match en.ob[k]?, kT d with
    | some (.dt []), some key => .ok (.own k) { en with ob := en.ob.set k (.dt [(key, y)]) }
    | _, _ => .bad)
  | _, _ => .bad
def copyTM (r : Rv) : M Rv := fun en => match r with
  | .own k => (match en.ob[k]? with
    | some (.dt kvs) => (match kvRows kvs with
      | some rs => if (rs.map rowH).Nodup then newM (.dt kvs) en else .bad
      | none => .bad)
    | some (.ft kvs) => (match kvRows kvs with
      | some rs => if (rs.map rowH).Nodup then newM (.dt kvs) en else .bad
      | none => .bad)
    | _ => .bad)
  | _ => .bad
section
variable {X : Cx} {TT : Tt} {W : WX} {a b c kx vx : Expr} {fa fb fc fk fv : M Rv} {pos p : Pos}
theorem pd_disp1 (hu : X.A.units + 64 < cLine) (hk : PD X TT W kx fk) (hv : PD X TT W vx fv) : PD X TT W (.Dict [some kx] [vx] pos) (bnd (newM (.dt [])) fun r => bnd fk fun x => bnd fv fun y => dPut1 r x y) := by
  obtain ⟨⟨t, pt, q⟩⟩ := hk
  obtain ⟨⟨t2, pt2, q2⟩⟩ := hv
  refine ⟨⟨_, pe_disp1 hu pt pt2, fun g al en F σ H Q s h => ?_⟩⟩
  intro p hp
  have s0 := s.newOc (oc := .dt []) (o := .dT []) hp ⟨[], rfl, .nil⟩
  have rp : RvR X.K F (al ++ [p]) (.ref p) (.own en.ob.length) := ⟨p, by rw [← s.alen, List.getElem?_append_right (Nat.le_refl _)]; simp, rfl⟩
  have h0 : Post X.K TT W g F (al ++ [p]) σ (bnd fk (fun x => bnd fv fun y => dPut1 (.own en.ob.length) x y) { en with ob := en.ob ++ [.dt []] }) (fun r _ F' al' H' => ∀ v, RvR X.K F' al' v r → Q v H') := (show Post X.K TT W g F al σ (bnd fk (fun x => bnd fv fun y => dPut1 (.own en.ob.length) x y) { en with ob := en.ob ++ [.dt []] }) _ from h).up le_own
  refine q g (al ++ [p]) _ F σ _ _ s0 (Post.seq h0 fun x e1 F1 a1 H1 l1 s1 p1 v1 r1 => ?_)
  refine q2 g a1 e1 F1 σ H1 _ s1 (Post.seq p1 fun y e2 F2 a2 H2 l2 s2 p2 v2 r2 => ?_)
  unfold dPut1 at p2
  have rp2 := (rp.mono l1).mono l2
  have r12 := r1.mono l2
  cases x with
  | own _ => exact p2.elim
  | fn _ _ => exact p2.elim
  | fns _ => exact p2.elim
  | exv => exact p2.elim
  | dat d =>
    simp only at p2
    split at p2
    · rename_i key eo ek
      obtain ⟨ar, ea, e9⟩ := rp2
      cases e9
      obtain ⟨fn, vs, hvs, hr⟩ := s2.objs _ p _ ea eo
      cases hr
      obtain ⟨b, rfl, hb⟩ := kT_ok r12 ek
      exact ⟨hvs, b, key, rfl, s2.sub _ _ hb, p2.at (Le.refl _ _) (s2.writeOc (oc' := .dt [(key, y)]) (o' := .dT [(key, v2)]) ea eo rfl ⟨_, rfl, .cons r2 .nil⟩) _ ⟨p, ea, rfl⟩⟩
    · exact p2.elim
theorem pd_dictT (hu : X.A.units + 64 < cLine) (hm : X.mg "dict" = none) (ha : PD X TT W a fa) (hg : Gl X "dict" := by rfl) (he : starEach [a] X.env = (false, eval a X.env) :: starEach [] X.env := by rfl) (hpl : (backTo pos (starEach [] X.env)).any (·.1) = false := by rfl) :
    PD X TT W (.Call (.Name "dict" p) [a] [] pos) (bnd fa copyTM) := by
  obtain ⟨⟨t, pt, q⟩⟩ := ha
  refine ⟨⟨_, pe_callTy (cr_dictT hu) hg hm boot_dict (pa_cons pt pa_nil he) (by decide) (by decide) he hpl, fun g al en F σ H Q s h => ?_⟩⟩
  refine q g al en F σ H _ s (Post.seq h fun r e1 F1 a1 H1 l1 s1 p1 v r1 => ?_)
  unfold copyTM at p1
  split at p1
  · rename_i k
    split at p1
    · rename_i kvs eo
      split at p1
      · rename_i rs ek
        split at p1
        · rename_i hn
          obtain ⟨ar, ea, rfl⟩ := r1
          obtain ⟨fn, vs, hv, hr⟩ := s1.objs k ar _ ea eo
          exact ⟨ar, vs, rs, rfl, .inl hv, by rw [kvR_keys hr, (kvRows_eq ek).1], hn, fun pp hp => newM_post (oc := .dt kvs) s1 hp ⟨vs, rfl, hr⟩ p1⟩
        · exact p1.elim
      · exact p1.elim
    · rename_i kvs eo
      split at p1
      · rename_i rs ek
        split at p1
        · rename_i hn
          obtain ⟨ar, ea, rfl⟩ := r1
          obtain ⟨od, vs, hv, hr⟩ := s1.objs k ar _ ea eo
          exact ⟨ar, vs, rs, rfl, .inr ⟨od, s1.sub _ _ hv⟩, by rw [kvR_keys hr, (kvRows_eq ek).1], hn, fun pp hp => newM_post (oc := .dt kvs) s1 hp ⟨vs, rfl, hr⟩ p1⟩
        · exact p1.elim
      · exact p1.elim
    · exact p1.elim
  · exact p1.elim
end
end Pd

namespace Pd
open PySem PySem.Spec PyProof.Rows L2
variable [Lams]
/-! ## comprehensions with two fors -/
def compL2 (h : Rv → En → Option En) (gt : M Bool) (f1 : M (List PyData)) (vs1 : List Nat) (h1 : Rv → En → Option En) (gt1 : M Bool) (fe : M Rv) (sl : List (Option Rv)) (k : Nat) : List PyData → En → Option En
  | [], en => some en
  | r :: rs, en => match h (.dat r) en with
    | none => none
    | some e1 => (match gt e1 with
      | .ok false e2 => compL2 h gt f1 vs1 h1 gt1 fe sl k rs { e2 with sl := sl }
      | .ok true e2 => (match f1 e2 with
        | .ok rs1 e3 => (match compL h1 gt1 fe (wipeL e3.sl vs1) k rs1 { e3 with sl := wipeL e3.sl vs1 } with
          | some e4 => compL2 h gt f1 vs1 h1 gt1 fe sl k rs { e4 with sl := sl }
          | none => none)
        | _ => none)
      | _ => none)
def compM2 (vs : List Nat) (h : Rv → En → Option En) (gt : M Bool) (f1 : M (List PyData)) (vs1 : List Nat) (h1 : Rv → En → Option En) (gt1 : M Bool) (fe : M Rv) (rs : List PyData) : M Rv := fun en =>
  match compL2 h gt f1 vs1 h1 gt1 fe (wipeL en.sl vs) en.ob.length rs { sl := wipeL en.sl vs, ob := en.ob ++ [.lst []] } with
  | some e => .ok (.own en.ob.length) { e with sl := en.sl }
  | none => .bad
section
variable {X : Cx} {TT : Tt} {W : WX} {a b c : Expr} {fa fb fc : M Rv} {pos : Pos} {tg tg1 : Expr}
theorem wipe_back {σ σ3 : L2.St} {vs ws : List Nat} (m : Sm ws (wipe σ vs) σ3) (hws : ∀ i, i ∈ ws → i ∈ vs) : wipe σ3 vs = wipe σ vs := by
  have z2 := m.wipe hws
  rw [z2]
  apply List.ext_getElem?
  intro j
  by_cases hj : j ∈ vs
  · by_cases hl : j < σ.length
    · rw [wipe_in (by rw [wipe_length]; exact hl) hj, wipe_in hl hj]
    · rw [List.getElem?_eq_none (by rw [wipe_length, wipe_length]; omega), List.getElem?_eq_none (by rw [wipe_length]; omega)]
  · rw [wipe_get hj]
/-- back to other slots, of an earlier state -/
theorem Sv.backTo {K : PySem.W.Frag} {gh : Gh} {al al' : List Addr} {en e' : En} {F F' : Hp} {σ σ' : L2.St} {H H' : Hp} (s0 : Sv K TT gh al en F σ H) (l : Le F al F' al') (s : Sv K TT gh al' e' F' σ' H') : Sv K TT gh al' { e' with sl := en.sl } F' σ H' :=
  s.reslot s0.len fun j r ej => by
    obtain ⟨v, f1, f2⟩ := s0.slots j r ej
    exact ⟨v, f1, f2.mono l⟩
theorem comp_core2 {elt iter iter1 : Expr} {ifs ifs1 : List Expr} {scope : Scope} {own : List (Str × Nat)} {f f1 : M (List PyData)} {h h1 : Rv → En → Option En} {gt gt1 : M Bool} {fe : M Rv} {ws ws1 vs1 : List Nat}
    (hi : PID X TT W tg iter f) (hg : ∀ z, PGD (Bk X scope z) TT tg h ws) (hws : ∀ i, i ∈ ws → i ∈ own.map (·.2)) (ht : ∀ z, PTsD (Bk X scope z) TT ifs gt)
    (hi1 : ∀ z, PID (Bk X scope z) TT W0 tg1 iter1 f1) (hg1 : ∀ z, PGD (Bk X scope z) TT tg1 h1 ws1) (hws1 : ∀ i, i ∈ ws1 → i ∈ vs1) (ht1 : ∀ z, PTsD (Bk X scope z) TT ifs1 gt1) (he : ∀ z, PD (Bk X scope z) TT W0 elt fe) :
    ∃ (wi : TI) (g : TG) (tt : L2.TT) (wi1 : TI) (g1 : TG) (tt1 : L2.TT) (te : TE), PI X tg iter wi ∧ (∀ z, PG (Bk X scope z) tg g) ∧ (∀ z, PTs (Bk X scope z) ifs tt) ∧ (∀ z, PI (Bk X scope z) tg1 iter1 wi1) ∧ (∀ z, PG (Bk X scope z) tg1 g1) ∧ (∀ z, PTs (Bk X scope z) ifs1 tt1) ∧ (∀ z, PE (Bk X scope z) elt te) ∧
      ∀ gh al en F σ H Q, Sv X.K TT gh al en F σ H → Post X.K TT W gh F al σ (bnd f (compM2 (own.map (·.2)) h gt f1 vs1 h1 gt1 fe) en) (fun r _ F' al' H' => ∀ v, RvR X.K F' al' v r → Q v H') → tLc2 wi g tt wi1 g1 tt1 te (own.map (·.2)) vs1 σ H Q := by
  obtain ⟨⟨wi, pw, qw⟩⟩ := hi
  refine ⟨wi, fun v σ H Q => ∀ z, (hg z).ex.choose v σ H Q, fun σ H Q => ∀ z, (ht z).ex.choose σ H Q, fun σ H R => ∀ z, (hi1 z).ex.choose σ H R, fun v σ H Q => ∀ z, (hg1 z).ex.choose v σ H Q, fun σ H Q => ∀ z, (ht1 z).ex.choose σ H Q, fun σ H Q => ∀ z, (he z).ex.choose σ H Q, pw,
    fun z => PG.stronger (hg z).ex.choose_spec.1 fun v σ H Q k => k z, fun z => PTs.stronger (ht z).ex.choose_spec.1 fun σ H Q k => k z, fun z => ⟨fun pins s σ H R I k => (hi1 z).ex.choose_spec.1.run pins s σ H R I (k z)⟩,
    fun z => PG.stronger (hg1 z).ex.choose_spec.1 fun v σ H Q k => k z, fun z => PTs.stronger (ht1 z).ex.choose_spec.1 fun σ H Q k => k z, fun z => PE.stronger (he z).ex.choose_spec.1 fun σ H Q k => k z, fun gh al en F σ H Q s hP => ?_⟩
  generalize hvs : own.map (·.2) = vs at hws hP ⊢
  refine qw gh al en F σ H _ s (Post.seq hP fun rs e0 F0 a0 H0 l0 s0 p0 J hJ => ?_)
  intro D hD
  unfold compM2 at p0
  cases qc : compL2 h gt f1 vs1 h1 gt1 fe (wipeL e0.sl vs) e0.ob.length rs { sl := wipeL e0.sl vs, ob := e0.ob ++ [.lst []] } with
  | none => rw [qc] at p0; exact p0.elim
  | some eE =>
    rw [qc] at p0
    have sW := (s0.wiped vs).newOwn hD (xs := []) (rs := []) .nil
    have lD : Le F0 a0 F0 (a0 ++ [D]) := le_own
    have eD : (a0 ++ [D])[e0.ob.length]? = some D := by rw [← s0.alen, List.getElem?_append_right (Nat.le_refl _)]; simp
    refine ⟨fun i m H => m = rs.length - i ∧ i ≤ rs.length ∧ ∃ al1 en1 F1, Le F0 (a0 ++ [D]) F1 al1 ∧ en1.sl = wipeL e0.sl vs ∧ Sv X.K TT gh al1 en1 F1 (wipe σ vs) H ∧ compL2 h gt f1 vs1 h1 gt1 fe (wipeL e0.sl vs) e0.ob.length (rs.drop i) en1 = some eE,
      ⟨rs.length, rfl, Nat.zero_le _, _, _, F0, Le.refl _ _, rfl, sW, by simpa using qc⟩, ?_⟩
    rintro i m H1 ⟨rfl, hi, al1, en1, F1, l1, el, s1, p1⟩
    obtain ⟨hgo, hstop⟩ := hJ gh al1 en1 F1 _ H1 l1.f s1 i
    by_cases hlt : i < rs.length
    · have er : rs[i]? = some rs[i] := List.getElem?_eq_getElem hlt
      obtain ⟨go, yl⟩ := hgo _ er
      rw [List.drop_eq_getElem_cons hlt] at p1
      refine .inr ⟨go, fun H' => ∃ al1 en1 F1, Le F0 (a0 ++ [D]) F1 al1 ∧ en1.sl = wipeL e0.sl vs ∧ Sv X.K TT gh al1 en1 F1 (wipe σ vs) H' ∧ compL2 h gt f1 vs1 h1 gt1 fe (wipeL e0.sl vs) e0.ob.length (rs.drop (i + 1)) en1 = some eE, fun H' hN => ⟨rs.length - (i + 1), by omega, rfl, hlt, hN⟩, fun x H' hy z => ?_⟩
      obtain ⟨F2, hst, hd⟩ := yl x H' hy
      obtain ⟨s2, l2⟩ := s1.rstW hst
      unfold compL2 at p1
      cases q1 : h (.dat rs[i]) en1 with
      | none => simp only [q1] at p1; cases p1
      | some e3 =>
        simp only [q1] at p1
        refine (hg z).ex.choose_spec.2 x (.dat rs[i]) gh al1 en1 e3 F2 _ H' _ s2 hd q1 fun σ3 s3 m3 => ?_
        have w3 : wipe σ3 vs = wipe σ vs := wipe_back m3 hws
        have l3 := l1.trans l2
        have back : ∀ {al' : List Addr} {e' : En} {F' : Hp} {H'' : Hp} {σ'' : L2.St}, Le F2 al1 F' al' → Sv X.K TT gh al' e' F' σ'' H'' → Sv X.K TT gh al' { e' with sl := wipeL e0.sl vs } F' (wipe σ vs) H'' := fun {al' e' F' H'' σ''} l s => by
          have q := Sv.backTo s1 (l2.trans l) s
          rw [el] at q
          exact q
        refine ⟨w3, fun z2 => ?_⟩
        refine (ht z2).ex.choose_spec.2 gh al1 e3 F2 σ3 H' _ s3 ?_
        cases q2 : gt e3 with
        | bad => simp only [q2] at p1; cases p1
        | exc _ _ => simp only [q2] at p1; cases p1
        | ok k e4 =>
          simp only [q2] at p1
          intro F4 a4 H4 l4 s4
          cases k with
          | false =>
            simp only at p1
            rw [if_neg Bool.false_ne_true]
            exact ⟨a4, _, F4, l3.trans l4, rfl, back l4 s4, p1⟩
          | true =>
            simp only at p1
            rw [if_pos rfl]
            intro z3
            refine (hi1 z3).ex.choose_spec.2 gh a4 e4 F4 σ3 H4 _ s4 ?_
            cases q3 : f1 e4 with
            | bad => simp only [q3] at p1; cases p1
            | exc _ _ => simp only [q3] at p1; cases p1
            | ok rs1 e5 =>
              simp only [q3] at p1
              intro F5 a5 H5 l5 s5 J1 hJ1
              cases q4 : compL h1 gt1 fe (wipeL e5.sl vs1) e0.ob.length rs1 { e5 with sl := wipeL e5.sl vs1 } with
              | none => simp only [q4] at p1; cases p1
              | some e6 =>
                simp only [q4] at p1
                have eD5 : a5[e0.ob.length]? = some D := pre_get (((l1.trans l2).trans l4).trans l5).a eD
                refine ⟨fun j m H => m = rs1.length - j ∧ j ≤ rs1.length ∧ ∃ al7 en7 F7, Le F5 a5 F7 al7 ∧ en7.sl = wipeL e5.sl vs1 ∧ Sv X.K TT gh al7 en7 F7 (wipe σ3 vs1) H ∧ compL h1 gt1 fe (wipeL e5.sl vs1) e0.ob.length (rs1.drop j) en7 = some e6,
                  ⟨rs1.length, rfl, Nat.zero_le _, _, _, F5, Le.refl _ _, rfl, s5.wiped vs1, by simpa using q4⟩, ?_⟩
                rintro j m H7 ⟨rfl, hj, al7, en7, F7, l7, el7, s7, p7⟩
                obtain ⟨hgo1, hstop1⟩ := hJ1 gh al7 en7 F7 _ H7 l7.f s7 j
                by_cases hlt1 : j < rs1.length
                · have er1 : rs1[j]? = some rs1[j] := List.getElem?_eq_getElem hlt1
                  obtain ⟨go1, yl1⟩ := hgo1 _ er1
                  rw [List.drop_eq_getElem_cons hlt1] at p7
                  refine .inr ⟨go1, fun H' => ∃ al7 en7 F7, Le F5 a5 F7 al7 ∧ en7.sl = wipeL e5.sl vs1 ∧ Sv X.K TT gh al7 en7 F7 (wipe σ3 vs1) H' ∧ compL h1 gt1 fe (wipeL e5.sl vs1) e0.ob.length (rs1.drop (j + 1)) en7 = some e6, fun H' hN => ⟨rs1.length - (j + 1), by omega, rfl, hlt1, hN⟩, fun x8 H8 hy8 z8 => ?_⟩
                  obtain ⟨F8, hst8, hd8⟩ := yl1 x8 H8 hy8
                  obtain ⟨s8, l8⟩ := s7.rstW hst8
                  unfold compL at p7
                  cases q8 : h1 (.dat rs1[j]) en7 with
                  | none => simp only [q8] at p7; cases p7
                  | some e8 =>
                    simp only [q8] at p7
                    refine (hg1 z8).ex.choose_spec.2 x8 (.dat rs1[j]) gh al7 en7 e8 F8 _ H8 _ s8 hd8 q8 fun σ9 s9 m9 => ?_
                    have w9 : wipe σ9 vs1 = wipe σ3 vs1 := wipe_back m9 hws1
                    have l9 := l7.trans l8
                    have back1 : ∀ {al' : List Addr} {e' : En} {F' : Hp} {H'' : Hp} {σ'' : L2.St}, Le F8 al7 F' al' → Sv X.K TT gh al' e' F' σ'' H'' → Sv X.K TT gh al' { e' with sl := wipeL e5.sl vs1 } F' (wipe σ3 vs1) H'' := fun {al' e' F' H'' σ''} l s => by
                      have q := Sv.backTo s7 (l8.trans l) s
                      rw [el7] at q
                      exact q
                    refine ⟨w9, fun z9 => ?_⟩
                    refine (ht1 z9).ex.choose_spec.2 gh al7 e8 F8 σ9 H8 _ s9 ?_
                    cases q9 : gt1 e8 with
                    | bad => simp only [q9] at p7; cases p7
                    | exc _ _ => simp only [q9] at p7; cases p7
                    | ok k9 e9 =>
                      simp only [q9] at p7
                      intro F10 a10 H10 l10 s10
                      cases k9 with
                      | false =>
                        simp only at p7
                        rw [if_neg Bool.false_ne_true]
                        exact ⟨a10, _, F10, l9.trans l10, rfl, back1 l10 s10, p7⟩
                      | true =>
                        simp only at p7
                        rw [if_pos rfl]
                        intro z10
                        refine (he z10).ex.choose_spec.2 gh a10 e9 F10 σ9 H10 _ s10 ?_
                        cases q10 : fe e9 with
                        | bad => simp only [q10] at p7; cases p7
                        | exc _ _ => simp only [q10] at p7; cases p7
                        | ok v e11 =>
                          simp only [q10] at p7
                          intro F11 a11 H11 l11 s11 y hy11
                          cases q11 : e11.ob[e0.ob.length]? with
                          | none => simp only [q11] at p7; cases p7
                          | some oc =>
                            cases oc with
                            | lst acc =>
                              simp only [q11] at p7
                              split at p7
                              · rename_i hz
                                have eD11 : a11[e0.ob.length]? = some D := pre_get (((l7.trans l8).trans l10).trans l11).a eD5
                                obtain ⟨fn, us, hus, hra⟩ := s11.lst eD11 q11
                                refine ⟨us, hus, by rw [hra.len]; exact hz, a11, _, F11, (l9.trans l10).trans l11, rfl, ?_, p7⟩
                                exact back1 (l10.trans l11) (s11.write eD11 q11 (RvAll.app hra (.cons hy11 .nil)))
                              · cases p7
                            | _ => simp only [q11] at p7; cases p7
                · have ej : j = rs1.length := by omega
                  subst ej
                  rw [List.drop_length] at p7
                  have e2 : en7 = e6 := by
                    unfold compL at p7
                    exact Option.some.inj p7
                  subst e2
                  exact .inl ⟨hstop1 (Nat.le_refl _), al7, _, F7, ((l3.trans l4).trans l5).trans l7, rfl, back ((l4.trans l5).trans l7) s7, p1⟩
    · have e : i = rs.length := by omega
      subst e
      rw [List.drop_length] at p1
      refine .inl ⟨hstop (Nat.le_refl _), ?_⟩
      have e2 : en1 = eE := by
        unfold compL2 at p1
        exact Option.some.inj p1
      subst e2
      exact p0.at (lD.trans l1) (Sv.backTo s0 (lD.trans l1) s1) (.ref D) ⟨D, pre_get l1.a eD, rfl⟩
variable {elt iter iter1 : Expr} {ifs ifs1 : List Expr} {scope : Scope} {f f1 : M (List PyData)} {h h1 : Rv → En → Option En} {gt gt1 : M Bool} {fe : M Rv} {ws ws1 : List Nat}
theorem pd_lc2 (own : List (Str × Nat)) (vs1 : List Nat) (hc : X.calm = true) (hN : X.N.Nodup) (hi : PID X TT W tg iter f) (ok : BlkOk X.N X.env.scope scope own) (hg : ∀ z, PGD (Bk X scope z) TT tg h ws) (ht : ∀ z, PTsD (Bk X scope z) TT ifs gt)
    (hi1 : ∀ z, PID (Bk X scope z) TT W0 tg1 iter1 f1) (hg1 : ∀ z, PGD (Bk X scope z) TT tg1 h1 ws1) (ht1 : ∀ z, PTsD (Bk X scope z) TT ifs1 gt1) (he : ∀ z, PD (Bk X scope z) TT W0 elt fe) (hws : ∀ i, i ∈ ws → i ∈ own.map (·.2) := by decide) (hws1 : ∀ i, i ∈ ws1 → i ∈ vs1 := by decide) (hv : ∀ i ∈ vs1, i ∈ own.map (·.2) := by decide)
    (hs : ∀ x, foldedSetIterable iter X.env x = pure x := by intro _; rfl) (hs1 : ∀ env x, foldedSetIterable iter1 env x = pure x := by intro _ _; rfl) : PD X TT W (.ListComp elt [⟨tg, iter, ifs, 0⟩, ⟨tg1, iter1, ifs1, 0⟩] scope pos) (bnd f (compM2 (own.map (·.2)) h gt f1 vs1 h1 gt1 fe)) := by
  obtain ⟨wi, g, tt, wi1, g1, tt1, te, pw, pg, ptt, pw1, pg1, ptt1, pte, q⟩ := comp_core2 hi hg hws ht hi1 hg1 hws1 ht1 he
  exact ⟨⟨_, pe_lc2 hc hN pw ok hv (fun s H C cl fp => pg (s, H, C, cl, fp)) (fun s H C cl fp => ptt (s, H, C, cl, fp)) (fun s H C cl fp => pw1 (s, H, C, cl, fp)) (fun s H C cl fp => pg1 (s, H, C, cl, fp)) (fun s H C cl fp => ptt1 (s, H, C, cl, fp)) (fun s H C cl fp => pte (s, H, C, cl, fp)) hs hs1, q⟩⟩
theorem sd_setLc2 (i : Nat) (own : List (Str × Nat)) (vs1 : List Nat) {y : Str} {py : Pos} {spos : Pos} (hc : X.calm = true) (hN : X.N.Nodup) (hsw : swapsWith (.ListComp elt [⟨tg, iter, ifs, 0⟩, ⟨tg1, iter1, ifs1, 0⟩] scope pos) (some (.Name y py)) spos.line X.env = pure true) (hi : PID X TT W tg iter f) (ok : BlkOk X.N X.env.scope scope own) (hg : ∀ z, PGD (Bk X scope z) TT tg h ws) (ht : ∀ z, PTsD (Bk X scope z) TT ifs gt)
    (hi1 : ∀ z, PID (Bk X scope z) TT W0 tg1 iter1 f1) (hg1 : ∀ z, PGD (Bk X scope z) TT tg1 h1 ws1) (ht1 : ∀ z, PTsD (Bk X scope z) TT ifs1 gt1) (he : ∀ z, PD (Bk X scope z) TT W0 elt fe) (hws : ∀ i, i ∈ ws → i ∈ own.map (·.2) := by decide) (hws1 : ∀ i, i ∈ ws1 → i ∈ vs1 := by decide) (hv : ∀ i ∈ vs1, i ∈ own.map (·.2) := by decide)
    (hy : X.N[i]? = some y := by rfl) (hyl : X.env.scope.names.lookup y = some .local := by rfl) (hs : ∀ x, foldedSetIterable iter X.env x = pure x := by intro _; rfl) (hs1 : ∀ env x, foldedSetIterable iter1 env x = pure x := by intro _ _; rfl) :
    PSD X TT W (.Assign [.Name y py] (.ListComp elt [⟨tg, iter, ifs, 0⟩, ⟨tg1, iter1, ifs1, 0⟩] scope pos) spos) (bnd (bnd f (compM2 (own.map (·.2)) h gt f1 vs1 h1 gt1 fe)) (asg (setM i))) := by
  obtain ⟨wi, g, tt, wi1, g1, tt1, te, pw, pg, ptt, pw1, pg1, ptt1, pte, q⟩ := comp_core2 hi hg hws ht hi1 hg1 hws1 ht1 he
  refine ⟨⟨_, ps_setLc2 hc hN hy hyl hsw pw ok hv (fun s H C cl fp => pg (s, H, C, cl, fp)) (fun s H C cl fp => ptt (s, H, C, cl, fp)) (fun s H C cl fp => pw1 (s, H, C, cl, fp)) (fun s H C cl fp => pg1 (s, H, C, cl, fp)) (fun s H C cl fp => ptt1 (s, H, C, cl, fp)) (fun s H C cl fp => pte (s, H, C, cl, fp)) hs hs1, fun gh al en F σ H D s hh => ?_⟩⟩
  exact q gh al en F σ H _ s (hh.seq fun r e F' al' H' l s2 p v hv => p.next (Le.refl _ _) (s2.setS hv))
end
end Pd

namespace Pd
open PySem PySem.Spec PyProof.Rows L2
variable [Lams]
/-! ## is_number(x, 0, t[0] - 1) for x in .. -/
section
variable {P : Program} {w : World} {K : PySem.W.Frag} {mg : Str → Option Value} {D U : Nat} {env : Env} {m : Str → Option Value} {cv : List (Str × V)} {tc : List (Addr × List V)} {pos : Pos}
theorem re_ix {x : Str} {a : Addr} {vs : List V} {i : Nat} {n : Int} {j} {p1 p2 : Pos} (hm : (x, V.ref a) ∈ cv) (ht : (a, vs) ∈ tc) (e : vs[i]? = some (V.int n)) (hi : i < 1000) (hd : (x == ("__debug__" : Str)) = false := by decide) (hcd : (x == ("__classdict__" : Str)) = false := by decide) :
    RE P w K mg D U env m cv tc (.Subscript (.Name x p1) (.Constant (.int (i : Int)) j p2) pos) (fun u => ∃ t, u = .int n t) := fun A E s h1 h2 h3 r => by
  have ra : RE P w K mg D U env m cv tc (.Name x p1) (fun u => u = .ref a) := re_cap (v := V.ref a) hm (fun u q => q) hd hcd
  have rb : RE P w K mg D U env m cv tc (.Constant (.int (i : Int)) j p2) (fun u => ∃ t, u = .int (i : Int) t) := re_int
  refine Subscript_ (mono3 (ra A E s h1 h2 h3 r) fun u s1 ⟨e1, k1⟩ => mono3 (rb A E s1 h1 h2 h3 (r.up (kp_heap k1))) fun v s2 ⟨⟨t, e2⟩, k2⟩ => ?_)
  subst e1 e2
  obtain ⟨its, rv, pt⟩ := (r.up (kp_heap (kp_trans k1 k2))).tup _ ht
  have hlt : i < vs.length := (List.getElem?_eq_some_iff.mp e).1
  obtain ⟨u, eu, t2, ru⟩ := rv.get e
  subst ru
  have hl := rv.length
  have hn := line63
  exact item_tupleT pt (by omega) (by omega) (j := i) (by rw [← hl]; exact seqIndex_of (by omega) (by show (i : Int) < (vs.length : Int); omega)) eu ⟨⟨_, rfl⟩, kp_trans k1 k2⟩
end
def geNum (cs : List PyData) (v : V) : Option Bool := match cs with
  | [.tuple (.int h :: _)] => some (isNumV v 0 (h - 1))
  | _ => none
section
variable {X : Cx} {scope : Scope} {k : Nat}
theorem el_num {x : Str} {f : Addr} {qual : Str} {params : Arguments} {body : List Stmt} {sc : Scope} {fd : FuncData} {q1 q2 q3 q4 q5 q6 q7 q8 q9 q10 q11 q12 q13 q14 q15 p0 p1 p2 p3 p4 p5 p6 p7 p8 : Pos} {j j2 j3} (Fd : FunD X.K "is_number" qual params body sc [] [] f fd)
    (hbody : body = [.Return (some (.BoolOp .And [.Call (.Name "isinstance" q1) [.Name "value" q2, .Name "int" q3] [] q4, .UnaryOp .Not (.Call (.Name "isinstance" q5) [.Name "value" q6, .Name "bool" q7] [] q8) q9, .Compare (.Name "low" q10) [.LtE, .LtE] [.Name "value" q11, .Name "high" q12] q13] q14)) q15])
    (S : FnScope ["value", "low", "high"] ["value", "low", "high"] sc) (hb : Binds X.K fd ["value", "low", "high"] []) (hl : ∀ y ∈ (["value", "low", "high"] : List Str), sc.names.lookup y = some .local)
    (hgl : ∀ y ∈ (["isinstance", "int", "bool"] : List Str), sc.names.lookup y = some .globalImplicit) (hm1 : X.mg "isinstance" = none) (hm2 : X.mg "int" = none) (hm3 : X.mg "bool" = none) (hr : Room k X.A) (hm : X.mg "is_number" = some (.ref f))
    (hx : scope.names.lookup x = some .local) (hh : scope.names.lookup ("almanac" : Str) = some .free) (hg : scope.names.lookup ("is_number" : Str) = some .globalImplicit) (hdx : (x == ("__debug__" : Str)) = false := by decide) :
    El1 X scope x ["almanac"] (.Call (.Name "is_number" p0) [.Name x p1, .Constant (.int 0) j p2, .BinOp (.Subscript (.Name "almanac" p3) (.Constant (.int 0) j2 p4) p5) .Sub (.Constant (.int 1) j3 p6) p7] [] p8) geNum := by
  intro cenv m cs tc ds v u b hsc fv rv hmu hcd hge
  subst hsc
  unfold geNum at hge
  split at hge
  · rename_i h rest
    cases hge
    cases hcd with
    | flat hv ht => cases hv
    | tup he hmem ht =>
      cases ht
      rename_i a vs
      have h0 : vs[0]? = some (V.int h) := he 0 _ _ rfl rfl
      have c1 : ∀ {pp : Pos} {jj} {n : Int}, RE X.prog X.w X.K X.mg (X.A.depth + 1) (X.A.units + 8) cenv m ((["almanac"] : List Str).zip [V.ref a]) tc (.Constant (.int n) jj pp) (fun u => ∃ t, u = .int n t) := re_int
      exact re_isnum (P := X.prog) (w := X.w) (mg := X.mg) (D := X.A.depth + 1) (U := X.A.units + 8) (env := cenv) (m := m) (cv := (["almanac"] : List Str).zip [V.ref a]) (tc := tc) (v := v) (lo := 0) (hi := h - 1) (pos := p8) (p0 := p0) Fd hbody S hb hl hgl hm1 hm2 hm3 fv (by have := hr.dp; omega) hg hm
        (re_loc (pos := p1) (u := u) (p := RelV v) hx hmu rv hdx) (c1 (pp := p2) (jj := j)) (re_sub (pos := p7) (re_ix (i := 0) (by simp) hmem h0 (by decide)) (c1 (pp := p6) (jj := j3)))
  · cases hge
end
end Pd

namespace Pd
open PySem PySem.Spec PyProof.Rows L2
variable [Lams]
/-! ## any value as a test -/
def truD : PyData → Option Bool
  | .none => some false
  | .bool b => some b
  | .int i => some (i != 0)
  | .list ds => some (!ds.isEmpty)
  | .tuple ds => some (!ds.isEmpty)
  | _ => none
def trL (r : Rv) : M Bool := fun en => match peek en r with
  | some d => (match truD d with
    | some b => .ok b en
    | none => .bad)
  | none => .bad
section
variable {X : Cx} {TT : Tt} {W : WX} {a b c : Expr} {fa fb fc : M Rv} {pos : Pos}
theorem dpAll_emp {K : PySem.W.Frag} {F : Hp} {vs : List V} {ds : List PyData} (h : DpAll K F vs ds) : vs.isEmpty = ds.isEmpty := by
  cases h <;> rfl
theorem pb_list (h : PD X TT W a fa) (he : ∀ whole, isTrue a X.env whole = (do let v ← whole; standAt a.pos; holding [v] (truthy v)) := by intro _; rfl) : PBt X TT W a (bnd fa trL) := by
  obtain ⟨⟨t, pt, q⟩⟩ := h
  refine ⟨⟨_, pt_truth pt he, fun g al en F σ H Q s h => ?_⟩⟩
  refine q g al en F σ H _ s (Post.seq h fun r e1 F1 a1 H1 l1 s1 p1 v r1 => ?_)
  unfold trL at p1
  cases e : peek e1 r with
  | none => rw [e] at p1; exact p1.elim
  | some d =>
    rw [e] at p1
    simp only at p1
    have k := peek_ok s1 r1 e
    cases d with
    | none => exact ⟨false, by rw [k.non]; rfl, p1.here s1⟩
    | bool b => exact ⟨b, by rw [k.bool]; rfl, p1.here s1⟩
    | int i => exact ⟨i != 0, by rw [k.int]; rfl, p1.here s1⟩
    | str x => exact p1.elim
    | dict x => exact p1.elim
    | list ds =>
      obtain ⟨ar, xs, rfl, h1, h2⟩ := k.list s1.sub
      exact ⟨!ds.isEmpty, by rw [← dpAll_emp h2]; exact .inl ⟨xs, h1, rfl⟩, p1.here s1⟩
    | tuple ds =>
      obtain ⟨ar, xs, rfl, h1, h2⟩ := k.tup s1.sub
      exact ⟨!ds.isEmpty, by rw [← dpAll_emp h2]; exact .inr (.inl ⟨xs, h1, rfl⟩), p1.here s1⟩
theorem pb_din {i o : Expr} {fi fo : M Rv} (neg : Bool) (hu : X.A.units + 64 < cLine) (hi : PD X TT W i fi) (ho : PD X TT W o fo) (hm : behindInMarks (if neg then .NotIn else .In) o = false := by rfl) : PBt X TT W (.Compare i [if neg then .NotIn else .In] [o] pos) (fB (bnd fi fun ri => bnd fo fun r => dInM neg ri r)) := by
  obtain ⟨⟨t, pt, q⟩⟩ := hi
  obtain ⟨⟨t2, pt2, q2⟩⟩ := ho
  have key : ∀ g al en F σ H (Q : VK), Sv X.K TT g al en F σ H → Post X.K TT W g F al σ ((bnd fi fun ri => bnd fo fun r => dInM neg ri r) en) (fun r _ F' al' H' => ∀ v, RvR X.K F' al' v r → Q v H') →
      t σ H fun y H1 => t2 σ H1 fun x H2 => ∃ a o, x = V.ref a ∧ DGet H2 a y o ∧ Q (.bl (if neg then !o.isSome else o.isSome)) H2 := fun g al en F σ H Q s h => by
    refine q g al en F σ H _ s (Post.seq h fun ri e1 F1 a1 H1 l1 s1 p1 v1 r1 => ?_)
    refine q2 g a1 e1 F1 σ H1 _ s1 (Post.seq p1 fun r e2 F2 a2 H2 l2 s2 p2 v2 r2 => ?_)
    unfold dInM at p2
    split at p2
    · rename_i o e
      obtain ⟨a, ov, rfl, dg, hh⟩ := dLook_ok s2 r2 (r1.mono l2) e
      have es : ov.isSome = o.isSome := by
        rcases hh with ⟨x, y⟩ | ⟨q, w, x, y, z⟩
        · rw [x, y]; rfl
        · rw [x, y]; rfl
      refine ⟨a, ov, rfl, dg, ?_⟩
      rw [es]
      exact p2.here s2 _ (Dp.bl _)
    · exact p2.elim
  cases neg with
  | false => exact ⟨⟨_, pt_cmp (pc_din (by omega) pt pt2) hm, fun g al en F σ H Q s h => tst (ta := fun σ H Q => t σ H fun y H1 => t2 σ H1 fun x H2 => ∃ a o, x = V.ref a ∧ DGet H2 a y o ∧ Q (.bl (if false then !o.isSome else o.isSome)) H2) (fun _ _ _ z => z) (fun g al en F σ H Q s h => key g al en F σ H Q s h) s h⟩⟩
  | true => exact ⟨⟨_, pt_cmp (pc_dnotin (by omega) pt pt2) hm, fun g al en F σ H Q s h => tst (ta := fun σ H Q => t σ H fun y H1 => t2 σ H1 fun x H2 => ∃ a o, x = V.ref a ∧ DGet H2 a y o ∧ Q (.bl (if true then !o.isSome else o.isSome)) H2) (fun _ _ _ z => z) (fun g al en F σ H Q s h => key g al en F σ H Q s h) s h⟩⟩
end
end Pd

namespace Pd
open PySem PySem.Spec PyProof.Rows L2
variable [Lams]
/-! ## raise -/
def raise0 (n : Str) : M Fl := fun en => .exc ⟨n, none⟩ en
def raiseF (n f : Str) (r : Rv) : M Fl := fun en => match r with
  | .dat d => .exc ⟨n, some (f, d)⟩ en
  | _ => .bad
section
variable {X : Cx} {TT : Tt} {W : WX} {a b c : Expr} {fa fb fc : M Rv} {pos p p2 : Pos} {n fld : Str}
/-- X(), X an own exception class without own __init__ -/
theorem pmk_own0 {C : Addr} {bmB : List Value} {B newId initId : String} {x : Str} (F : ExcBaseFacts B newId initId bmB) (q : PySem.W.excIn X.K C bmB newId = true) (gC : X.mg x = some (.ref C)) (kC : PySem.W.keepIn X.K (.ref C) = true) (r : Raises X (.ref C)) (hg : Gl X x)
    (hdb : (x == ("__debug__" : Str)) = false := by decide) : PMk X (.Call (.Name x p) [] [] pos) (fun σ H Q => Q (.ref C) none H) := by
  intro pins s σ H Q I h
  refine wpAny_Call_Name_kw (ld_glob I hg gC ?_ hdb)
  refine PySem.W.callWith_K0 I.kIn kC ?_
  show wpAny _ _ (call (.ref C) []) _ _ _
  obtain ⟨bm, N, nm, qn, bs, hdct, sn, sub, ab, col, dd, k0, k1, k2, k3, k5, mN, hC, hN, hni, T⟩ := exc_obj I.kIn q
  refine wpAny_call_exc_subT F T hC hN hni (fun h' e hm => ?_) (Nat.zero_le _)
  exact mk_of I hm r h (I.hok.gone hm.new)
theorem sd_raise0 (hc : X.calm = true) (tk : Takes X W) (c : (He.Fa.exc n).ok X.K = true) (hm : X.mg n = some (.ref (He.ga X.K n))) (hg : Gl X n := by rfl) (hdb : (n == ("__debug__" : Str)) = false := by decide) :
    PSD X TT W (.Raise (some (.Call (.Name n p) [] [] p2)) none pos) (raise0 n) := by
  obtain ⟨c1, c2, c3, c4⟩ := He.exc_ok c
  refine ⟨⟨_, ps_raise hc tk (pmk_own0 F.excBase_ValueError c1 hm c2 (raises_own c3 c4) hg hdb), fun g al en F σ H D s h => ?_⟩⟩
  exact h F al σ H _ _ (Le.refl _ _) s ⟨rfl, rfl⟩
/-- an own exception's __init__ that keeps one value -/
def spX (K : PySem.W.Frag) (C : Addr) (f : Str) : Sp := fun vs H Q E => ∃ (a : Addr) (v : V), vs = [.ref a, v] ∧ H a = some (exo a C none) ∧ ∀ d, H d = none → d ≠ a → Q .non (upd (upd H d (exd d [(f, v)])) a (exo a C (some d)))
structure OexF (K : PySem.W.Frag) (C : Addr) (f : Str) (fI : Addr) : Prop where
  t : OexC K C
  iC : PySem.W.findIn K (.ref C) "__init__" = some (some (.ref fI))
  tI : PySem.W.typeIn K (.ref fI) = some (.type "function")
theorem sd_raiseF {k : Nat} {fI : Addr} {fd : FuncData} {ps : List Str} {e : Expr} (hc : X.calm = true) (tk : Takes X W) (T : OexF X.K (He.ga X.K n) fld fI) (G : FnOk X.prog X.w X.K X.mg X.base (L2.CX X.prog X.w) k fI fd ps (spX X.K (He.ga X.K n) fld)) (hr : Room (k + 1) X.A)
    (hm : X.mg n = some (.ref (He.ga X.K n))) (hb : Binds X.K fd ps []) (he : PD X TT W e fa) (hg : Gl X n := by rfl) (hdb : (n == ("__debug__" : Str)) = false := by decide)
    (hs : starEach [e] X.env = (false, eval e X.env) :: starEach [] X.env := by rfl) (hpl : (backTo p2 (starEach [] X.env)).any (·.1) = false := by rfl) :
    PSD X TT W (.Raise (some (.Call (.Name n p) [e] [] p2)) none pos) (bnd fa (raiseF n fld)) := by
  obtain ⟨⟨t, pt, q⟩⟩ := he
  refine ⟨⟨_, ps_raise hc tk (pmk_oex T.t T.iC T.tI G hr hb .nil passL hg hm (pa_cons pt pa_nil hs) hdb hs hpl), fun g al en F σ H D s h => ?_⟩⟩
  refine q g al en F σ H _ s (h.seq fun r e1 F1 a1 H1 l1 s1 p1 v r1 => ?_)
  unfold raiseF at p1
  split at p1
  · rename_i d
    refine ⟨by simp, fun a ha => ?_⟩
    refine ⟨a, v, by simp, upd_same, fun dd hd hne => ⟨rfl, dd, [(fld, v)], upd_same, ?_, ?_, ?_⟩⟩
    · rw [upd_ne hne, upd_same]
    · rw [upd_ne hne] at hd; exact hd
    · have hd1 : H1 dd = none := by rw [upd_ne hne] at hd; exact hd
      have eH : upd (del (upd (upd (upd H1 a (exo a (He.ga X.K n) none)) dd (exd dd [(fld, v)])) a (exo a (He.ga X.K n) (some dd))) a) dd (.xd [(fld, v)]) = upd H1 dd (.xd [(fld, v)]) := by
        funext b
        by_cases h1 : b = dd
        · rw [h1, upd_same, upd_same]
        · rw [upd_ne h1, upd_ne h1]
          by_cases h2 : b = a
          · rw [h2, del_same, ha]
          · rw [del_ne h2, upd_ne h2, upd_ne h1, upd_ne h2]
      rw [eH]
      have l2 := le_newF s1 (.xd [(fld, v)]) hd1
      exact p1 _ _ _ _ _ _ l2 (s1.newF (.xd [(fld, v)]) hd1) ⟨rfl, dd, v, rfl, upd_same, dp_mono l2.f _ _ r1⟩
  · exact p1.elim
end
section
variable {P : Program} {w : World} {K : PySem.W.Frag} {mg : Str → Option Value} {base : Heap} {x qual : Str} {params : Arguments} {body : List Stmt} {scope : Scope} {f : Addr} {fd : FuncData} {N ps : List Str} {k : Nat}
/-- def __init__(self, x): text; self.f = x -/
theorem okX {n0 n1 fld : Str} {C : Addr} {doc : Str} {j : Nat} {p0 p1 p2 p3 p4 p5 : Pos}
    (Fd : FunD K x qual params [.Expr (.Constant (.str doc) j p0) p1, .Assign [.Attribute (.Name n0 p2) fld p3] (.Name n1 p4) p5] scope [] [] f fd) (S : FnScope [n0, n1] [n0, n1] scope) (T : OexC K C) (hno : PySem.W.findIn K (.ref C) fld = some none)
    (v0 : Vis scope n0 := by exact Or.inl rfl) (v1 : Vis scope n1 := by exact Or.inl rfl)
    (hd0 : (n0 == ("__debug__" : Str)) = false := by decide) (hd1 : (n1 == ("__debug__" : Str)) = false := by decide) (hc0 : (n0 == ("__classdict__" : Str)) = false := by decide) (hc1 : (n1 == ("__classdict__" : Str)) = false := by decide)
    (hw : ∀ z E, swapsWith (.Constant (.str doc) j p0) none p1.line (Cb P w K mg base [n0, n1] qual scope f z E).env = pure false := by intro z E; rfl)
    (hs : ∀ z E, swapsWith (.Name n1 p4) (some (.Attribute (.Name n0 p2) fld p3)) p5.line (Cb P w K mg base [n0, n1] qual scope f z E).env = pure false := by intro z E; rfl) :
    FnOk P w K mg base (L2.CX P w) (k + 1) f fd [n0, n1] (spX K C fld) := by
  refine okc Fd S (fun vs H Q E h => ?_) (fun A outer s H vs Q E hr h => ?_)
  · obtain ⟨a, v, rfl, _⟩ := h; rfl
  · obtain ⟨a, v, rfl, ha, hq⟩ := h
    refine ⟨_, pss_cons (ps_expr pe_str (hw (fd.code, A, outer, s, H) E)) (pss_one (ps_ost (pe_var (i := 0) rfl v0 hd0 hc0) (pe_var (i := 1) rfl v1 hd1 hc1) (hs (fd.code, A, outer, s, H) E))), ?_⟩
    refine ⟨v, rfl, .ref a, rfl, a, C, rfl, T, hno, .inl ⟨ha, fun dx hd hne => ?_⟩⟩
    exact hq dx hd hne
end
end Pd

namespace Pd
open PySem PySem.Spec PyProof.Rows L2
variable [Lams]
/-! ## an own exception class: what the program's written part says -/
def oexCB (K : PySem.W.Frag) (C : Addr) : Bool := match K.lookup C with
  | some ⟨.type "type", _, .cls cd, sl⟩ => (match cd.mro, sl.toList with
    | .ref C' :: bm, [_, _, _, _, some (.builtin n), _] => C' == C && n == "ValueError.__new__" && !cd.hasDel && cd.hasDict && PySem.HandSPX.refsVE bm
    | _, _ => false)
  | _ => false
theorem oexCB_of {K : PySem.W.Frag} {C : Addr} (q : oexCB K C = true) : ∃ nm qn N bs bm sn sub ab col dd k0 k1 k2 k3 k5, K.lookup C = some (excClassObj nm qn C N bs bm true sn sub ab col dd k0 k1 k2 k3 k5 "ValueError.__new__") ∧ PySem.HandSPX.refsVE bm = true := by
  unfold oexCB at q
  split at q
  · rename_i dd cd sl ho
    split at q
    · rename_i C' bm k0 k1 k2 k3 n k5 hm hs
      simp only [Bool.and_eq_true, beq_iff_eq, Bool.not_eq_true'] at q
      obtain ⟨⟨⟨⟨rfl, rfl⟩, hdel⟩, hdi⟩, ht⟩ := q
      obtain ⟨nm, bs, mro, ns, qn, hd, sn, sub, ab, col, del⟩ := cd
      dsimp only at hm hdel hdi
      subst hm hdel hdi
      have hsl : sl = #[k0, k1, k2, k3, some (.builtin "ValueError.__new__"), k5] := by
        obtain ⟨l⟩ := sl
        simp only at hs
        rw [hs]
      subst hsl
      exact ⟨nm, qn, ns, bs, bm, sn, sub, ab, col, dd, k0, k1, k2, k3, k5, ho, ht⟩
    · cases q
  · cases q
/-- .. with an own __init__ at fI, no class attribute f -/
def oexB (K : PySem.W.Frag) (n f : Str) : Bool :=
  oexCB K (He.ga K n) && He.eqO (PySem.W.findIn K (.ref (He.ga K n)) "__setattr__") (some (some (.builtin "object.__setattr__"))) && decide (PySem.W.subIn K (.ref (He.ga K n)) (.type "BaseException") = some true) && decide (PySem.W.typeIn K (.ref (He.ga K n)) = some (.type "type")) && PySem.W.keepIn K (.ref (He.ga K n)) &&
  He.eqO (PySem.W.findIn K (.ref (He.ga K n)) "__init__") (some (some (.ref (He.ma K (He.ga K n) "__init__")))) && decide (PySem.W.typeIn K (.ref (He.ma K (He.ga K n) "__init__")) = some (.type "function")) && He.eqO (PySem.W.findIn K (.ref (He.ga K n)) f) (some none)
structure OexN (K : PySem.W.Frag) (n f : Str) : Prop where
  c : OexC K (He.ga K n)
  x : OexF K (He.ga K n) f (He.ma K (He.ga K n) "__init__")
  no : PySem.W.findIn K (.ref (He.ga K n)) f = some none
theorem oexB_ok {K : PySem.W.Frag} {n f : Str} (h : oexB K n f = true) : OexN K n f := by
  unfold oexB at h
  simp only [Bool.and_eq_true, decide_eq_true_eq] at h
  obtain ⟨⟨⟨⟨⟨⟨⟨h1, h2⟩, h3⟩, h4⟩, h5⟩, h6⟩, h7⟩, h8⟩ := h
  have c : OexC K (He.ga K n) := by
    obtain ⟨nm, q, N, bs, bm, sn, sub, ab, col, dd, k0, k1, k2, k3, k5, e, r⟩ := oexCB_of h1
    exact ⟨⟨nm, q, N, bs, bm, sn, sub, ab, col, dd, k0, k1, k2, k3, k5, e, r⟩, He.eqO_ok h2, h3, h4, h5⟩
  exact ⟨c, ⟨c, He.eqO_ok h6, h7⟩, He.eqO_ok h8⟩
/-- what isinstance asks of the exception's class -/
def excIsB (K : PySem.W.Frag) (n : Str) : Bool :=
  He.eqO (PySem.W.findIn K (.ref (He.ga K n)) "__getattribute__") (some (some (.builtin "BaseException.__getattribute__"))) && He.eqO (PySem.W.findIn K (.ref (He.ga K n)) "__getattr__") (some none) && decide (PySem.W.subIn K (.ref (He.ga K n)) (.type "BaseException") = some true) && PySem.W.hasDictIn K (He.ga K n) &&
  He.eqO (PySem.W.findIn K (.ref (He.ga K n)) "__class__") (some (some (.builtin "object.__class__"))) && He.eqO (PySem.W.specialIn K (.builtin "object.__class__") "__get__") (some (some (.builtin "getset_descriptor.__get__"))) && decide (PySem.W.takesIn K (.builtin "object.__class__") = some true) && decide (PySem.W.mroIn K (He.ga K n) (.type "object") = some true)
theorem excIsB_ok {K : PySem.W.Frag} {n : Str} (h : excIsB K n = true) : ExcC K (He.ga K n) := by
  unfold excIsB at h
  simp only [Bool.and_eq_true, decide_eq_true_eq] at h
  obtain ⟨⟨⟨⟨⟨⟨⟨h1, h2⟩, h3⟩, h4⟩, h5⟩, h6⟩, h7⟩, h8⟩ := h
  exact ⟨He.eqO_ok h1, He.eqO_ok h2, h3, h4, He.eqO_ok h5, He.eqO_ok h6, h7, h8⟩
/-! ## try: body, except x as n: suite -/
def noEx : List (Option Rv) → Bool
  | [] => true
  | some .exv :: _ => false
  | _ :: r => noEx r
theorem noEx_get : ∀ {l : List (Option Rv)} {i : Nat}, noEx l = true → l[i]? ≠ some (some .exv)
  | [], i, _, z => by simp at z
  | none :: r, 0, h, z => by simp at z
  | none :: r, i + 1, h, z => noEx_get (l := r) (i := i) h (by simpa using z)
  | some (.dat _) :: r, 0, h, z => by simp at z
  | some (.dat _) :: r, i + 1, h, z => noEx_get (l := r) (i := i) h (by simpa using z)
  | some (.own _) :: r, 0, h, z => by simp at z
  | some (.own _) :: r, i + 1, h, z => noEx_get (l := r) (i := i) h (by simpa using z)
  | some (.fn _ _) :: r, 0, h, z => by simp at z
  | some (.fn _ _) :: r, i + 1, h, z => noEx_get (l := r) (i := i) h (by simpa using z)
  | some (.fns _) :: r, 0, h, z => by simp at z
  | some (.fns _) :: r, i + 1, h, z => noEx_get (l := r) (i := i) h (by simpa using z)
  | some .exv :: r, _, h, _ => by cases h
def tryAs (i : Nat) (tst : Str → Option Bool) (mb : M Fl) (ms : Ex → M Fl) : M Fl := fun en => match mb en with
  | .exc x e => (match tst x.cls with
    | some true => if noEx e.sl = true ∧ i < e.sl.length then (match ms x { e with sl := e.sl.set i (some .exv) } with
      | .ok fl e' => if noEx (e'.sl.set i none) = true then (match fl with
        | .ret (.exv) => .bad
        | fl => .ok fl { e' with sl := e'.sl.set i none }) else .bad
      | _ => .bad) else .bad
    | some false => .exc x e
    | none => .bad)
  | .ok fl e => .ok fl e
  | .bad => .bad
/-- .. without a name -/
def tryNo (tst : Str → Option Bool) (mb : M Fl) (ms : Ex → M Fl) : M Fl := fun en => match mb en with
  | .exc x e => (match tst x.cls with
    | some true => if noEx e.sl = true then (match ms x e with
      | .ok fl e' => if noEx e'.sl = true then .ok fl e' else .bad
      | _ => .bad) else .bad
    | some false => .exc x e
    | none => .bad)
  | .ok fl e => .ok fl e
  | .bad => .bad
section
variable {K : PySem.W.Frag} {TT TT' : Tt} {g : Gh} {al : List Addr} {en : En} {F : Hp} {σ : L2.St} {H : Hp}
theorem Sv.chg (s : Sv K TT g al en F σ H) (ht : TT'.t = TT.t) (hn : noEx en.sl = true) : Sv K TT' g al en F σ H where
  sub := s.sub
  frF := s.frF
  nF := s.nF
  frame := fun b o e n nb => s.frame b o e (by rw [← ht]; exact n) nb
  tabs := fun P hP => s.tabs P (by rw [← ht]; exact hP)
  len := s.len
  slots := fun i r e => by
    obtain ⟨v, e1, q⟩ := s.slots i r e
    have n : r ≠ .exv := fun z => noEx_get hn (z ▸ e)
    exact ⟨v, e1, (q.rv n).sl⟩
  alen := s.alen
  objs := s.objs
  anew := s.anew
  bin := s.bin
  anod := s.anod
  atab := fun a ha => by rw [ht]; exact s.atab a ha
theorem Sv.setE (s : Sv K TT g al en F σ H) {i : Nat} (h : ExAt K F F TT.ex TT.ecls TT.edO) : Sv K TT g al { en with sl := en.sl.set i (some .exv) } F (σ.set i (some (.ref TT.ev))) H :=
  { s with
    len := by rw [List.length_set, List.length_set]; exact s.len
    slots := fun j q e => by
      by_cases hj : i = j
      · subst hj
        by_cases hi : i < en.sl.length
        · rw [List.getElem?_set_self hi] at e
          cases e
          exact ⟨.ref TT.ev, List.getElem?_set_self (by rw [s.len]; exact hi), rfl, h⟩
        · rw [List.getElem?_eq_none (by simpa using hi)] at e; cases e
      · rw [List.getElem?_set_ne hj] at e
        obtain ⟨u, f1, f2⟩ := s.slots j q e
        exact ⟨u, by rw [List.getElem?_set_ne hj]; exact f1, f2⟩ }
theorem Sv.unset (s : Sv K TT g al en F σ H) (i : Nat) : Sv K TT g al { en with sl := en.sl.set i none } F (σ.set i none) H :=
  { s with
    len := by rw [List.length_set, List.length_set]; exact s.len
    slots := fun j q e => by
      by_cases hj : i = j
      · subst hj
        by_cases hi : i < en.sl.length
        · rw [List.getElem?_set_self hi] at e; cases e
        · rw [List.getElem?_eq_none (by simpa using hi)] at e; cases e
      · rw [List.getElem?_set_ne hj] at e
        obtain ⟨u, f1, f2⟩ := s.slots j q e
        exact ⟨u, by rw [List.getElem?_set_ne hj]; exact f1, f2⟩ }
end
def Tt.on (TT : Tt) (a : Addr) (x : Ex) (cls : Value) (d : Option Addr) : Tt := ⟨TT.t, a, x, cls, d⟩
section
variable {X : Cx} {TT : Tt} {W : WX} {n x : Str} {i : Nat} {body suite : List Stmt} {b₀ : Stmt} {np pos pos' : Pos} {tst : Str → Option Bool} {mb : M Fl} {ms : Ex → M Fl}
/-- the classes' order, as far as it is told -/
def Tst (K : PySem.W.Frag) (x : Str) (tst : Str → Option Bool) : Prop := ∀ s b, tst s = some b → PySem.W.exmOne K (.ref (He.ga K s)) (.ref (He.ga K x)) = some b
def tsD (X : Cx) (st : List Stmt) : Addr → Value → Option Addr → TS := fun a cls d D σ H => ∀ (oe : Obj) (pn : List (Addr × Obj)), Zc cls d oe → (∃ vs, oe.data = .fields vs) → ∃ t, PSs (X.suite a ((a, oe) :: pn)) st t ∧ t D σ H
theorem pss_tsD (st : List Stmt) (a : Addr) (oe : Obj) (cls : Value) (d : Option Addr) (pn : List (Addr × Obj)) (hz : Zc cls d oe) (hf : ∃ vs, oe.data = .fields vs) : PSs (X.suite a ((a, oe) :: pn)) st (tsD X st a cls d) :=
  ⟨fun pins s σ H D I h => by
    obtain ⟨t, pt, q⟩ := h oe pn hz hf
    exact pt.run pins s σ H D I q⟩
def tbD (X : Cx) (body : List Stmt) : WX → TS := fun W D σ H => ∀ (pn : List (Addr × Obj)) (xe : Value → Shared → Prop), Takes (X.tr pn xe) W → PassesOwn (model X.prog X.w) X.A X.env xe → ∃ t, PSs (X.tr pn xe) body t ∧ t D σ H
theorem pss_tbD (body : List Stmt) (W : WX) (pn : List (Addr × Obj)) (xe : Value → Shared → Prop) (tk : Takes (X.tr pn xe) W) (po : PassesOwn (model X.prog X.w) X.A X.env xe) : PSs (X.tr pn xe) body (tbD X body W) :=
  ⟨fun pins s σ H D I h => by
    obtain ⟨t, pt, q⟩ := h pn xe tk po
    exact pt.run pins s σ H D I q⟩
theorem sd_try_as (hs : X.stack = X.env :: X.outer) (hf : X.env.frame = some X.env.locals) (hN : X.N.Nodup) (hi : X.N[i]? = some n) (hln : X.env.kindOf n = some .local) (hg : Gl X x) (hdb : (x == ("__debug__" : Str)) = false) (hm : X.mg x = some (.ref (He.ga X.K x))) (tk : Takes X W) (ht : Tst X.K x tst)
    (hb : ∀ (W' : WX) (pn : List (Addr × Obj)) (xe : Value → Shared → Prop), Takes (X.tr pn xe) W' → PassesOwn (model X.prog X.w) X.A X.env xe → PSsD (X.tr pn xe) TT W' body mb)
    (hsu : ∀ (a : Addr) (oe : Obj) (cls : Value) (d : Option Addr) (pn : List (Addr × Obj)) (ex : Ex), Zc cls d oe → (∃ vs, oe.data = .fields vs) → PSsD (X.suite a ((a, oe) :: pn)) (TT.on a ex cls d) W0 (b₀ :: suite) (ms ex)) :
    PSD X TT W (.Try body [.ExceptHandler (some (.Name x np)) (some n) (b₀ :: suite) pos'] [] [] pos) (tryAs i tst mb ms) := by
  refine ⟨⟨_, ps_try_as hs hf hN hi hln (c := .ref (He.ga X.K x)) ⟨hg, hdb, .inl hm⟩ tk (fun W pn xe t p => pss_tbD body W pn xe t p) (fun a oe cls d pn hz hf => pss_tsD (b₀ :: suite) a oe cls d pn hz hf), fun g al en F σ H D s h => ?_⟩⟩
  intro pn xe tk' po
  obtain ⟨⟨t, pt, q⟩⟩ := hb _ pn xe tk' po
  refine ⟨t, pt, q g al en F σ H D s ?_⟩
  unfold tryAs at h
  cases qb : mb en with
  | bad => rw [qb] at h; exact h.elim
  | ok fl e => rw [qb] at h; cases fl <;> exact h
  | exc ex e =>
    rw [qb] at h
    simp only at h
    intro F1 a1 σ1 H1 cls dO l1 s1 hx
    cases qt : tst ex.cls with
    | none => rw [qt] at h; exact h.elim
    | some b =>
      rw [qt] at h
      have hcl := hx.1
      refine ⟨b, by rw [hcl]; exact ht _ _ qt, fun hbt a ha => ?_, fun hbf => ?_⟩
      · subst hbt
        simp only at h
        split at h
        · rename_i hne
          intro oe pn2 hz hfo
          obtain ⟨⟨t2, pt2, q2⟩⟩ := hsu a oe cls dO pn2 ex hz hfo
          refine ⟨t2, pt2, ?_⟩
          have sc : Sv X.K (TT.on a ex cls dO) g a1 e F1 σ1 H1 := s1.chg rfl hne.1
          have se := sc.setE (i := i) (hx.mono (Same.refl F1))
          refine q2 g a1 _ F1 _ H1 _ se ?_
          cases qs : ms ex { e with sl := e.sl.set i (some .exv) } with
          | bad => rw [qs] at h; exact h.elim
          | exc _ _ => rw [qs] at h; exact h.elim
          | ok fl e' =>
            rw [qs] at h
            simp only at h
            split at h
            · rename_i hn2
              have back : ∀ {F2 a2 σ2 H2}, Sv X.K (TT.on a ex cls dO) g a2 e' F2 σ2 H2 → Sv X.K TT g a2 { e' with sl := e'.sl.set i none } F2 (σ2.set i none) H2 := fun s2 => (s2.unset i).chg rfl hn2
              cases fl with
              | nx => exact fun F2 a2 σ2 H2 l2 s2 => h F2 a2 _ H2 (l1.trans l2) (back s2)
              | brk => exact fun F2 a2 σ2 H2 l2 s2 => h F2 a2 _ H2 (l1.trans l2) (back s2)
              | cnt => exact fun F2 a2 σ2 H2 l2 s2 => h F2 a2 _ H2 (l1.trans l2) (back s2)
              | ret r =>
                intro v F2 a2 σ2 H2 l2 s2 hv
                have nr : r ≠ .exv := fun z => by subst z; exact hv.elim
                have h2 : PostS X.K TT W g F al (.ok (.ret r) { e' with sl := e'.sl.set i none }) D := by
                  cases r <;> first | exact h | exact absurd rfl nr
                exact h2 v F2 a2 _ H2 (l1.trans l2) (back s2) hv
            · exact h.elim
        · exact h.elim
      · subst hbf
        simp only at h
        exact h F1 a1 σ1 H1 cls dO l1 s1 hx
theorem sd_try_no (hs : X.stack = X.env :: X.outer) (hf : X.env.frame = some X.env.locals) (hg : Gl X x) (hdb : (x == ("__debug__" : Str)) = false) (hm : X.mg x = some (.ref (He.ga X.K x))) (tk : Takes X W) (ht : Tst X.K x tst)
    (hb : ∀ (W' : WX) (pn : List (Addr × Obj)) (xe : Value → Shared → Prop), Takes (X.tr pn xe) W' → PassesOwn (model X.prog X.w) X.A X.env xe → PSsD (X.tr pn xe) TT W' body mb)
    (hsu : ∀ (a : Addr) (oe : Obj) (cls : Value) (d : Option Addr) (pn : List (Addr × Obj)) (ex : Ex), Zc cls d oe → (∃ vs, oe.data = .fields vs) → PSsD (X.suite a ((a, oe) :: pn)) (TT.on a ex cls d) W0 (b₀ :: suite) (ms ex)) :
    PSD X TT W (.Try body [.ExceptHandler (some (.Name x np)) none (b₀ :: suite) pos'] [] [] pos) (tryNo tst mb ms) := by
  refine ⟨⟨_, ps_try_only hs hf (c := .ref (He.ga X.K x)) ⟨hg, hdb, .inl hm⟩ tk (fun W pn xe t p => pss_tbD body W pn xe t p) (fun a oe cls d pn hz hf => pss_tsD (b₀ :: suite) a oe cls d pn hz hf), fun g al en F σ H D s h => ?_⟩⟩
  intro pn xe tk' po
  obtain ⟨⟨t, pt, q⟩⟩ := hb _ pn xe tk' po
  refine ⟨t, pt, q g al en F σ H D s ?_⟩
  unfold tryNo at h
  cases qb : mb en with
  | bad => rw [qb] at h; exact h.elim
  | ok fl e => rw [qb] at h; cases fl <;> exact h
  | exc ex e =>
    rw [qb] at h
    simp only at h
    intro F1 a1 σ1 H1 cls dO l1 s1 hx
    cases qt : tst ex.cls with
    | none => rw [qt] at h; exact h.elim
    | some b =>
      rw [qt] at h
      have hcl := hx.1
      refine ⟨b, by rw [hcl]; exact ht _ _ qt, fun hbt a ha => ?_, fun hbf => ?_⟩
      · subst hbt
        simp only at h
        split at h
        · rename_i hne
          intro oe pn2 hz hfo
          obtain ⟨⟨t2, pt2, q2⟩⟩ := hsu a oe cls dO pn2 ex hz hfo
          refine ⟨t2, pt2, ?_⟩
          have sc : Sv X.K (TT.on a ex cls dO) g a1 e F1 σ1 H1 := s1.chg rfl hne
          refine q2 g a1 _ F1 _ H1 _ sc ?_
          cases qs : ms ex e with
          | bad => rw [qs] at h; exact h.elim
          | exc _ _ => rw [qs] at h; exact h.elim
          | ok fl e' =>
            rw [qs] at h
            simp only at h
            split at h
            · rename_i hn2
              have back : ∀ {F2 a2 σ2 H2}, Sv X.K (TT.on a ex cls dO) g a2 e' F2 σ2 H2 → Sv X.K TT g a2 e' F2 σ2 H2 := fun s2 => s2.chg rfl hn2
              cases fl with
              | nx => exact fun F2 a2 σ2 H2 l2 s2 => h F2 a2 _ H2 (l1.trans l2) (back s2)
              | brk => exact fun F2 a2 σ2 H2 l2 s2 => h F2 a2 _ H2 (l1.trans l2) (back s2)
              | cnt => exact fun F2 a2 σ2 H2 l2 s2 => h F2 a2 _ H2 (l1.trans l2) (back s2)
              | ret r => exact fun v F2 a2 σ2 H2 l2 s2 hv => h v F2 a2 _ H2 (l1.trans l2) (back s2) hv
            · exact h.elim
        · exact h.elim
      · subst hbf
        simp only at h
        exact h F1 a1 σ1 H1 cls dO l1 s1 hx
/-! ## isinstance(e, C), e.f in the suite -/
def isE (i : Nat) (o : Option Bool) : M Rv := fun en => match en.sl[i]?, o with
  | some (some .exv), some b => .ok (.dat (.bool b)) en
  | _, _ => .bad
def fldE (i : Nat) (f : Str) (ex : Ex) : M Rv := fun en => match en.sl[i]?, ex.fld with
  | some (some .exv), some (g, d) => if g = f then .ok (.dat d) en else .bad
  | _, _ => .bad
theorem inst_exc {P : Program} {w : World} {H : Hp} {h : Heap} {a D : Addr} {oe : Obj} {d : Option Addr} (ha : h.get? a = some oe) (hz : Zc (.ref D) d oe) (hf : ∃ vs, oe.data = .fields vs) (hd : ∀ dd, d = some dd → ∃ fs, H dd = some (.xd fs)) (hok : HOk P w H h) :
    ∃ od, PySem.W.InstAt h a oe D od := by
  obtain ⟨vs, hv⟩ := hf
  have no : PySem.W.notCls oe = true := by unfold PySem.W.notCls; rw [hv] <;> rfl
  cases d with
  | none => exact ⟨none, ha, hz.1, no, by rw [hz.2]; trivial⟩
  | some dd =>
    obtain ⟨fs, e⟩ := hd dd rfl
    obtain ⟨mA, hns, hr⟩ := hok dd _ e
    obtain ⟨od, ho, hl⟩ := lookIn_ns hns
    exact ⟨some od, ha, hz.1, no, by rw [hz.2]; exact ho⟩
def rIsX (K : PySem.W.Frag) (a D : Addr) (d : Option Addr) : List V → Hp → VK → Prop := fun xs H Q => ∃ (C : Addr) (b : Bool), xs = [.ref a, .ref C] ∧ ExcC K D ∧ (∀ dd, d = some dd → ∃ fs, H dd = some (.xd fs)) ∧ PySem.W.kitOne K (.ref D) (.ref C) = some b ∧ Q (.bl b) H
theorem call_isX {a D : Addr} {oe : Obj} {d : Option Addr} {pn : List (Addr × Obj)} (hz : Zc (.ref D) d oe) (hf : ∃ vs, oe.data = .fields vs) : CallR (X.suite a ((a, oe) :: pn)) (.builtin "isinstance") (rIsX X.K a D d) := by
  intro pins s σ H xs us Q I r h
  obtain ⟨C, b, rfl, T, hd, e, q⟩ := h
  cases r with
  | cons rx rr =>
    cases rr with
    | cons rt rr =>
      cases rr
      cases rx
      cases rt
      obtain ⟨hget, _⟩ := I.pin (a, oe) (List.mem_append.mpr (.inl List.mem_cons_self))
      obtain ⟨od, J⟩ := inst_exc hget hz hf hd I.hok
      obtain ⟨cd, hc, _⟩ := PySem.W.any_some T.hd
      exact PySem.W.kia_one (PySem.W.kitx_exc (by rw [hc]; rfl) T.hg T.hk T.hs T.ha T.hn T.ht T.hm) I.kIn J e (fun z => nomatch z) fun tk => ⟨.bl b, H, I.kept (t' := tk) fun _ _ z => z, rfl, q⟩
/-- the classes' order for isinstance -/
def Kst (K : PySem.W.Frag) (y : Str) (s : Str) (o : Option Bool) : Prop := ∀ b, o = some b → ExcC K (He.ga K s) ∧ PySem.W.kitOne K (.ref (He.ga K s)) (.ref (He.ga K y)) = some b
theorem pd_isE {e y : Str} {a : Addr} {oe : Obj} {cls : Value} {d : Option Addr} {pn : List (Addr × Obj)} {ex : Ex} {o : Option Bool} {p p1 p2 : Pos} (hz : Zc cls d oe) (hf : ∃ vs, oe.data = .fields vs) (hk : Kst X.K y ex.cls o) (hm : X.mg "isinstance" = none) (hmy : X.mg y = some (.ref (He.ga X.K y)))
    (hN : X.N[i]? = some e := by rfl) (hv : Vis X.env.scope e := by exact Or.inl rfl) (hg : Gl X "isinstance" := by rfl) (hgy : Gl X y := by rfl) (hd1 : (e == ("__debug__" : Str)) = false := by decide) (hcd : (e == ("__classdict__" : Str)) = false := by decide) (hdy : (y == ("__debug__" : Str)) = false := by decide)
    (he : starEach [.Name e p1, .Name y p2] X.env = (false, eval (.Name e p1) X.env) :: starEach [.Name y p2] X.env := by rfl) (he2 : starEach [.Name y p2] X.env = (false, eval (.Name y p2) X.env) :: starEach [] X.env := by rfl) (hpl : (backTo pos (starEach [.Name y p2] X.env)).any (·.1) = false := by rfl) :
    PD (X.suite a ((a, oe) :: pn)) (TT.on a ex cls d) W (.Call (.Name "isinstance" p) [.Name e p1, .Name y p2] [] pos) (isE i o) := by
  by_cases hcl : cls = .ref (He.ga X.K ex.cls)
  · subst hcl
    refine ⟨⟨_, pe_callB (X := X.suite a ((a, oe) :: pn)) (call_isX (X := X) hz hf) hg hm boot_isinstance (pa_cons (pe_var (X := X.suite a ((a, oe) :: pn)) (i := i) hN hv hd1 hcd) (pa_cons (pe_glob (X := X.suite a ((a, oe) :: pn)) (v := .ref (He.ga X.K y)) hgy hmy rfl hdy) pa_nil he2) he) (by decide) (by decide) he hpl, fun g al en F σ H Q s h => ?_⟩⟩
    unfold isE at h
    split at h
    · rename_i b es
      obtain ⟨v, e1, q1, q2⟩ := s.slots i _ es
      obtain ⟨k1, k2⟩ := hk b rfl
      refine ⟨v, e1, He.ga X.K y, b, by rw [q1]; rfl, k1, fun dd hdd => ?_, k2, h.here s _ (.bl b)⟩
      obtain ⟨_, q3⟩ := q2
      have hdd : d = some dd := hdd
      cases qf : ex.fld with
      | none =>
        have q3 : (match ex.fld with | none => d = none | some (f, dx) => ∃ dd v, d = some dd ∧ F dd = some (.xd [(f, v)]) ∧ Dp X.K F v dx) := q3
        rw [qf] at q3
        rw [q3] at hdd; cases hdd
      | some pr =>
        have q3 : (match ex.fld with | none => d = none | some (f, dx) => ∃ dd v, d = some dd ∧ F dd = some (.xd [(f, v)]) ∧ Dp X.K F v dx) := q3
        rw [qf] at q3
        obtain ⟨d2, v2, ed, e2, _⟩ := q3
        rw [hdd] at ed
        cases ed
        exact ⟨_, s.sub _ _ e2⟩
    · exact h.elim
  · refine ⟨⟨fun _ _ _ => False, ⟨fun _ _ _ _ _ _ z => z.elim⟩, fun g al en F σ H Q s h => ?_⟩⟩
    unfold isE at h
    split at h
    · rename_i b es
      obtain ⟨v, e1, q1, q2⟩ := s.slots i _ es
      exact hcl q2.1
    · exact h.elim
theorem pd_fldE {e f : Str} {a : Addr} {oe : Obj} {cls : Value} {d : Option Addr} {pn : List (Addr × Obj)} {ex : Ex} {p p1 : Pos} (hz : Zc cls d oe) (hf : ∃ vs, oe.data = .fields vs) (T : ∀ b, ex.fld = some (f, b) → XfC X.K (He.ga X.K ex.cls) ∧ PySem.W.findIn X.K (.ref (He.ga X.K ex.cls)) f = some none)
    (hN : X.N[i]? = some e := by rfl) (hv : Vis X.env.scope e := by exact Or.inl rfl) (hd1 : (e == ("__debug__" : Str)) = false := by decide) (hcd : (e == ("__classdict__" : Str)) = false := by decide)
    (hb : attributeBase (.Name e p1) f X.env (eval (.Name e p1) X.env) = eval (.Name e p1) X.env := by rfl) :
    PD (X.suite a ((a, oe) :: pn)) (TT.on a ex cls d) W (.Attribute (.Name e p1) f pos) (fldE i f ex) := by
  by_cases hcl : cls = .ref (He.ga X.K ex.cls) ∧ ∃ b, ex.fld = some (f, b)
  · obtain ⟨hcl, b, hfl⟩ := hcl
    subst hcl
    obtain ⟨T1, T2⟩ := T b hfl
    refine ⟨⟨_, pe_xf (X := X) T1 T2 hz hf (pe_var (X := X.suite a ((a, oe) :: pn)) (i := i) hN hv hd1 hcd) hb, fun g al en F σ H Q s h => ?_⟩⟩
    unfold fldE at h
    split at h
    · rename_i g2 d2 es efl
      split at h
      · rename_i hgf
        subst hgf
        obtain ⟨v, e1, q1, q2⟩ := s.slots i _ es
        obtain ⟨_, q3⟩ := q2
        have q3 : (match ex.fld with | none => d = none | some (f, dx) => ∃ dd v, d = some dd ∧ F dd = some (.xd [(f, v)]) ∧ Dp X.K F v dx) := q3
        rw [efl] at q3
        obtain ⟨d3, v2, ed, e2, dp⟩ := q3
        exact ⟨v, e1, q1, rfl, d3, _, v2, ed, s.sub _ _ e2, by simp [List.lookup], h.here s _ dp⟩
      · exact h.elim
    · exact h.elim
  · refine ⟨⟨fun _ _ _ => False, ⟨fun _ _ _ _ _ _ z => z.elim⟩, fun g al en F σ H Q s h => ?_⟩⟩
    unfold fldE at h
    split at h
    · rename_i g2 d2 es efl
      split at h
      · rename_i hgf
        subst hgf
        obtain ⟨v, e1, q1, q2⟩ := s.slots i _ es
        exact hcl ⟨q2.1, d2, efl⟩
      · exact h.elim
    · exact h.elim
end
end Pd

namespace Pd
open PySem PySem.Spec PyProof.Rows L2
variable [Lams]
/-! ## cells put aside for a lambda's run -/
def hide (H : Hp) (cs : List Addr) : Hp := fun b => if b ∈ cs then none else H b
def shw (H H' : Hp) (cs : List Addr) : Hp := fun b => if b ∈ cs then H b else H' b
def Cells (H : Hp) (cs : List Addr) : Prop := ∀ c ∈ cs, ∃ (o : Obj) (w : Value), H c = some (.frz o (.own 0)) ∧ o.data = .cell (some w)
theorem hide_in {H : Hp} {cs : List Addr} {b : Addr} (h : b ∈ cs) : hide H cs b = none := if_pos h
theorem hide_out {H : Hp} {cs : List Addr} {b : Addr} (h : b ∉ cs) : hide H cs b = H b := if_neg h
theorem shw_in {H H' : Hp} {cs : List Addr} {b : Addr} (h : b ∈ cs) : shw H H' cs b = H b := if_pos h
theorem shw_out {H H' : Hp} {cs : List Addr} {b : Addr} (h : b ∉ cs) : shw H H' cs b = H' b := if_neg h
theorem hide_some {H : Hp} {cs : List Addr} {b : Addr} {o : HO} (h : hide H cs b = some o) : b ∉ cs ∧ H b = some o := by
  by_cases hb : b ∈ cs
  · rw [hide_in hb] at h; cases h
  · rw [hide_out hb] at h; exact ⟨hb, h⟩
theorem Cells.no {H : Hp} {cs : List Addr} (c : Cells H cs) {b : Addr} {o : HO} (e : H b = some o) (n : ∀ ob, o ≠ .frz ob (.own 0)) : b ∉ cs := fun hb => by
  obtain ⟨ob, w, e2, _⟩ := c b hb
  rw [e] at e2
  exact n ob (Option.some.inj e2)
theorem Cells.no0 {H : Hp} {cs : List Addr} (c : Cells H cs) {b : Addr} (e : H b = none) : b ∉ cs := fun hb => by
  obtain ⟨ob, w, e2, _⟩ := c b hb
  rw [e] at e2; cases e2
theorem hide_of {H : Hp} {cs : List Addr} (c : Cells H cs) {b : Addr} {o : HO} (e : H b = some o) (n : ∀ ob, o ≠ .frz ob (.own 0)) : hide H cs b = some o := (hide_out (c.no e n)).trans e
theorem hide_none {H : Hp} {cs : List Addr} {b : Addr} (e : H b = none) : hide H cs b = none := by
  by_cases hb : b ∈ cs
  · exact hide_in hb
  · rw [hide_out hb]; exact e
section
variable {P : Program} {w : World} {H H' : Hp} {h h' : Heap} {cs fs : List Addr}
theorem hok_hide (x : HOk P w H h) (c : Cells H cs) : HOk P w (hide H cs) h := fun a o e => by
  obtain ⟨na, e'⟩ := hide_some e
  exact (x a o e').stay (fun _ _ _ q => q) (fun b hb => hide_of c hb fun ob z => by cases z) fun b xs hb => hide_of c hb fun ob z => by cases z
theorem hok_show (x : HOk P w H h) (y : HOk P w H' h') (k : ∀ c ∈ cs, ∀ o, h.get? c = some o → h'.get? c = some o) (n : ∀ c ∈ cs, H' c = none) (c : Cells H cs) : HOk P w (shw H H' cs) h' := fun a o e => by
  by_cases ha : a ∈ cs
  · rw [shw_in ha] at e
    obtain ⟨ob, w', e2, _⟩ := c a ha
    rw [e] at e2
    cases e2
    obtain ⟨e3, _⟩ := x a _ e
    exact ⟨k a ha _ e3, ob, k a ha _ e3⟩
  · rw [shw_out ha] at e
    have no : ∀ {b : Addr} {u : HO}, H' b = some u → b ∉ cs := fun {b u} e hb => by rw [n b hb] at e; cases e
    exact (y a o e).stay (fun _ _ _ q => q) (fun b hb => by rw [shw_out (no hb)]; exact hb) fun b xs hb => by rw [shw_out (no hb)]; exact hb
theorem un_show (u : Un fs [] (hide H cs) H' h h') (c : Cells H cs) : Un fs [] H (shw H H' cs) h h' where
  keep := fun b o e n hf hx => u.keep b o e (hide_none n) hf hx
  slot := fun b o e n hf hx => u.slot b o e (hide_none n) hf hx
  free := fun b o e n hx => by rw [shw_out (c.no0 n)]; exact u.free b o e (hide_none n) hx
  there := fun b o e hx => u.there b o e hx
  tups := fun b xs e => by
    have nb := c.no e fun ob z => by cases z
    rw [shw_out nb]; exact u.tups b xs ((hide_out nb).trans e)
  frzs := fun b o v e => by
    by_cases hb : b ∈ cs
    · rw [shw_in hb]; exact e
    · rw [shw_out hb]; exact u.frzs b o v ((hide_out hb).trans e)
  tbls := fun b ps e => by
    have nb := c.no e fun ob z => by cases z
    rw [shw_out nb]; exact u.tbls b ps ((hide_out nb).trans e)
theorem ub_show {B : Heap} (u : UB fs (hide H cs) H' h B h') (c : Cells H cs) : UB fs H (shw H H' cs) h B h' where
  keep := fun b o e n hf => u.keep b o e (hide_none n) hf
  slot := fun b o e hf => u.slot b o e hf
  free := fun b o e n => by rw [shw_out (c.no0 n)]; exact u.free b o e (hide_none n)
  there := fun b o e hx => u.there b o e hx
  tups := fun b xs e => by
    have nb := c.no e fun ob z => by cases z
    rw [shw_out nb]; exact u.tups b xs ((hide_out nb).trans e)
  frzs := fun b o v e => by
    by_cases hb : b ∈ cs
    · rw [shw_in hb]; exact e
    · rw [shw_out hb]; exact u.frzs b o v ((hide_out hb).trans e)
  tbls := fun b ps e => by
    have nb := c.no e fun ob z => by cases z
    rw [shw_out nb]; exact u.tbls b ps ((hide_out nb).trans e)
theorem env0_hide {K : PySem.W.Frag} {mg : Str → Option Value} {base : Heap} {A : Around} {outer : List Env} {s : Shared} (e0 : Env0 P w K mg base A outer s H) (c : Cells H cs) : Env0 P w K mg base A outer s (hide H cs) :=
  ⟨e0.frames, e0.mod, fun b o e => ⟨(e0.bs b o e).1, hide_none (e0.bs b o e).2⟩, e0.bsz, e0.funs, fun b hb => hide_none (e0.frf b hb), hok_hide e0.hok c, e0.bare⟩
end
/-! ## a lambda's run -/
structure LamOk (L : LamD) : Prop where
  kind : L.scope.kind = .function
  co : L.scope.isCoroutine = false
  gen : L.scope.isGenerator = false
  own : ∀ y ∈ L.scope.names, y.2 ≠ .local ∧ y.2 ≠ .cell
  free : ∀ y ∈ L.scope.names, y.2 = .free → y.1 ∈ L.names
  nd : L.names.Nodup
  bind : ∀ (cl : List (Str × Addr)) (pm cv ctv : Value), bindArgs (PySem.W.kla_fn "<lambda>" L.qual L.params L.body L.scope cl pm cv ctv) ⟨[], []⟩ = pure []
abbrev lamEv (L : LamD) (l f c' : Addr) (clo : List (Str × Addr)) : Env := PySem.W.envX L.qual L.scope l f (.ref c') clo
/-- the context of the lambda's body, entered at s from the frames outer -/
def lamCy (P : Program) (w : World) (K : PySem.W.Frag) (mg : Str → Option Value) (base : Heap) (A : Around) (outer : List Env) (s : Shared) (H : Hp) (E : XK) (L : LamD) (f c' : Addr) (clo : List (Str × Addr)) : Cx where
  prog := P
  w := w
  K := K
  mg := mg
  base := base
  A := A.deeper (lamEv L s.heap.objs.size f c' clo)
  N := L.names
  s_0 := s
  H_0 := H
  env := lamEv L s.heap.objs.size f c' clo
  outer := outer
  stack := lamEv L s.heap.objs.size f c' clo :: outer
  ex := []
  fn := fun _ => false
  calm := true
  pn := []
  xe := fun e s' => wpAny (model P w) (A.deeper (lamEv L s.heap.objs.size f c' clo)) (leaving (lamEv L s.heap.objs.size f c' clo) e) (fun _ s'' => L2.CX P w outer H s E e s'') (fun e' s'' => L2.CX P w outer H s E e' s'') s'
theorem nodup_snd {clo : List (Str × Addr)} (h : (clo.map (·.2)).Nodup) {x y : Str} {c : Addr} (hx : (x, c) ∈ clo) (hy : (y, c) ∈ clo) : x = y := by
  obtain ⟨i, hi, ei⟩ := List.getElem_of_mem hx
  obtain ⟨j, hj, ej⟩ := List.getElem_of_mem hy
  have e : i = j := by
    refine nodup_get (x := c) h ?_ ?_
    · rw [List.getElem?_map, List.getElem?_eq_getElem hi, ei]; rfl
    · rw [List.getElem?_map, List.getElem?_eq_getElem hj, ej]; rfl
  subst e
  have z := ei.symm.trans ej
  cases z
  rfl
theorem lookup_at : ∀ {clo : List (Str × Addr)} {i : Nat} {p : Str × Addr}, (clo.map (·.1)).Nodup → clo[i]? = some p → clo.lookup p.1 = some p.2
  | [], i, p, _, e => by simp at e
  | q :: r, 0, p, _, e => by
    simp at e
    subst e
    simp [List.lookup]
  | q :: r, i + 1, p, h, e => by
    have e2 : r[i]? = some p := by simpa using e
    have h2 : q.1 ∉ r.map (·.1) ∧ (r.map (·.1)).Nodup := List.nodup_cons.mp h
    have ne : (p.1 == q.1) = false := by
      refine beq_eq_false_iff_ne.mpr fun z => h2.1 ?_
      rw [← z]
      exact List.mem_map.mpr ⟨p, List.mem_of_getElem? e2, rfl⟩
    obtain ⟨q1, q2⟩ := q
    rw [List.lookup_cons, ne]
    exact lookup_at (clo := r) h2.2 e2
section
variable {P : Program} {w : World} {K : PySem.W.Frag} {mg : Str → Option Value} {base : Heap} {A : Around} {outer : List Env} {s1 : Shared} {H1 : Hp} {E : XK} {L : LamD} {f c' : Addr} {clo : List (Str × Addr)} {vs : List V}
theorem lam_start3 {h₁ : Heap} {tk : Nat} (e0 : Env0 P w K mg base A outer s1 H1) (hd : A.handled = none) (LO : LamOk L) (hn : clo.map (·.1) = L.names) (hnd : (clo.map (·.2)).Nodup) (hl : vs.length = clo.length)
    (hc : ∀ (i : Nat) (p : Str × Addr) (v : V), clo[i]? = some p → vs[i]? = some v → ∃ u, s1.heap.IsCell p.2 (some u) ∧ L2.RelV v u) (hfree : ∀ p ∈ clo, H1 p.2 = none) (hns : h₁.Ns s1.heap.objs.size fun y => ([] : List (Str × Value)).reverse.lookup y) (kp : ∀ b o, s1.heap.get? b = some o → h₁.get? b = some o) :
    Inv (lamCy P w K mg base A outer s1 H1 E L f c' clo) [] (vs.map some) H1 { s1 with heap := h₁, toks := tk } := by
  have noA : ∀ b : Addr, b ∉ (lamCy P w K mg base A outer s1 H1 E L f c' clo).ex := fun b z => absurd (show b ∈ ([] : List Addr) from z) (by simp)
  have cellK : ∀ {c : Addr} {v : Option Value}, s1.heap.IsCell c v → h₁.IsCell c v := fun {c v} ⟨o, ho, hd⟩ => ⟨o, kp _ _ ho, hd⟩
  have nd1 : (clo.map (·.1)).Nodup := by rw [hn]; exact LO.nd
  have look : ∀ {y}, y ∈ L.names → ∃ c, clo.lookup y = some c := fun {y} hy => by
    rw [← hn] at hy
    obtain ⟨p, hp, rfl⟩ := List.mem_map.mp hy
    obtain ⟨i, hi, ei⟩ := List.getElem_of_mem hp
    exact ⟨p.2, lookup_at nd1 (by rw [List.getElem?_eq_getElem hi, ei])⟩
  refine ⟨⟨e0.mod, LO.kind, rfl, rfl, Nat.le_refl _, fun y z c e1 e2 => nodup_snd hnd (PySem.mem_of_lookup e1) (PySem.mem_of_lookup e2), fun y hy => ?_, fun y c z _ => ?_, fun _ => hd, Around.frames_deeper e0.frames, .inr ⟨rfl, rfl⟩, fun b z => absurd z (noA b), e0.bs, e0.bsz, fun b _ _ => noA b,
      fun b z => absurd z (noA b), e0.funs, e0.frf⟩,
    rfl, e0.bare, Un.kept kp, ⟨_, hns, fun i y v e1 e2 e3 => ?_⟩, fun y c e => ?_, e0.hok.fresh (Nat.le_refl _), fun y c e => ?_, fun q hq => absurd (show q ∈ ([] : List (Addr × Obj)) ++ [] from hq) (by simp), e0.hok.kept kp, ?_⟩
  · have hy : L.scope.names.lookup y = some .cell ∨ L.scope.names.lookup y = some .free := hy
    rcases hy with hy | hy
    · exact absurd rfl (LO.own _ (PySem.mem_of_lookup hy)).2
    · exact look (LO.free _ (PySem.mem_of_lookup hy) rfl)
  · have z : false = true := z
    cases z
  · have e3 : Vis L.scope y := e3
    rcases e3 with k | k | k
    · exact absurd rfl (LO.own _ (PySem.mem_of_lookup k)).1
    · exact absurd rfl (LO.own _ (PySem.mem_of_lookup k)).2
    · have e1 : L.names[i]? = some y := e1
      rw [← hn, List.getElem?_map] at e1
      cases q : clo[i]? with
      | none => rw [q] at e1; cases e1
      | some p =>
        rw [q] at e1
        have e1 : p.1 = y := Option.some.inj e1
        subst e1
        have ev : vs[i]? = some v := by
          rw [List.getElem?_map] at e2
          cases q2 : vs[i]? with
          | none => rw [q2] at e2; cases e2
          | some v2 => rw [q2] at e2; cases e2; rfl
        obtain ⟨u, hu, r⟩ := hc i p v q ev
        exact ⟨u, r, .inr ⟨.inr k, p.2, lookup_at nd1 q, cellK hu⟩⟩
  · have hm := PySem.mem_of_lookup (show clo.lookup y = some c from e)
    obtain ⟨i, hi, ei⟩ := List.getElem_of_mem hm
    have hi2 : i < vs.length := by rw [hl]; exact hi
    obtain ⟨u, hu, _⟩ := hc i (y, c) vs[i] (by rw [List.getElem?_eq_getElem hi, ei]) (List.getElem?_eq_getElem hi2)
    exact ⟨_, cellK hu⟩
  · exact hfree _ (PySem.mem_of_lookup (show clo.lookup y = some c from e))
  · show (vs.map some).length = L.names.length
    rw [List.length_map, hl, ← hn, List.length_map]
end
section
variable {X : Cx} {W : WX} {k i : Nat} {a : Str} {p1 p2 : Pos}
/-- what is asked of a lambda that a name holds -/
def tFnC (X : Cx) (W : WX) (i k : Nat) : TE := fun σ H Q => ∃ (f c' : Addr) (L : LamD) (clo : List (Str × Addr)) (vs : List V), σ[i]? = some (some (.ref f)) ∧ H f = some (FunO L f c' clo) ∧ H c' = some (LamX.CodeO c' L.qual) ∧ LamOk L ∧ clo.map (·.1) = L.names ∧ (clo.map (·.2)).Nodup ∧ vs.length = clo.length ∧
  (∀ (i : Nat) (p : Str × Addr) (v : V), clo[i]? = some p → vs[i]? = some v → ∃ (o : Obj) (w : Value), H p.2 = some (.frz o (.own 0)) ∧ o.data = .cell (some w) ∧ L2.RelV v w) ∧
  ∀ s : Shared, Room k (X.A.deeper (lamEv L s.heap.objs.size f c' clo)) → ∃ t, PE (lamCy X.prog X.w X.K X.mg X.base X.A X.stack s (hide H (clo.map (·.2))) (fun cls d H' => (∀ c ∈ clo.map (·.2), H' c = none) → W cls d σ (shw H H' (clo.map (·.2)))) L f c' clo) L.body t ∧
    t (vs.map some) (hide H (clo.map (·.2))) (fun v H' => (∀ c ∈ clo.map (·.2), H' c = none) → Q v (shw H H' (clo.map (·.2))))
theorem pe_fnC (hr : Room (k + 1) X.A) (hx : ∀ σ, PassesAt (L2.CX X.prog X.w) X σ (WE W σ)) (hN : X.N[i]? = some a) (hv : Vis X.env.scope a) (hd : (a == ("__debug__" : Str)) = false := by decide) (hcd : (a == ("__classdict__" : Str)) = false := by decide) :
    PE X (.Call (.Name a p1) [] [] p2) (tFnC X W i k) := by
  refine ⟨fun pins s σ H Q I h => ?_⟩
  obtain ⟨f, c', L, clo, vs, hs, hf, hc, LO, hn, hnd, hl, hcell, hb⟩ := h
  refine wpAny_Call_Name_kw (thn ((pe_var (pos := p1) (i := i) hN hv hd hcd).run pins s σ H (fun v H1 => v = .ref f ∧ H1 = H) I ⟨.ref f, hs, rfl, rfl⟩) fun u s1 ⟨v, H1, I1, r1, q1⟩ => ?_)
  obtain ⟨ev, eH⟩ := q1
  subst ev
  rw [eH] at I1
  obtain rfl : u = Value.ref f := r1
  obtain ⟨⟨pm, ctv, of1⟩, _, _⟩ := I1.hok f _ hf
  refine PySem.W.callWith_F0 ⟨_, _, _, _, of1⟩ ?_
  obtain ⟨⟨oc, vs2, t2, hoc, hdc, hvc⟩, _, _⟩ := I1.hok c' _ hc
  generalize hcs : clo.map (·.2) = cs at *
  have C : Cells H cs := fun c hm => by
    rw [← hcs] at hm
    obtain ⟨p, hp, rfl⟩ := List.mem_map.mp hm
    obtain ⟨j, hj, ej⟩ := List.getElem_of_mem hp
    have hj2 : j < vs.length := by rw [hl]; exact hj
    obtain ⟨o, w, z1, z2, _⟩ := hcell j p vs[j] (by rw [List.getElem?_eq_getElem hj, ej]) (List.getElem?_eq_getElem hj2)
    exact ⟨o, w, z1, z2⟩
  have nfr : ∀ c ∈ cs, c ∉ frs X.stack := fun c hm z => by
    obtain ⟨o, w, e, _⟩ := C c hm
    rw [I1.env0.frf c z] at e; cases e
  have kst : ∀ c ∈ cs, ∃ o, s1.heap.get? c = some o := fun c hm => by
    obtain ⟨o, w, e, _⟩ := C c hm
    exact ⟨o, (I1.hok c _ e).1⟩
  have hcellA : ∀ (i : Nat) (p : Str × Addr) (v : V), clo[i]? = some p → vs[i]? = some v → ∃ u, s1.heap.IsCell p.2 (some u) ∧ L2.RelV v u := fun i p v e1 e2 => by
    obtain ⟨o, w, z1, z2, z3⟩ := hcell i p v e1 e2
    exact ⟨w, ⟨o, (I1.hok _ _ z1).1, z2⟩, z3⟩
  obtain ⟨t, pt, hq⟩ := hb s1 (hr.deeper _)
  have rc : codeAny (model X.prog X.w) X.A (.call (.ref f) ⟨[], []⟩) (CR (L2.CX X.prog X.w) X.stack X.prog X.w (hide H cs) s1 (fun v H' => (∀ c ∈ cs, H' c = none) → Q v (shw H H' cs)) (fun cls d H' => (∀ c ∈ cs, H' c = none) → W cls d σ (shw H H' cs))) s1 := by
    refine PySem.W.kla_callFunE hr.depth of1 rfl LO.co LO.gen rfl ⟨c', oc, vs2, t2, rfl, hoc, hdc, hvc⟩ ?_
    rw [LO.bind]
    refine wpAny_pure (wpAny_newFunctionEnv (fun y hy => (LO.own y hy).2) (fun y hy => absurd hy (by simp)) (fun h₁ hns hsb => ⟨I1.nolimit.fresh _ hsb, ?_⟩) LO.kind)
    show codeAny _ _ (.expr L.body (lamEv L s1.heap.objs.size f c' clo)) _ _
    have kp : ∀ b o, s1.heap.get? b = some o → h₁.get? b = some o := fun b o e => hsb.extBut b o (Nat.ne_of_lt (Heap.lt_size e)) (Heap.get?_push_of_some _ e)
    have J : Inv (lamCy X.prog X.w X.K X.mg X.base X.A X.stack s1 (hide H cs) (fun cls d H' => (∀ c ∈ cs, H' c = none) → W cls d σ (shw H H' cs)) L f c' clo) [] (vs.map some) (hide H cs) { s1 with heap := h₁, toks := s1.toks + ([] : List (Str × Value)).length } :=
      lam_start3 (env0_hide I1.env0 C) hr.hd LO hn (by rw [hcs]; exact hnd) hl hcellA (fun p hp => hide_in (by rw [← hcs]; exact List.mem_map.mpr ⟨p, hp, rfl⟩)) hns kp
    refine PySem.W.kla_codeExpr (wpAny_mono (pt.run [] _ _ (hide H cs) _ J hq) (fun v s' hq => ?_) fun e s' hq => hq)
    obtain ⟨w', H', J', rv, q⟩ := hq
    exact ⟨w', H', J'.os, J'.bare, J'.base, J'.hok, rv, q⟩
  refine wpAny_call (codeAny_mono rc fun r s' hq => ?_)
  cases r with
  | error e =>
    obtain ⟨a, B, H', cls, d, rfl, fl, hok, ub, na, os, ag, hE⟩ := hq
    have nB : ∀ c ∈ cs, ∀ o, s1.heap.get? c = some o → B.get? c = some o := fun c hm o e => ub.keep c o e (hide_in hm) (nfr c hm)
    have n' : ∀ c ∈ cs, H' c = none := fun c hm => by
      obtain ⟨o, e⟩ := kst c hm
      exact ub.free c o e (hide_in hm)
    refine hx σ pins H s1 (.ref a) s' I1 ⟨a, B, shw H H' cs, cls, d, rfl, fl, hok_show I1.hok hok nB n' C, ub_show ub C, ?_, os, ag, hE n'⟩
    rw [shw_out]
    · exact na
    · intro hm
      obtain ⟨o, e⟩ := kst a hm
      have z := nB a hm o e
      rw [fl.2.1] at z; cases z
  | ok fl =>
    cases fl with
    | ret u =>
      obtain ⟨v, H', os, bare, un, hok, rv, q⟩ := hq
      have nk : ∀ c ∈ cs, ∀ o, s1.heap.get? c = some o → s'.heap.get? c = some o := fun c hm o e => un.keep c o e (hide_in hm) (nfr c hm) (by simp)
      have n' : ∀ c ∈ cs, H' c = none := fun c hm => by
        obtain ⟨o, e⟩ := kst c hm
        exact un.free c o e (hide_in hm) (by simp)
      exact I1.after ⟨v, shw H H' cs, os, bare, un_show un C, hok_show I1.hok hok nk n' C, rv, q n'⟩
    | next => exact False.elim hq
    | brk => exact False.elim hq
    | cont => exact False.elim hq
end
end Pd

namespace Pd
open PySem PySem.Spec PyProof.Rows L2
variable [Lams]
/-! ## a lambda called by a name -/
def capRv : Cap → Rv
  | .inl d => .dat d
  | .inr k => .own k
def noFnR : Rv → Bool
  | .dat _ => true
  | .own _ => true
  | _ => false
def noFnO : Oc → Bool
  | .lst rs => rs.all noFnR
  | .fz _ => true
  | .dk kvs => kvs.all fun p => noFnR p.2
  | .dt kvs => kvs.all fun p => noFnR p.2
  | .ins _ fs => fs.all fun p => noFnR p.2
  | .fk kvs => kvs.all fun p => noFnR p.2
  | .ft kvs => kvs.all fun p => noFnR p.2
  | .ltab => true
  | .any => true
section
variable {K : PySem.W.Frag} {F H : Hp} {cs : List Addr} {al : List Addr}
theorem seqL_hide {a : Addr} {xs : List V} (c : Cells F cs) (h : SqL K F a xs) : SqL K (hide F cs) a xs := by
  rcases h with (h | ⟨o, h⟩) | h
  · exact .inl (.inl (hide_of c h fun ob z => by cases z))
  · exact .inl (.inr ⟨o, hide_of c h fun ob z => by cases z⟩)
  · exact .inr h
mutual
theorem dp_hide (c : Cells F cs) : ∀ (d : PyData) (v : V), Dp K F v d → Dp K (hide F cs) v d
  | .none, _, h => by cases h; exact .non
  | .bool b, _, h => by cases h; exact .bl b
  | .int i, _, h => by cases h; exact .int i
  | .str x, _, h => by cases h; exact .str x
  | .list ds, _, h => by
    cases h with
    | lst h1 h2 => exact .lst (seqL_hide c h1) (dpAll_hide c ds _ h2)
  | .tuple ds, _, h => by
    cases h with
    | tup h1 h2 => exact .tup (hide_of c h1 fun ob z => by cases z) (dpAll_hide c ds _ h2)
  | .dict _, _, h => by
    cases h with
    | dct h1 => exact .dct (hide_of c h1 fun ob z => by cases z)
theorem dpAll_hide (c : Cells F cs) : ∀ (ds : List PyData) (vs : List V), DpAll K F vs ds → DpAll K (hide F cs) vs ds
  | [], _, h => by cases h; exact .nil
  | d :: ds, _, h => by
    cases h with
    | cons h1 h2 => exact .cons (dp_hide c d _ h1) (dpAll_hide c ds _ h2)
end
theorem rvR_hide (c : Cells F cs) {v : V} {r : Rv} (n : noFnR r = true) (h : RvR K F al v r) : RvR K (hide F cs) al v r := by
  cases r with
  | dat d => exact dp_hide c _ _ h
  | own k => exact h
  | fn _ _ => cases n
  | fns _ => cases n
  | exv => cases n
theorem rvAll_hide (c : Cells F cs) : ∀ {vs : List V} {rs : List Rv}, rs.all noFnR = true → RvAll K F al vs rs → RvAll K (hide F cs) al vs rs
  | _, _, _, .nil => .nil
  | _, _, n, .cons r t => by
    simp only [List.all_cons, Bool.and_eq_true] at n
    exact .cons (rvR_hide c n.1 r) (rvAll_hide c n.2 t)
theorem kvR_hide {κ : Type} (c : Cells F cs) : ∀ {vs : List (κ × V)} {rs : List (κ × Rv)}, (rs.all fun p => noFnR p.2) = true → KvR K F al vs rs → KvR K (hide F cs) al vs rs
  | _, _, _, .nil => .nil
  | _, _, n, .cons r t => by
    simp only [List.all_cons, Bool.and_eq_true] at n
    exact .cons (rvR_hide c n.1 r) (kvR_hide c n.2 t)
theorem ocOk_hide (cF : Cells F cs) (cH : Cells H cs) {a : Addr} {oc : Oc} (n : noFnO oc = true) (h : OcOk K F al H a oc) : OcOk K (hide F cs) al (hide H cs) a oc := by
  cases oc with
  | lst rs => obtain ⟨f, xs, e, q⟩ := h; exact ⟨hide_none f, xs, hide_of cH e fun ob z => (by cases z), rvAll_hide cF n q⟩
  | fz ds => obtain ⟨xs, e, q⟩ := h; exact ⟨xs, hide_of cF e fun ob z => (by cases z), dpAll_hide cF _ _ q⟩
  | dk kvs => obtain ⟨f, xs, e, q⟩ := h; exact ⟨hide_none f, xs, hide_of cH e fun ob z => (by cases z), kvR_hide cF n q⟩
  | dt kvs => obtain ⟨f, xs, e, q⟩ := h; exact ⟨hide_none f, xs, hide_of cH e fun ob z => (by cases z), kvR_hide cF n q⟩
  | ins m fs => obtain ⟨f, dx, xs, e, q⟩ := h; exact ⟨hide_none f, dx, xs, hide_of cH e fun ob z => (by cases z), kvR_hide cF n q⟩
  | fk kvs => obtain ⟨od, xs, e, q⟩ := h; exact ⟨od, xs, hide_of cF e fun ob z => (by cases z), kvR_hide cF n q⟩
  | ft kvs => obtain ⟨od, xs, e, q⟩ := h; exact ⟨od, xs, hide_of cF e fun ob z => (by cases z), kvR_hide cF n q⟩
  | ltab =>
    obtain ⟨h0, f, ps, e, h3, h4⟩ := h
    refine ⟨h0, hide_none f, ps, hide_of cH e fun ob z => (by cases z), h3, fun pos cv hc => ?_⟩
    obtain ⟨c, e1, e2⟩ := h4 pos cv hc
    exact ⟨c, e1, hide_of cF e2 fun ob z => by cases z⟩
  | any =>
    obtain ⟨o, e, h2, h3⟩ := h
    exact ⟨o, hide_of cH e h3, h2, h3⟩
theorem tb_hide {TT : Tt} {ob : List Oc} (t : Tb K TT al ob F H) (n : ob.all noFnO = true) (cF : Cells F cs) (cH : Cells H cs) : Tb K TT al ob (hide F cs) (hide H cs) where
  sub := fun b o e => by
    obtain ⟨nb, e'⟩ := hide_some e
    rw [hide_out nb]; exact t.sub b o e'
  tabs := fun P hP => by
    obtain ⟨⟨ps, e, q⟩, f⟩ := t.tabs P hP
    exact ⟨⟨ps, hide_of cH e fun ob z => (by cases z), q⟩, hide_none f⟩
  alen := t.alen
  objs := fun k a oc e1 e2 => ocOk_hide cF cH (List.all_eq_true.mp n oc (List.mem_of_getElem? e2)) (t.objs k a oc e1 e2)
  anod := t.anod
  atab := t.atab
theorem same_show {F' H' : Hp} (s : Same F' H') (n : ∀ c ∈ cs, H' c = none) : Same F' (shw F F' cs) := fun b o e => by
  have nb : b ∉ cs := fun hb => by
    have z := s b o e
    rw [n b hb] at z; cases z
  rw [shw_out nb]; exact e
theorem gf_show {TT : Tt} {F' H' : Hp} {al' : List Addr} {ob' : List Oc} (h : GF K TT (hide F cs) al (hide H cs) F' al' H' ob') (s : Same F H) (cH : Cells H cs) (n : ∀ c ∈ cs, H' c = none) (na : ∀ p, H' p = none → p ∉ al') : GF K TT F al H (shw F F' cs) al' (shw H H' cs) ob' where
  t := {
    sub := fun b o e => by
      by_cases hb : b ∈ cs
      · rw [shw_in hb] at e ⊢; exact s b o e
      · rw [shw_out hb] at e ⊢; exact h.t.sub b o e
    tabs := fun P hP => by
      obtain ⟨⟨ps, e, q⟩, f⟩ := h.t.tabs P hP
      have nb : P ∉ cs := fun hb => by rw [n P hb] at e; cases e
      exact ⟨⟨ps, by rw [shw_out nb]; exact e, q⟩, by rw [shw_out nb]; exact f⟩
    alen := h.t.alen
    objs := fun k a oc e1 e2 => by
      have nb : H' a ≠ none → a ∉ cs := fun hn hb => hn (n a hb)
      exact (h.t.objs k a oc e1 e2).mono (TT := TT) ⟨same_show h.t.sub n, List.prefix_rfl⟩ (fun hn _ => shw_out (nb hn)) (h.t.atab a (List.mem_of_getElem? e1)) fun hn _ hz => by rw [shw_out (nb hn)]; exact hz
    anod := h.t.anod
    atab := h.t.atab }
  f := fun b o e => by
    by_cases hb : b ∈ cs
    · rw [shw_in hb]; exact e
    · rw [shw_out hb]; exact h.f b o ((hide_out hb).trans e)
  a := h.a
  keep := fun b o e nt nb => by
    by_cases hb : b ∈ cs
    · rw [shw_in hb]; exact e
    · rw [shw_out hb]; exact h.keep b o ((hide_out hb).trans e) nt nb
  new := fun b e => by
    by_cases hb : b ∈ cs
    · rw [shw_in hb] at e; exact .inl e
    · rw [shw_out hb] at e
      rcases h.new b e with z | z | z
      · rw [hide_out hb] at z; exact .inl z
      · refine .inr (.inl ?_)
        unfold Im at z ⊢
        rw [hide_out hb] at z; exact z
      · exact .inr (.inr z)
  anew := fun b e => by
    have hb : b ∉ cs := fun hb => na b (n b hb) e
    rcases h.anew b e with z | z
    · rw [hide_out hb] at z; exact .inl z
    · exact .inr z
theorem capAll_len : ∀ {vs : List V} {caps : List Cap}, CapAll K F al vs caps → vs.length = caps.length
  | _, _, .nil => rfl
  | _, _, .cons _ t => by simp [capAll_len t]
theorem capAll_get : ∀ {vs : List V} {caps : List Cap} {i : Nat} {c : Cap}, CapAll K F al vs caps → caps[i]? = some c → ∃ v, vs[i]? = some v ∧ CapR K F al v c
  | _, _, _, _, .nil, e => by simp at e
  | _, _, 0, _, .cons r _, e => by simp at e; subst e; exact ⟨_, rfl, r⟩
  | _, _, i + 1, d, .cons _ t, e => by
    obtain ⟨u, h1, h2⟩ := capAll_get (i := i) (c := d) t (by simpa using e)
    exact ⟨u, by simpa using h1, h2⟩
theorem capR_hide (c : Cells F cs) {v : V} {r : Cap} (h : CapR K F al v r) : RvR K (hide F cs) al v (capRv r) := by
  cases r with
  | inl d => exact dp_hide c _ _ h
  | inr k => exact h
end
def runL (fb : Nat → M Rv) (j : Nat) (caps : List Cap) (ob : List Oc) : GRes := match fb j { sl := caps.map fun c => some (capRv c), ob := ob } with
  | .ok r e => .ok r e.ob
  | .exc x e => .exc x e.ob
  | .bad => .bad
def callFn (i : Nat) (fb : Nat → M Rv) : M Rv := fun en => match en.sl[i]? with
  | some (some (.fn j caps)) => if en.ob.all noFnO = true then (match runL fb j caps en.ob with
    | .ok r ob' => .ok r { en with ob := ob' }
    | .exc x ob' => .exc x { en with ob := ob' }
    | .bad => .bad) else .bad
  | _ => .bad
section
variable {X : Cx} {TT : Tt} {W : WX} {k i : Nat} {a : Str} {p1 p2 : Pos} {fb : Nat → M Rv}
theorem pd_fn (hr : Room (k + 1) X.A) (hx : ∀ σ, PassesAt (L2.CX X.prog X.w) X σ (WE W σ)) (LO : ∀ j, LamOk (Lams.of j))
    (hb : ∀ (j : Nat) (s : Shared) (H : Hp) (E : XK) (f c' : Addr) (clo : List (Str × Addr)), Room k (X.A.deeper (lamEv (Lams.of j) s.heap.objs.size f c' clo)) → PD (lamCy X.prog X.w X.K X.mg X.base X.A X.stack s H E (Lams.of j) f c' clo) TT (fun cls d _ H => E cls d H) (Lams.of j).body (fb j))
    (hN : X.N[i]? = some a := by rfl) (hv : Vis X.env.scope a := by exact Or.inl rfl) (hd : (a == ("__debug__" : Str)) = false := by decide) (hcd : (a == ("__classdict__" : Str)) = false := by decide) :
    PD X TT W (.Call (.Name a p1) [] [] p2) (callFn i fb) := by
  refine ⟨⟨_, pe_fnC (W := W) hr hx hN hv hd hcd, fun g al en F σ H Q s h => ?_⟩⟩
  unfold callFn at h
  split at h
  · rename_i j caps es
    split at h
    · rename_i hno
      obtain ⟨v, e1, f, rfl, c', clo, vs, h1, h2, h3, h4, h5, h6, h7⟩ := s.slots i _ es
      refine ⟨f, c', Lams.of j, clo, vs, e1, s.sub _ _ h1, s.sub _ _ h2, LO j, h3, h4, h5, fun i p v e1 e2 => ?_, fun s0 hr' => ?_⟩
      · obtain ⟨o, w, z1, z2⟩ := h6 i p v e1 e2
        exact ⟨o, w, s.sub _ _ z1, z2⟩
      · generalize hcs : clo.map (·.2) = cs at *
        have cF : Cells F cs := fun c hm => by
          rw [← hcs] at hm
          obtain ⟨p, hp, rfl⟩ := List.mem_map.mp hm
          obtain ⟨j, hj, ej⟩ := List.getElem_of_mem hp
          have hj2 : j < vs.length := by rw [h5]; exact hj
          obtain ⟨o, w, z1, z2, _⟩ := h6 j p vs[j] (by rw [List.getElem?_eq_getElem hj, ej]) (List.getElem?_eq_getElem hj2)
          exact ⟨o, w, z1, z2⟩
        have cH : Cells H cs := fun c hm => by
          obtain ⟨o, w, z1, z2⟩ := cF c hm
          exact ⟨o, w, s.sub _ _ z1, z2⟩
        obtain ⟨⟨t, pt, q⟩⟩ := hb j s0 (hide H cs) (fun cls d H' => (∀ c ∈ cs, H' c = none) → W cls d σ (shw H H' cs)) f c' clo hr'
        have tb := tb_hide s.tb hno cF cH
        have s1 : Sv X.K TT ⟨hide F cs, hide H cs, fun b => b ∈ al⟩ al { sl := caps.map fun c => some (capRv c), ob := en.ob } (hide F cs) (vs.map some) (hide H cs) := {
          sub := tb.sub
          frF := Same.refl _
          nF := fun b hb => .inl hb
          frame := fun b o e _ _ => e
          tabs := tb.tabs
          len := by simp [capAll_len h7]
          slots := fun i r e => by
            rw [List.getElem?_map] at e
            cases qc : caps[i]? with
            | none => rw [qc] at e; cases e
            | some c =>
              rw [qc] at e
              have e' : capRv c = r := Option.some.inj (Option.some.inj e)
              subst e'
              obtain ⟨v, z1, z2⟩ := capAll_get h7 qc
              exact ⟨v, by rw [List.getElem?_map, z1]; rfl, (capR_hide cF z2).sl⟩
          alen := tb.alen
          objs := tb.objs
          anew := fun k a e => .inr (List.mem_of_getElem? e)
          bin := fun b hb => hb
          anod := tb.anod
          atab := tb.atab }
        refine ⟨t, pt, q _ al _ (hide F cs) (vs.map some) (hide H cs) _ s1 ?_⟩
        unfold runL at h
        cases qf : fb j { sl := caps.map fun c => some (capRv c), ob := en.ob } with
        | bad => rw [qf] at h; exact h.elim
        | ok r e =>
          rw [qf] at h
          intro F' al' H' l2 s2 v hv hn
          have gf := gf_show (s2.toGF l2.a) s.sub cH hn fun p hp => s2.na hp
          exact h (shw F F' cs) al' (shw H H' cs) gf.le (s.gf gf) v (hv.mono ⟨same_show s2.sub hn, List.prefix_rfl⟩)
        | exc x e =>
          rw [qf] at h
          intro F' al' H' cls dO l2 s2 hx hn
          have gf := gf_show (s2.toGF l2.a) s.sub cH hn fun p hp => s2.na hp
          exact h (shw F F' cs) al' (shw H H' cs) cls dO gf.le (s.gf gf) (hx.mono (same_show s2.sub hn))
    · exact h.elim
  · exact h.elim
/-- what leaves a lambda -/
theorem takes_lam {P : Program} {w : World} {K : PySem.W.Frag} {mg : Str → Option Value} {base : Heap} {A : Around} {outer : List Env} {s : Shared} {H : Hp} {E : XK} {L : LamD} {f c' : Addr} {clo : List (Str × Addr)} : Takes (lamCy P w K mg base A outer s H E L f c' clo) (fun cls d _ H => E cls d H) := takes_of rfl rfl rfl rfl
end
end Pd

namespace Pd
open PySem PySem.Spec PyProof.Rows L2
variable [Lams]
/-! ## a lambda is made -/
structure Gw (P : Addr) (H H1 : Hp) : Prop where
  old : ∀ b, b ≠ P → H b ≠ none → H1 b = H b
  new : ∀ b, b ≠ P → H b = none → H1 b = none ∨ ∃ φ, H1 b = some (.ext φ)
theorem Gw.refl (P : Addr) (H : Hp) : Gw P H H := ⟨fun _ _ _ => rfl, fun _ _ h => .inl h⟩
/-- the table at P: its code objects bear the name q, and Z -/
def TabZ (H : Hp) (P : Addr) (q : Str) (Z : Addr → Prop) : Prop := ∃ ps : Array Value, H P = some (.tbl ps) ∧ TriplesOk ps.toList ∧ ∀ (pos : Pos) (cv : Value), codeAmong pos ps.toList = some cv → ∃ c, cv = .ref c ∧ H c = some (LamX.CodeO c q) ∧ Z c
def tLamF (P : Addr) (L : LamD) (clo : List (Str × Addr)) : TE := fun σ H Q => ∃ Z : Addr → Prop, (∀ c, H c = none → Z c) ∧ TabZ H P L.qual Z ∧
  ∀ (f c' : Addr) (H1 : Hp), Gw P H H1 → TabZ H1 P L.qual Z → f ≠ P → H f = none → H1 f = some (FunO L f c' clo) → H1 c' = some (LamX.CodeO c' L.qual) → Z c' → Q (.ref f) H1
theorem funO_ok {P : Program} {w : World} {H : Hp} {h : Heap} {L : LamD} {f c' : Addr} {clo : List (Str × Addr)} {pm ctv : Value} (e : h.get? f = some (PySem.W.kla_obj "<lambda>" L.qual L.params L.body L.scope clo pm c' ctv)) : ObjOk P w H h f (FunO L f c' clo) :=
  ⟨⟨pm, ctv, e⟩, ⟨_, e⟩, fun h1 h2 z k => by
    obtain ⟨pm, ctv, e⟩ := z
    exact ⟨pm, ctv, k _ e⟩⟩
section
variable {X : Cx} {pos : Pos} {c P : Addr} {L : LamD} {clo : List (Str × Addr)}
theorem pe_lamF (TB : LamX.TabB X.base X.mg c P) (hcode : X.env.code = .ref c) (hq : L.qual = X.env.qual ++ "<lambda>") (hdef : defaultsOf L.params X.env = ([], [])) (hfr : ∀ y ∈ L.scope.names, y.2 = .free → X.env.scope.names.lookup y.1 = some .cell)
    (hclo : cloFrom X.env.cells L.scope.names [] = clo) : PE X (.Lambda L.params L.body L.scope pos) (tLamF P L clo) := by
  refine ⟨fun pins s σ H Q I h => ?_⟩
  obtain ⟨Z, hZ, ⟨ps, hP, ht, ha⟩, h⟩ := h
  have hfree : ∀ y ∈ L.scope.names, y.2 = .free → ∃ c, X.env.cells.lookup y.1 = some c := fun y hy e => I.ok.has _ (.inl (hfr y hy e))
  refine PySem.W.kla_eval hdef ?_
  rw [← hq]
  have bP : s.heap.BuiltinsAt X.mg P := TB.bm.keeps I.bk
  have hP' : s.heap.get? P = some { cls := .none, data := .fields ps } := I.hok P _ hP
  have nP : ∀ {b : Addr} {o : HO}, H b = some o → (∀ q, o ≠ .tbl q) → b ≠ P := fun {b o} e n z => by
    rw [z, hP] at e
    exact n ps (Option.some.inj e).symm
  cases hc : codeAmong pos ps.toList with
  | none =>
    refine PySem.W.kla_makeFunction (mg := X.mg) (c := c) (P := P) (ps := ps) (closure_ok hfree) I.ok.glob (I.mod.glob.keeps I.bk) hcode (TB.code.keeps I.bk) hP' ht hc TB.gP bP fun c' ctv h' tk hx hge hlt hrec htb => ?_
    rw [hclo]
    obtain ⟨c2, oc, vs, t, e2, hoc, hd, hv⟩ := hrec
    cases e2
    have hsz : s.heap.objs.size ≤ h'.objs.size := Nat.le_trans hge (Nat.le_of_lt hlt)
    have nC : H c' = none := I.hok.fresh hge
    have nF : H h'.objs.size = none := I.hok.fresh hsz
    have ePc : P ≠ c' := ne_of_none hP nC
    have ePf : P ≠ h'.objs.size := ne_of_none hP nF
    have eCf : c' ≠ h'.objs.size := Nat.ne_of_lt hlt
    have I1 := LamX.inv_table (t' := tk) (q := L.qual) (more := #[rawInt pos.line, rawInt pos.col, .ref c']) (h' := h') I hP (fun b o hb e => hx b o hb e) htb hge ⟨oc, vs, t, hoc, hd, hv⟩
    have I2 := I1.laid (t' := tk) (a := h'.objs.size) (o := FunO L h'.objs.size c' clo) (h' := h'.push (PySem.W.kla_obj "<lambda>" L.qual L.params L.body L.scope clo ((X.mg "__name__").getD .none) c' ctv)) (fun b o e => Heap.get?_push_of_some _ e) (Nat.le_refl _) (funO_ok (Heap.get?_push_size _ rfl))
    have at_ : ∀ b, b ≠ P → H b ≠ none → upd (upd (upd H P (.tbl (ps ++ #[rawInt pos.line, rawInt pos.col, .ref c']))) c' (LamX.CodeO c' L.qual)) h'.objs.size (FunO L h'.objs.size c' clo) b = H b := fun b h1 h2 => by
      rw [upd_ne (fun z => h2 (by rw [z]; exact nF)), upd_ne (fun z => h2 (by rw [z]; exact nC)), upd_ne h1]
    have eL : (ps ++ #[rawInt pos.line, rawInt pos.col, .ref c']).toList = ps.toList ++ [rawInt pos.line, rawInt pos.col, .ref c'] := by simp
    refine ⟨.ref h'.objs.size, _, I2, rfl, h h'.objs.size c' _ ⟨at_, fun b h1 h2 => ?_⟩ ?_ (Ne.symm ePf) nF upd_same (by rw [upd_ne eCf, upd_same]) (hZ _ nC)⟩
    · by_cases hb : b = h'.objs.size
      · rw [hb, upd_same]; exact .inr ⟨_, rfl⟩
      · rw [upd_ne hb]
        by_cases hb2 : b = c'
        · rw [hb2, upd_same]; exact .inr ⟨_, rfl⟩
        · rw [upd_ne hb2, upd_ne h1]; exact .inl h2
    · refine ⟨_, by rw [upd_ne ePf, upd_ne ePc, upd_same], by rw [eL]; exact PySem.TriplesOk_snoc _ _ _ _ ht, fun p' cv hcv => ?_⟩
      rw [eL] at hcv
      rcases LamX.among_app _ ht hcv with z | z
      · obtain ⟨c0, e1, e2, e3⟩ := ha p' cv z
        exact ⟨c0, e1, (at_ c0 (nP e2 LamX.codeO_ne) (by rw [e2]; intro z; cases z)).trans e2, e3⟩
      · exact ⟨c', z, by rw [upd_ne eCf, upd_same], hZ _ nC⟩
  | some cv =>
    obtain ⟨c', e, hco, hzc⟩ := ha pos cv hc
    subst e
    refine PySem.W.kla_makeFunctionHit (mg := X.mg) (c := c) (P := P) (ps := ps) (closure_ok hfree) I.ok.glob (I.mod.glob.keeps I.bk) hcode (TB.code.keeps I.bk) hP' ht hc bP fun ctv h' tk hx hsz => ?_
    rw [hclo]
    have nF : H h'.objs.size = none := I.hok.fresh hsz
    have ePf : P ≠ h'.objs.size := ne_of_none hP nF
    have eCf : c' ≠ h'.objs.size := ne_of_none hco nF
    have I2 := I.laid (t' := tk) (a := h'.objs.size) (o := FunO L h'.objs.size c' clo) (h' := h'.push (PySem.W.kla_obj "<lambda>" L.qual L.params L.body L.scope clo ((X.mg "__name__").getD .none) c' ctv)) (fun b o e => Heap.get?_push_of_some _ (hx b o e)) hsz (funO_ok (Heap.get?_push_size _ rfl))
    refine ⟨.ref h'.objs.size, _, I2, rfl, h h'.objs.size c' _ ⟨fun b h1 h2 => upd_ne fun z => h2 (by rw [z]; exact nF), fun b h1 h2 => ?_⟩ ?_ (Ne.symm ePf) nF upd_same (by rw [upd_ne eCf]; exact hco) hzc⟩
    · by_cases hb : b = h'.objs.size
      · rw [hb, upd_same]; exact .inr ⟨_, rfl⟩
      · rw [upd_ne hb]; exact .inl h2
    · refine ⟨ps, by rw [upd_ne ePf]; exact hP, ht, fun p' cv hcv => ?_⟩
      obtain ⟨c0, e1, e2, e3⟩ := ha p' cv hcv
      exact ⟨c0, e1, by rw [upd_ne (ne_of_none e2 nF)]; exact e2, e3⟩
end
/-! ## a def's body whose slots are told at its return -/
def RunsR (X : Cx) (sts : List Stmt) (t : L2.St → Hp → (V → L2.St → Hp → Prop) → Prop) : Prop := ∀ (pins : List (Addr × Obj)) (s : Shared) (σ : L2.St) (H : Hp) (R : V → L2.St → Hp → Prop), Inv X pins σ H s → t σ H R →
  wpAny (model X.prog X.w) X.A (execs sts X.env) (fun fl s' => ∃ u v σ' H', fl = .ret u ∧ Inv X pins σ' H' s' ∧ L2.RelV v u ∧ R v σ' H') X.xe s
section
variable {X : Cx} {st : Stmt} {rest : List Stmt} {t : TS} {u : L2.St → Hp → (V → L2.St → Hp → Prop) → Prop} {i : Nat} {acc : Str} {p pos apos cpos : Pos}
def tR1 (t : TS) (u : L2.St → Hp → (V → L2.St → Hp → Prop) → Prop) : L2.St → Hp → (V → L2.St → Hp → Prop) → Prop := fun σ H R => t { nx := fun σ' H' => u σ' H' R, rt := fun _ _ => False } σ H
theorem rr_cons (h : PS X st t) (hr : RunsR X rest u) : RunsR X (st :: rest) (tR1 t u) := by
  intro pins s σ H R I hh
  refine wpAny_execs_cons (thn (h.run pins s σ H _ I hh) fun f s1 q => ?_)
  cases f with
  | next =>
    obtain ⟨σ', H', I', q2⟩ := q
    exact hr pins s1 σ' H' R I' q2
  | ret v =>
    obtain ⟨_, _, _, _, _, q⟩ := q
    exact q.elim
  | brk =>
    obtain ⟨_, _, _, q⟩ := q
    exact q.elim
  | cont =>
    obtain ⟨_, _, _, q⟩ := q
    exact q.elim
theorem rr_ret {e : Expr} {te : TE} (he : PE X e te) : RunsR X [.Return (some e) pos] (fun σ H R => te σ H fun v H' => R v σ H') := by
  intro pins s σ H R I hh
  refine wpAny_execs_cons (wpAny_Return_some (thn (he.run pins s σ H _ I hh) fun v s1 ⟨x, H1, I1, r1, q1⟩ => ?_))
  exact ⟨v, x, σ, H1, rfl, I1, r1, q1⟩
/-- acc.append(lambda: ..), .., return acc -/
def tApps (K : PySem.W.Frag) (i : Nat) (P : Addr) : List (LamD × List (Str × Addr)) → L2.St → Hp → (V → L2.St → Hp → Prop) → Prop
  | [] => fun σ H R => tVar i σ H fun v H' => R v σ H'
  | p :: r => tR1 (tDrop (tBM K "list" rAppend (tVar i) (tCons (tLamF P p.1 p.2) tNil))) (tApps K i P r)
theorem rr_apps0 {P : Addr} (hN : X.N[i]? = some acc) (hv : Vis X.env.scope acc) (hd : (acc == ("__debug__" : Str)) = false := by decide) (hcd : (acc == ("__classdict__" : Str)) = false := by decide) : RunsR X [.Return (some (.Name acc p)) pos] (tApps X.K i P []) := rr_ret (pe_var hN hv hd hcd)
theorem rr_app {P : Addr} {e : Expr} {L : LamD} {clo : List (Str × Addr)} {r : List (LamD × List (Str × Addr))} (he : PE X e (tLamF P L clo)) (hr : RunsR X rest (tApps X.K i P r)) (hN : X.N[i]? = some acc) (hv : Vis X.env.scope acc)
    (hbase : attributeBase (.Name acc p) "append" X.env (eval (.Name acc p) X.env) = eval (.Name acc p) X.env := by rfl)
    (hfew : ((backTo cpos (starEach [e] X.env)).all (fun x => !x.1) && (backToKw cpos (keywordEach [] X.env)).all (fun x => x.1.isSome)
      && decide (([e] : List Expr).length + ([] : List Keyword).length + (if ([] : List Keyword).isEmpty then 0 else 1) < 30)) = true := by rfl)
    (hline : (apos.endLine == cpos.line) = true := by rfl) (hs : starEach [e] X.env = (false, eval e X.env) :: starEach [] X.env := by rfl) (hplain : (backTo cpos (starEach [] X.env)).any (·.1) = false := by rfl)
    (hsw : swapsWith (.Call (.Attribute (.Name acc p) "append" apos) [e] [] cpos) none pos.line X.env = pure false := by rfl)
    (hd : (acc == ("__debug__" : Str)) = false := by decide) (hcd : (acc == ("__classdict__" : Str)) = false := by decide) :
    RunsR X (.Expr (.Call (.Attribute (.Name acc p) "append" apos) [e] [] cpos) pos :: rest) (tApps X.K i P ((L, clo) :: r)) :=
  rr_cons (ps_expr (pe_bm PySem.F.plainAttrs_list PySem.F.slot_list_append PySem.F.type_list_append mt_append (pe_var hN hv hd hcd) (pa_cons he pa_nil hs) hbase hfew hline hs hplain) hsw) hr
/-- text; acc = []; .. -/
def tWk (K : PySem.W.Frag) (i : Nat) (P : Addr) (cl : List (LamD × List (Str × Addr))) : L2.St → Hp → (V → L2.St → Hp → Prop) → Prop := fun σ H R => ∀ D, H D = none → tApps K i P cl (σ.set i (some (.ref D))) (upd H D (.lst [])) R
theorem rr_works {P : Addr} {cl : List (LamD × List (Str × Addr))} {doc : Str} {j : Nat} {p0 p1 p2 p3 p4 : Pos} {q : Nat} (hr : RunsR X rest (tApps X.K i P cl)) (hN : X.N.Nodup) (hi : X.N[i]? = some acc) (hx : Loc X.env.scope acc) (hf : X.fn acc = true ∨ X.env.scope.names.lookup acc = some .local)
    (hw : swapsWith (.Constant (.str doc) j p0) none p1.line X.env = pure false := by rfl) (hs : swapsWith (.List [] p3) (some (.Name acc p2)) p4.line X.env = pure false := by rfl) :
    RunsR X (.Expr (.Constant (.str doc) j p0) p1 :: .Assign [.Name acc p2] (.List [] p3) p4 :: rest) (tWk X.K i P cl) := by
  intro pins s σ H R I hh
  refine rr_cons (ps_expr pe_str hw) (rr_cons (ps_set hN hi hx (pe_lst pa_nil) hs hf) hr) pins s σ H R I ?_
  show ([] : List V).length ≤ sizeLine ∧ ∀ p, H p = none → tApps X.K i P cl (σ.set i (some (.ref p))) (upd H p (.lst [])) R
  exact ⟨Nat.zero_le _, hh⟩
end
/-! ## what the body leaves -/
structure GwD (P D : Addr) (H H1 : Hp) : Prop where
  old : ∀ b, b ≠ P → H b ≠ none → H1 b = H b
  new : ∀ b, b ≠ P → b ≠ D → H b = none → H1 b = none ∨ ∃ φ, H1 b = some (.ext φ)
inductive Made (P D : Addr) (H0 H : Hp) (Z : Addr → Prop) : List V → List (LamD × List (Str × Addr)) → Prop
  | nil : Made P D H0 H Z [] []
  | cons {f c' : Addr} {p : LamD × List (Str × Addr)} {vs : List V} {cl : List (LamD × List (Str × Addr))} : f ≠ P → f ≠ D → H0 f = none → H f = some (FunO p.1 f c' p.2) → H c' = some (LamX.CodeO c' p.1.qual) → c' ≠ P → c' ≠ D → Z c' → Made P D H0 H Z vs cl → Made P D H0 H Z (.ref f :: vs) (p :: cl)
theorem Made.mono {P D : Addr} {H0 H H' : Hp} {Z : Addr → Prop} (k : ∀ b, b ≠ P → b ≠ D → H b ≠ none → H' b = H b) : ∀ {vs : List V} {cl : List (LamD × List (Str × Addr))}, Made P D H0 H Z vs cl → Made P D H0 H' Z vs cl
  | _, _, .nil => .nil
  | _, _, .cons h1 h2 h3 h4 h5 h6 h7 h8 t => .cons h1 h2 h3 ((k _ h1 h2 (by rw [h4]; intro z; cases z)).trans h4) ((k _ h6 h7 (by rw [h5]; intro z; cases z)).trans h5) h6 h7 h8 (Made.mono k t)
theorem Made.snoc {P D : Addr} {H0 H : Hp} {Z : Addr → Prop} {f c' : Addr} {p : LamD × List (Str × Addr)} (h1 : f ≠ P) (h2 : f ≠ D) (h3 : H0 f = none) (h4 : H f = some (FunO p.1 f c' p.2)) (h5 : H c' = some (LamX.CodeO c' p.1.qual)) (h6 : c' ≠ P) (h7 : c' ≠ D) (h8 : Z c') :
    ∀ {vs : List V} {cl : List (LamD × List (Str × Addr))}, Made P D H0 H Z vs cl → Made P D H0 H Z (vs ++ [.ref f]) (cl ++ [p])
  | _, _, .nil => .cons h1 h2 h3 h4 h5 h6 h7 h8 .nil
  | _, _, .cons a1 a2 a3 a4 a5 a6 a7 a8 t => .cons a1 a2 a3 a4 a5 a6 a7 a8 (Made.snoc h1 h2 h3 h4 h5 h6 h7 h8 t)
theorem Made.len {P D : Addr} {H0 H : Hp} {Z : Addr → Prop} : ∀ {vs : List V} {cl : List (LamD × List (Str × Addr))}, Made P D H0 H Z vs cl → vs.length = cl.length
  | _, _, .nil => rfl
  | _, _, .cons _ _ _ _ _ _ _ _ t => by simp [Made.len t]
theorem tApps_ok {K : PySem.W.Frag} {i : Nat} {P D : Addr} {q : Str} {Z : Addr → Prop} {H0 : Hp} {σ : L2.St} {R : V → L2.St → Hp → Prop} (hs : σ[i]? = some (some (.ref D))) (hD0 : H0 D = none) (hDP : D ≠ P) (hZ : ∀ c, H0 c = none → Z c) :
    ∀ (cl cl0 : List (LamD × List (Str × Addr))) (H : Hp) (us : List V), (∀ p ∈ cl, p.1.qual = q) → H D = some (.lst us) → GwD P D H0 H → TabZ H P q Z → Made P D H0 H Z us cl0 → cl0.length + cl.length ≤ 1000 →
      (∀ (H' : Hp) (us' : List V), GwD P D H0 H' → TabZ H' P q Z → H' D = some (.lst us') → Made P D H0 H' Z us' (cl0 ++ cl) → R (.ref D) σ H') → tApps K i P cl σ H R
  | [], cl0, H, us, _, hD, hg, ht, hm, _, hR => ⟨.ref D, hs, hR H us hg ht hD (by rw [List.append_nil]; exact hm)⟩
  | p :: cl, cl0, H, us, hq, hD, hg, ht, hm, hlen, hR => by
    have hqp := hq p List.mem_cons_self
    have hn0 : ∀ c, c ≠ P → H c = none → H0 c = none := fun c hc e => by
      cases q : H0 c with
      | none => rfl
      | some o =>
        have z := hg.old c hc (by rw [q]; intro z; cases z)
        rw [e, q] at z; cases z
    have hPn : H P ≠ none := by
      obtain ⟨ps, e, _⟩ := ht
      rw [e]; intro z; cases z
    refine ⟨.ref D, hs, .inl ⟨rfl, us, .of hD⟩, Z, fun c e => hZ c (hn0 c (fun z => hPn (z ▸ e)) e), by rw [hqp]; exact ht, fun f c' H1 gw ht1 hfP hf0 hf1 hc1 hzc => ?_⟩
    rw [hqp] at ht1
    have hDn : H D ≠ none := by rw [hD]; intro z; cases z
    have hD1 : H1 D = some (.lst us) := (gw.old D hDP hDn).trans hD
    have hfD : f ≠ D := fun z => hDn (z ▸ hf0)
    have hcP : c' ≠ P := fun z => by
      obtain ⟨ps, e, _⟩ := ht1
      rw [z, e] at hc1; cases hc1
    have hcD : c' ≠ D := fun z => by rw [z, hD1] at hc1; cases hc1
    refine ⟨D, us, .ref f, rfl, rfl, hD1, ?_, ?_⟩
    · have := hm.len
      have e : sizeLine = 2000000 ∨ 1000 < sizeLine := .inr (by rw [sizeLine_eq]; decide)
      simp only [List.length_cons] at hlen
      rcases e with e | e <;> omega
    · show tApps K i P cl σ (upd H1 D (.lst (us ++ [.ref f]))) R
      have k1 : ∀ b, b ≠ P → b ≠ D → H b ≠ none → upd H1 D (.lst (us ++ [.ref f])) b = H b := fun b h1 h2 h3 => by rw [upd_ne h2]; exact gw.old b h1 h3
      refine tApps_ok hs hD0 hDP hZ cl (cl0 ++ [p]) _ (us ++ [.ref f]) (fun r hr => hq r (List.mem_cons_of_mem _ hr)) upd_same ⟨fun b h1 h2 => ?_, fun b h1 h2 h3 => ?_⟩ ?_ ?_ ?_ fun H' us' g' t' d' m' => hR H' us' g' t' d' (by rw [List.append_assoc] at m'; exact m')
      · have hbD : b ≠ D := fun z => h2 (by rw [z]; exact hD0)
        have e := hg.old b h1 h2
        rw [k1 b h1 hbD (by rw [e]; exact h2), e]
      · rw [upd_ne h2]
        rcases hg.new b h1 h2 h3 with z | ⟨φ, z⟩
        · exact gw.new b h1 z
        · exact .inr ⟨φ, (gw.old b h1 (by rw [z]; intro y; cases y)).trans z⟩
      · obtain ⟨ps, e1, e2, e3⟩ := ht1
        refine ⟨ps, by rw [upd_ne (Ne.symm hDP)]; exact e1, e2, fun pos cv hcv => ?_⟩
        obtain ⟨c0, z1, z2, z3⟩ := e3 pos cv hcv
        have : c0 ≠ D := fun z => by rw [z, hD1] at z2; cases z2
        exact ⟨c0, z1, by rw [upd_ne this]; exact z2, z3⟩
      · refine Made.snoc hfP hfD (hn0 f hfP hf0) (by rw [upd_ne hfD]; exact hf1) (by rw [upd_ne hcD]; exact hc1) hcP hcD hzc (hm.mono k1)
      · simp only [List.length_append, List.length_cons, List.length_nil] at hlen ⊢
        omega
end Pd

namespace Pd
open PySem PySem.Spec PyProof.Rows L2
variable [Lams]
/-! ## a def that gives a list of lambdas -/
def worksC (sel : List (Nat × List Nat)) (caps : List Cap) : List (Nat × List Cap) := sel.map fun p => (p.1, p.2.filterMap fun i => caps[i]?)
def spW (K : PySem.W.Frag) (TT : Tt) (PT : Addr) (n : Nat) (sel : List (Nat × List Nat)) : Sp := fun vs H Q E => ∃ (F : Hp) (al : List Addr) (ob : List Oc) (caps : List Cap), Tb K TT al ob F H ∧ al[0]? = some PT ∧ ob[0]? = some .ltab ∧ CapAll K F al vs caps ∧ vs.length = n ∧
  ∀ v F' H', GF K TT F al H F' al H' ob → RvR K F' al v (.fns (worksC sel caps)) → Q v H'
theorem nodup_snd2 {cells : List (Str × Addr)} (inj : ∀ x y c, cells.lookup x = some c → cells.lookup y = some c → x = y) : ∀ {clo : List (Str × Addr)}, (clo.map (·.1)).Nodup → (∀ p ∈ clo, cells.lookup p.1 = some p.2) → (clo.map (·.2)).Nodup
  | [], _, _ => List.nodup_nil
  | p :: r, h, hl => by
    have h2 : p.1 ∉ r.map (·.1) ∧ (r.map (·.1)).Nodup := List.nodup_cons.mp h
    refine List.nodup_cons.mpr ⟨fun hm => ?_, nodup_snd2 inj h2.2 fun q hq => hl q (List.mem_cons_of_mem _ hq)⟩
    obtain ⟨q, hq, e⟩ := List.mem_map.mp hm
    have e : q.2 = p.2 := e
    have z := inj p.1 q.1 p.2 (hl p List.mem_cons_self) (by rw [← e]; exact hl q (List.mem_cons_of_mem _ hq))
    exact h2.1 (by rw [z]; exact List.mem_map.mpr ⟨q, hq, rfl⟩)
theorem capAll_sel {K : PySem.W.Frag} {F : Hp} {al : List Addr} {vs : List V} {caps : List Cap} (h : CapAll K F al vs caps) : ∀ (is : List Nat), CapAll K F al (is.filterMap fun i => vs[i]?) (is.filterMap fun i => caps[i]?)
  | [] => .nil
  | i :: is => by
    have hl := capAll_len h
    cases q : caps[i]? with
    | none =>
      have q2 : vs[i]? = none := by
        rw [List.getElem?_eq_none_iff] at q ⊢
        omega
      rw [List.filterMap_cons_none q, List.filterMap_cons_none q2]
      exact capAll_sel h is
    | some c =>
      obtain ⟨v, e1, e2⟩ := capAll_get h q
      rw [List.filterMap_cons_some q, List.filterMap_cons_some e1]
      exact .cons e2 (capAll_sel h is)
theorem fm_get {α β : Type} {f : α → Option β} : ∀ {l : List α}, (∀ a ∈ l, (f a).isSome = true) → ∀ (i : Nat), (l.filterMap f)[i]? = (l[i]?).bind f
  | [], _, i => by simp
  | a :: l, h, i => by
    obtain ⟨b, e⟩ := Option.isSome_iff_exists.mp (h a List.mem_cons_self)
    rw [List.filterMap_cons_some e]
    cases i with
    | zero => simp [e]
    | succ i =>
      simp only [List.getElem?_cons_succ]
      exact fm_get (fun x hx => h x (List.mem_cons_of_mem _ hx)) i
section
variable {P : Program} {w : World} {K : PySem.W.Frag} {mg : Str → Option Value} {base : Heap} {TT : Tt} {x qual : Str} {params : Arguments} {body : List Stmt} {scope : Scope} {f : Addr} {fd : FuncData} {N ps : List Str} {k : Nat}
open Classical in
theorem okW {PT : Addr} {i : Nat} {sel : List (Nat × List Nat)} (Fd : FunD K x qual params body scope [] [] f fd) (S : FnScope N ps scope) (hi : ps.length ≤ i) (hiN : i < N.length) (LO : ∀ j, LamOk (Lams.of j)) (hs1 : ∀ p ∈ sel, ∀ n ∈ p.2, n < ps.length)
    (hnm : ∀ p ∈ sel, (Lams.of p.1).names = p.2.filterMap fun i => ps[i]?) (hcl : ∀ p ∈ sel, ∀ y ∈ (Lams.of p.1).names, scope.names.lookup y = some .cell) (hq : ∀ p ∈ sel, (Lams.of p.1).qual = Lams.q) (hlen : sel.length ≤ 1000)
    (hclo : ∀ (cells : List (Str × Addr)), ∀ p ∈ sel, (cloFrom cells (Lams.of p.1).scope.names []).map (·.1) = (Lams.of p.1).names)
    (hG : ∀ z E, Room k (z.2.1.deeper (envOfC qual scope z.2.2.2.1.heap.objs.size f z.1)) → z.1 = fd.code → RunsR (Cb P w K mg base N qual scope f z E) body (tWk K i PT (sel.map fun p => (Lams.of p.1, cloFrom (Cb P w K mg base N qual scope f z E).env.cells (Lams.of p.1).scope.names [])))) :
    FnOk P w K mg base (L2.CX P w) (k + 1) f fd ps (spW K TT PT ps.length sel) := by
  refine ⟨fun vs H Q E h => ?_, fun A outer s H args us vs Q E hr e0 hb r hsp => ?_⟩
  · obtain ⟨_, _, _, _, _, _, _, _, h, _⟩ := h
    exact h
  obtain ⟨oc, od, dV, kV, doc, pm, an, cdv, ct, osl, rfl, lk, hcd, _, _⟩ := Fd.ex
  obtain ⟨F, al, ob, caps, tb, hal, hob, hcaps, hl, hQ⟩ := hsp
  have KX : K.In s.heap := e0.mod.kin.keeps fun b o e => (e0.bs b o e).1
  have lim : s.heap.NoLimit := e0.mod.nolimit.keeps fun b o e => (e0.bs b o e).1
  have hkind : ∀ y ∈ ps.zip us, scope.names.lookup y.1 = some .local ∨ (scope.names.lookup y.1 = some .cell ∧ ((cellsFrom (s.heap.objs.size + 1) scope.names []).lookup y.1).isSome = true) := fun ⟨n, v⟩ hy => by
    rcases S.par n (List.of_mem_zip hy).1 with q | q
    · exact .inl q
    · exact .inr ⟨q, PySem.W.cellsFrom_some _ _ _ (.inl q)⟩
  refine codeAny_call_function hr.depth (KX _ _ lk) rfl S.co S.gen rfl (PySem.W.codeRec_of KX hcd) (hb _ _ _ _ ?_)
  refine wpAny_newFunctionEnv_cells S.kind hkind fun env he s1 xx => ?_
  subst he
  refine ⟨lim.keeps xx.toInCall.keep, codeAny_func ?_⟩
  have I : Inv (Cb P w K mg base N qual scope f (cdv, A, outer, s, H) E) [] (L2.start N vs) H s1 := inv_start S hr.hd e0 hl r xx
  -- the table of lambdas
  have oP := tb.objs 0 PT .ltab hal hob
  obtain ⟨ePT, fP, pt, hP, hPt, hPc⟩ := oP
  let Z : Addr → Prop := fun c => F c = some (LamX.CodeO c Lams.q) ∨ H c = none
  let cells := (Cb P w K mg base N qual scope f (cdv, A, outer, s, H) E).env.cells
  let cl := sel.map fun p => (Lams.of p.1, cloFrom cells (Lams.of p.1).scope.names [])
  let R : V → L2.St → Hp → Prop := fun v σ' H' => ∃ D us, v = V.ref D ∧ σ' = (L2.start N vs).set i (some (.ref D)) ∧ H D = none ∧ D ≠ PT ∧ GwD PT D H H' ∧ TabZ H' PT Lams.q Z ∧ H' D = some (.lst us) ∧ Made PT D H H' Z us cl
  have hR : tWk K i PT cl (L2.start N vs) H R := fun D hD => by
    have hDP : D ≠ PT := fun z => by rw [z, hP] at hD; cases hD
    have hlenS : i < (L2.start N vs).length := by
      unfold L2.start
      rw [List.length_append, List.length_map, List.length_replicate]
      omega
    refine tApps_ok (q := Lams.q) (Z := Z) (H0 := H) (List.getElem?_set_self hlenS) hD hDP (fun c hc => .inr hc) cl [] _ [] (fun p hp => ?_) upd_same ⟨fun b h1 h2 => upd_ne fun z => h2 (by rw [z]; exact hD), fun b h1 h2 h3 => .inl (by rw [upd_ne h2]; exact h3)⟩ ⟨pt, by rw [upd_ne (Ne.symm hDP)]; exact hP, hPt, fun pos cv hc => ?_⟩ .nil (by simpa [cl] using hlen) fun H' us g t d m => ⟨D, us, rfl, rfl, hD, hDP, g, t, d, m⟩
    · obtain ⟨p0, hp0, rfl⟩ := List.mem_map.mp hp
      exact hq p0 hp0
    · obtain ⟨c, e1, e2⟩ := hPc pos cv hc
      have e3 := tb.sub _ _ e2
      exact ⟨c, e1, by rw [upd_ne (ne_of_none e3 hD)]; exact e3, .inl e2⟩
  refine wpAny_mono (hG (cdv, A, outer, s, H) E (hr.deeper _) rfl [] s1 (L2.start N vs) H R I hR) (fun fl s' hs => ?_) fun e s' hs => hs
  obtain ⟨u, v, σ', H', rfl, J, rv, D, us, rfl, rfl, hD, hDP, hg, ht, hDl, hm⟩ := hs
  show CE outer P w H s Q u s'
  let InC : Addr → Prop := fun b => ∃ y, scope.names.lookup y = some .cell ∧ y ∈ ps ∧ cells.lookup y = some b
  have fC : ∀ {b}, InC b → H' b = none := fun {b} ⟨y, _, _, e⟩ => J.freeC y b e
  have szC : ∀ {b}, InC b → s.heap.get? b = none := fun {b} ⟨y, _, _, e⟩ => by
    have z := J.ok.cab y b rfl e
    cases q : s.heap.get? b with
    | none => rfl
    | some o => exact absurd (Heap.lt_size q) (Nat.not_lt.mpr z)
  have hH0 : ∀ {b}, InC b → H b = none := fun {b} hb => e0.hok.gone (szC hb)
  have hC : ∀ {b} {y} {j : Nat} {v : V}, scope.names.lookup y = some .cell → ps[j]? = some y → cells.lookup y = some b → vs[j]? = some v → ∃ (o : Obj) (u : Value), s'.heap.get? b = some o ∧ o.data = .cell (some u) ∧ L2.RelV v u := fun {b y j v} h1 h2 h3 h4 => by
    have hj : j < ps.length := (List.getElem?_eq_some_iff.mp h2).1
    obtain ⟨m, hns, hlk⟩ := J.loc
    have hN : N[j]? = some y := by
      have z : (N.take ps.length)[j]? = some y := by rw [S.pre]; exact h2
      rw [List.getElem?_take_of_lt hj] at z
      exact z
    have hσ : ((L2.start N vs).set i (some (.ref D)))[j]? = some (some v) := by
      rw [List.getElem?_set_ne (by omega)]
      unfold L2.start
      rw [List.getElem?_append_left (by simpa [hl] using hj), List.getElem?_map, h4]
      rfl
    obtain ⟨u, r, lo⟩ := hlk j y v hN hσ (.inr (.inl h1))
    rcases lo with ⟨k', _⟩ | ⟨_, c, e, o, ho, hd⟩
    · have k' : scope.names.lookup y = some .local := k'
      rw [h1] at k'; cases k'
    · have e : cells.lookup y = some c := e
      rw [h3] at e
      cases e
      exact ⟨o, u, ho, hd, r⟩
  have hCg : ∀ {b}, InC b → ∃ (o : Obj) (u : Value), s'.heap.get? b = some o ∧ o.data = .cell (some u) := fun {b} ⟨y, h1, h2, h3⟩ => by
    obtain ⟨j, hj, ej⟩ := List.getElem_of_mem h2
    have hj2 : j < vs.length := by rw [hl]; exact hj
    obtain ⟨o, u, z1, z2, _⟩ := hC h1 (by rw [List.getElem?_eq_getElem hj, ej]) h3 (List.getElem?_eq_getElem hj2)
    exact ⟨o, u, z1, z2⟩
  let H2 : Hp := fun b => if InC b then (s'.heap.get? b).map (fun o => HO.frz o (.own 0)) else H' b
  have h2i : ∀ {b}, InC b → ∀ {o}, s'.heap.get? b = some o → H2 b = some (.frz o (.own 0)) := fun {b} hb {o} e => by
    show (if InC b then _ else _) = _
    rw [if_pos hb, e]; rfl
  have h2o : ∀ {b}, ¬ InC b → H2 b = H' b := fun {b} hb => if_neg hb
  have nC : ∀ {b}, H' b ≠ none → ¬ InC b := fun {b} h hb => h (fC hb)
  have oldH : ∀ {b}, b ≠ PT → H b ≠ none → H2 b = H b := fun {b} h1 h2 => by
    have e := hg.old b h1 h2
    rw [h2o (nC (by rw [e]; exact h2)), e]
  have PTn : H' PT ≠ none := by
    obtain ⟨ps', e, _⟩ := ht
    rw [e]; intro z; cases z
  have hok2 : HOk P w H2 s'.heap := fun b o e => by
    by_cases hb : InC b
    · obtain ⟨ob', u', z1, z2⟩ := hCg hb
      rw [h2i hb z1] at e
      cases e
      exact ⟨z1, ob', z1⟩
    · rw [h2o hb] at e
      exact (J.hok b o e).stay (fun _ _ _ q => q) (fun c hc => by rw [h2o (nC (by rw [hc]; intro z; cases z))]; exact hc) fun c xs hc => by rw [h2o (nC (by rw [hc]; intro z; cases z))]; exact hc
  have unJ : Un (frs outer) [] H H' s.heap s'.heap := J.base
  have un2 : Un (frs outer) [] H H2 s.heap s'.heap := {
    keep := unJ.keep
    slot := unJ.slot
    free := fun b o e n hx => by
      have hb : ¬ InC b := fun hb => by rw [szC hb] at e; cases e
      rw [h2o hb]; exact unJ.free b o e n hx
    there := unJ.there
    tups := fun b xs e => by
      have z := unJ.tups b xs e
      rw [h2o (nC (by rw [z]; intro z; cases z))]; exact z
    frzs := fun b o u e => by
      have z := unJ.frzs b o u e
      rw [h2o (nC (by rw [z]; intro z; cases z))]; exact z
    tbls := fun b ps e => by
      obtain ⟨more, z⟩ := unJ.tbls b ps e
      exact ⟨more, by rw [h2o (nC (by rw [z]; intro z; cases z))]; exact z⟩ }
  -- what is frozen
  let F2 : Hp := fun b => if InC b then H2 b else if b = D then H' b else if b ≠ PT ∧ H b = none then H' b else F b
  have f2i : ∀ {b}, InC b → F2 b = H2 b := fun {b} hb => if_pos hb
  have f2D : F2 D = H' D := by
    show (if InC D then _ else _) = _
    rw [if_neg (nC (by rw [hDl]; intro z; cases z)), if_pos rfl]
  have f2n : ∀ {b}, ¬ InC b → b ≠ D → b ≠ PT → H b = none → F2 b = H' b := fun {b} h1 h2 h3 h4 => by
    show (if InC b then _ else _) = _
    rw [if_neg h1, if_neg h2, if_pos ⟨h3, h4⟩]
  have f2o : ∀ {b}, H b ≠ none → F2 b = F b := fun {b} h => by
    show (if InC b then _ else _) = _
    rw [if_neg (fun hb => h (hH0 hb)), if_neg (fun z => h (by rw [z]; exact hD)), if_neg (fun z => h z.2)]
  have f2P : F2 PT = none := by
    rw [f2o (by rw [hP]; intro z; cases z)]; exact fP
  have sameF : Same F F2 := fun b o e => by
    have z := tb.sub b o e
    rw [f2o (by rw [z]; intro y; cases y)]; exact e
  have ptal : PT ∈ al := List.mem_of_getElem? hal
  have gf : GF K TT F al H F2 al H2 ob := {
    t := {
      sub := fun b o e => by
        by_cases hb : InC b
        · rw [f2i hb] at e; exact e
        · by_cases hbD : b = D
          · subst hbD
            rw [f2D] at e
            rw [h2o hb]; exact e
          · by_cases hbP : b = PT
            · subst hbP
              rw [f2P] at e; cases e
            · cases q : H b with
              | none =>
                rw [f2n hb hbD hbP q] at e
                rw [h2o hb]; exact e
              | some o' =>
                have hn : H b ≠ none := by rw [q]; intro z; cases z
                rw [f2o hn] at e
                rw [oldH hbP hn]
                exact tb.sub b o e
      tabs := fun Q hQ2 => by
        obtain ⟨⟨qs, e, t⟩, fq⟩ := tb.tabs Q hQ2
        have hn : H Q ≠ none := by rw [e]; intro z; cases z
        have hQP : Q ≠ PT := fun z => tb.atab PT ptal (z ▸ hQ2)
        exact ⟨⟨qs, by rw [oldH hQP hn]; exact e, t⟩, by rw [f2o hn]; exact fq⟩
      alen := tb.alen
      objs := fun k a oc e1 e2 => by
        by_cases hk : k = 0
        · subst hk
          rw [hal] at e1
          rw [hob] at e2
          cases e1
          cases e2
          obtain ⟨ps', z1, z2, z3⟩ := ht
          refine ⟨ePT, f2P, ps', by rw [h2o (nC PTn)]; exact z1, z2, fun pos cv hc => ?_⟩
          obtain ⟨c, y1, y2, y3⟩ := z3 pos cv hc
          refine ⟨c, y1, ?_⟩
          have cC : ¬ InC c := nC (by rw [y2]; intro z; cases z)
          have cD : c ≠ D := fun z => by rw [z, hDl] at y2; cases y2
          have cP : c ≠ PT := fun z => by rw [z, z1] at y2; cases y2
          cases q : H c with
          | none => rw [f2n cC cD cP q]; exact y2
          | some o' =>
            rw [f2o (by rw [q]; intro z; cases z)]
            rcases y3 with y3 | y3
            · exact y3
            · rw [q] at y3; cases y3
        · have ne : a ≠ PT := fun z => hk (nodup_get tb.anod e1 (z ▸ hal))
          exact (tb.objs k a oc e1 e2).mono (TT := TT) ⟨sameF, List.prefix_rfl⟩ (fun hn _ => oldH ne hn) (tb.atab a (List.mem_of_getElem? e1)) fun hn _ hz => by rw [f2o hn]; exact hz
      anod := tb.anod
      atab := tb.atab }
    f := sameF
    a := List.prefix_rfl
    keep := fun b o e nt nb => by
      have ne : b ≠ PT := fun z => nb (z ▸ ptal)
      rw [oldH ne (by rw [e]; intro z; cases z)]; exact e
    new := fun b hb => by
      cases q : H b with
      | none => exact .inr (.inl (.inl q))
      | some o =>
        rw [f2o (by rw [q]; intro z; cases z)] at hb
        exact .inl hb
    anew := fun b hb => .inr hb }
  refine ⟨.ref D, H2, J.os, J.bare, un2, hok2, rv, hQ _ F2 H2 gf ⟨D, us, rfl, f2D.trans hDl, ?_⟩⟩
  -- the lambdas
  have one : ∀ (p : Nat × List Nat) (g c' : Addr), p ∈ sel → g ≠ PT → g ≠ D → H g = none → H' g = some (FunO (Lams.of p.1) g c' (cloFrom cells (Lams.of p.1).scope.names [])) → H' c' = some (LamX.CodeO c' (Lams.of p.1).qual) → c' ≠ PT → c' ≠ D → Z c' → FnAt K F2 al g p.1 (p.2.filterMap fun i => caps[i]?) := fun p g c' hp h1 h2 h3 h4 h5 h6 h7 h8 => by
    have LOp := LO p.1
    have hn1 := hclo cells p hp
    have hmem : ∀ q ∈ cloFrom cells (Lams.of p.1).scope.names [], cells.lookup q.1 = some q.2 := fun q hqm => by
      have hy : q.1 ∈ (Lams.of p.1).names := by rw [← hn1]; exact List.mem_map.mpr ⟨q, hqm, rfl⟩
      obtain ⟨c, hc⟩ := J.ok.has q.1 (.inl (hcl p hp q.1 hy))
      have hc : cells.lookup q.1 = some c := hc
      rcases cloFrom_mem (n := q.1) (c := q.2) hqm with z | ⟨_, z⟩
      · cases z
      · rw [hc] at z
        rw [hc, z]; rfl
    have hall : ∀ n ∈ p.2, (ps[n]?).isSome = true := fun n hn => by
      rw [List.getElem?_eq_getElem (hs1 p hp n hn)]; rfl
    have hallv : ∀ n ∈ p.2, (vs[n]?).isSome = true := fun n hn => by
      have : n < vs.length := by rw [hl]; exact hs1 p hp n hn
      rw [List.getElem?_eq_getElem this]; rfl
    have hlen2 : (p.2.filterMap fun i => vs[i]?).length = p.2.length ∧ (p.2.filterMap fun i => ps[i]?).length = p.2.length := by
      have key : ∀ {α : Type} (l : List α) (is : List Nat), (∀ n ∈ is, (l[n]?).isSome = true) → (is.filterMap fun i => l[i]?).length = is.length := by
        intro α l is
        induction is with
        | nil => intro _; rfl
        | cons a r ih =>
          intro h
          obtain ⟨b, e⟩ := Option.isSome_iff_exists.mp (h a List.mem_cons_self)
          rw [List.filterMap_cons_some e, List.length_cons, List.length_cons, ih fun n hn => h n (List.mem_cons_of_mem _ hn)]
      exact ⟨key vs p.2 hallv, key ps p.2 hall⟩
    have gC : ¬ InC g := nC (by rw [h4]; intro z; cases z)
    have cC : ¬ InC c' := nC (by rw [h5]; intro z; cases z)
    refine ⟨c', _, p.2.filterMap fun i => vs[i]?, (f2n gC h2 h1 h3).trans h4, ?_, hn1, nodup_snd2 (fun x y c e1 e2 => J.ok.inj x y c e1 e2) (by rw [hn1]; exact LOp.nd) hmem, ?_, fun j q v e1 e2 => ?_, capAll_sel ?_ p.2⟩
    · cases q : H c' with
      | none => exact (f2n cC h7 h6 q).trans h5
      | some o' =>
        rw [f2o (by rw [q]; intro z; cases z)]
        rcases h8 with y3 | y3
        · rw [hq p hp]; exact y3
        · rw [q] at y3; cases y3
    · have e : (cloFrom cells (Lams.of p.1).scope.names []).length = (Lams.of p.1).names.length := by rw [← hn1, List.length_map]
      rw [hlen2.1, e, hnm p hp, hlen2.2]
    · have hy : (Lams.of p.1).names[j]? = some q.1 := by rw [← hn1, List.getElem?_map, e1]; rfl
      rw [hnm p hp, fm_get hall] at hy
      rw [fm_get hallv] at e2
      cases qj : p.2[j]? with
      | none => rw [qj] at hy; cases hy
      | some n =>
        rw [qj] at hy e2
        have hy : ps[n]? = some q.1 := hy
        have e2 : vs[n]? = some v := e2
        have hyc := hcl p hp q.1 (by rw [← hn1]; exact List.mem_map.mpr ⟨q, List.mem_of_getElem? e1, rfl⟩)
        have hlk := hmem q (List.mem_of_getElem? e1)
        obtain ⟨o, u', z1, z2, z3⟩ := hC hyc hy hlk e2
        have hin : InC q.2 := ⟨q.1, hyc, List.mem_of_getElem? hy, hlk⟩
        exact ⟨o, u', by rw [f2i hin, h2i hin z1], z2, z3⟩
    · exact hcaps.mono ⟨sameF, List.prefix_rfl⟩
  have go : ∀ (l : List (Nat × List Nat)) (ws : List V), (∀ p ∈ l, p ∈ sel) → Made PT D H H' Z ws (l.map fun p => (Lams.of p.1, cloFrom cells (Lams.of p.1).scope.names [])) → FnsAt K F2 al ws (worksC l caps) := by
    intro l
    induction l with
    | nil =>
      intro ws _ hm
      cases hm
      exact .nil
    | cons p l ih =>
      intro ws hsub hm
      cases hm with
      | cons h1 h2 h3 h4 h5 h6 h7 h8 t => exact .cons (one p _ _ (hsub p List.mem_cons_self) h1 h2 h3 h4 h5 h6 h7 h8) (ih _ (fun q hq => hsub q (List.mem_cons_of_mem _ hq)) t)
  exact go sel us (fun p hp => hp) hm
end
end Pd

namespace Pd
open PySem PySem.Spec PyProof.Rows L2
variable [Lams]
/-! ## lists of lambdas: made, read, cut, walked -/
def capsOf : List Rv → Option (List Cap)
  | [] => some []
  | .dat d :: r => (capsOf r).map (Sum.inl d :: ·)
  | .own k :: r => (capsOf r).map (Sum.inr k :: ·)
  | _ :: _ => none
def worksM (n : Nat) (sel : List (Nat × List Nat)) (rs : List Rv) : M Rv := fun en => match capsOf rs, en.ob[0]? with
  | some caps, some Oc.ltab => if rs.length = n then .ok (.fns (worksC sel caps)) en else .bad
  | _, _ => .bad
theorem capsOf_ok {K : PySem.W.Frag} {F : Hp} {al : List Addr} : ∀ {vs : List V} {rs : List Rv} {caps : List Cap}, RvAll K F al vs rs → capsOf rs = some caps → CapAll K F al vs caps
  | _, _, caps, .nil, e => by cases e; exact .nil
  | _, _, caps, .cons (r := .dat d) (rs := rs) h t, e => by
    unfold capsOf at e
    cases q : capsOf rs with
    | none => rw [q] at e; cases e
    | some cs =>
      rw [q] at e
      cases e
      exact .cons h (capsOf_ok t q)
  | _, _, caps, .cons (r := .own k) (rs := rs) h t, e => by
    unfold capsOf at e
    cases q : capsOf rs with
    | none => rw [q] at e; cases e
    | some cs =>
      rw [q] at e
      cases e
      exact .cons h (capsOf_ok t q)
  | _, _, _, .cons (r := .fn _ _) _ _, e => by cases e
  | _, _, _, .cons (r := .fns _) _ _, e => by cases e
  | _, _, _, .cons (r := .exv) _ _, e => by cases e
def fnsIx (r ri : Rv) : M Rv := fun en => match r, ri with
  | .fns fs, .dat (.int i) => (match atI fs i with
    | some p => .ok (.fn p.1 p.2) en
    | none => .bad)
  | _, _ => .bad
def fnsCut (r : Rv) (lo hi : Option Int) : M Rv := fun en => match r with
  | .fns fs => .ok (.fns ((fs.drop (HT.sIx fs.length 0 lo)).take (HT.sIx fs.length fs.length hi - HT.sIx fs.length 0 lo))) en
  | _ => .bad
def fnsI (r : Rv) : M (List Rv) := fun en => match r with
  | .fns fs => .ok (fs.map fun p => .fn p.1 p.2) en
  | _ => .bad
section
variable {K : PySem.W.Frag} {F : Hp} {al : List Addr}
theorem fnsAt_len : ∀ {vs : List V} {fs : List (Nat × List Cap)}, FnsAt K F al vs fs → vs.length = fs.length
  | _, _, .nil => rfl
  | _, _, .cons _ t => by simp [fnsAt_len t]
theorem fnsAt_get : ∀ {vs : List V} {fs : List (Nat × List Cap)} {i : Nat} {p : Nat × List Cap}, FnsAt K F al vs fs → fs[i]? = some p → ∃ f, vs[i]? = some (.ref f) ∧ FnAt K F al f p.1 p.2
  | _, _, _, _, .nil, e => by simp at e
  | _, _, 0, _, .cons r _, e => by simp at e; subst e; exact ⟨_, rfl, r⟩
  | _, _, i + 1, p, .cons _ t, e => by
    obtain ⟨u, h1, h2⟩ := fnsAt_get (i := i) (p := p) t (by simpa using e)
    exact ⟨u, by simpa using h1, h2⟩
theorem fnsAt_drop : ∀ {vs : List V} {fs : List (Nat × List Cap)} (n : Nat), FnsAt K F al vs fs → FnsAt K F al (vs.drop n) (fs.drop n)
  | _, _, 0, h => h
  | _, _, _ + 1, .nil => .nil
  | _, _, n + 1, .cons _ t => fnsAt_drop n t
theorem fnsAt_take : ∀ {vs : List V} {fs : List (Nat × List Cap)} (n : Nat), FnsAt K F al vs fs → FnsAt K F al (vs.take n) (fs.take n)
  | _, _, 0, _ => .nil
  | _, _, _ + 1, .nil => .nil
  | _, _, n + 1, .cons r t => .cons r (fnsAt_take n t)
end
theorem fnsIx_post {K : PySem.W.Frag} {TT : Tt} {W : WX} {g : Gh} {al : List Addr} {en : En} {F : Hp} {σ : L2.St} {r ri : Rv} {R : Rv → En → Hp → List Addr → Hp → Prop} (h : Post K TT W g F al σ (fnsIx r ri en) R) :
    ∃ gs i p, r = .fns gs ∧ ri = .dat (.int i) ∧ atI gs i = some p ∧ Post K TT W g F al σ (.ok (.fn p.1 p.2) en) R := by
  unfold fnsIx at h
  split at h
  · split at h
    · rename_i q eq
      exact ⟨_, _, q, rfl, rfl, eq, h⟩
    · exact h.elim
  · exact h.elim
section
variable {X : Cx} {TT : Tt} {W : WX} {a b c : Expr} {fa fb fc : M Rv} {pos : Pos} {es : List Expr} {fs : M (List Rv)} {x : Str} {p : Pos} {tg : Expr}
theorem pd_works {k : Nat} {f : Addr} {fd : FuncData} {ps : List Str} {n : Nat} {sel : List (Nat × List Nat)} (G : FnOk X.prog X.w X.K X.mg X.base (L2.CX X.prog X.w) k f fd ps (spW X.K TT (He.cT X.K Lams.wd).2 n sel)) (hr : Room k X.A) (hm : X.mg x = some (.ref f)) (hk : PySem.W.keepIn X.K (.ref f) = true) (hb : Binds X.K fd ps [])
    (hx : ∀ σ, PassesAt (L2.CX X.prog X.w) X σ (WE W σ)) (ha : PAD X TT W (a :: es) fs) (hg : Gl X x := by rfl) (hdb : (x == ("__debug__" : Str)) = false := by decide) (he : starEach (a :: es) X.env = (false, eval a X.env) :: starEach es X.env := by rfl) (hpl : (backTo pos (starEach es X.env)).any (·.1) = false := by rfl) :
    PD X TT W (.Call (.Name x p) (a :: es) [] pos) (bnd fs (worksM n sel)) := by
  obtain ⟨⟨t, pt, q⟩⟩ := ha
  refine ⟨⟨_, pe_callS (E := WE W) G hr hg hm hk hb hx pt hdb he hpl, fun g al en F σ H Q s h => ?_⟩⟩
  refine q g al en F σ H _ s (Post.seq h fun rs e1 F1 a1 H1 l1 s1 p1 vs r1 => ?_)
  unfold worksM at p1
  split at p1
  · rename_i caps ec eo
    split at p1
    · rename_i hn
      have hk2 : 0 < a1.length := by rw [s1.alen]; exact (List.getElem?_eq_some_iff.mp eo).1
      have ea : a1[0]? = some a1[0] := List.getElem?_eq_getElem hk2
      have o := s1.objs 0 _ _ ea eo
      refine ⟨F1, a1, e1.ob, caps, s1.tb, by rw [ea, o.1], eo, capsOf_ok r1 ec, by rw [r1.len]; exact hn, fun v F' H' hf hv => ?_⟩
      exact p1 F' a1 H' hf.le (s1.gf hf) v hv
    · exact p1.elim
  · exact p1.elim
theorem pd_fnsIx (ha : PD X TT W a fa) (hb : PD X TT W b fb) (hs : PlainIx b := by intro _ _; rfl) : PD X TT W (.Subscript a b pos) (bnd fa fun r => bnd fb fun ri => fnsIx r ri) := by
  obtain ⟨⟨ta, pa, qa⟩⟩ := ha
  obtain ⟨⟨tb, pb, qb⟩⟩ := hb
  refine ⟨⟨_, pe_ix ix_list pa pb hs, fun g al en F σ H Q s h => ?_⟩⟩
  refine qa g al en F σ H _ s (Post.seq h fun r e1 F1 a1 H1 l1 s1 p1 v1 r1 => ?_)
  refine qb g a1 e1 F1 σ H1 _ s1 (Post.seq p1 fun ri e2 F2 a2 H2 l2 s2 p2 v2 r2 => ?_)
  have r1 := r1.mono l2
  obtain ⟨gs, i, q, rfl, rfl, eq, p2⟩ := fnsIx_post p2
  obtain ⟨ar, xs, rfl, hf, hfs⟩ := r1
  cases r2
  unfold atI at eq
  cases ej : ixN gs.length i with
  | none => rw [ej] at eq; cases eq
  | some j =>
    rw [ej] at eq
    have eq : gs[j]? = some q := eq
    obtain ⟨f, e1, e2⟩ := fnsAt_get hfs eq
    refine ⟨ar, xs, i, .ref f, rfl, rfl, .of (s2.sub _ _ hf), ?_, p2.here s2 _ ⟨f, rfl, e2⟩⟩
    unfold atI
    rw [fnsAt_len hfs, ej]
    exact e1
variable {lo hi : Option Expr} {flo fhi : M (Option Int)}
theorem pd_fnsCut {p2 : Pos} (ha : PD X TT W a fa) (hl : POD X TT W lo flo) (hh : POD X TT W hi fhi) : PD X TT W (.Subscript a (.Slice lo hi none p2) pos) (bnd fa fun r => bnd flo fun i => bnd fhi fun j => fnsCut r i j) := by
  obtain ⟨⟨t, pt, q⟩⟩ := ha
  obtain ⟨⟨t1, pt1, q1⟩⟩ := hl
  obtain ⟨⟨t2, pt2, q2⟩⟩ := hh
  refine ⟨⟨_, pe_slice sl_list pt pt1 pt2, fun g al en F σ H Q s h => ?_⟩⟩
  refine q g al en F σ H _ s (Post.seq h fun r e1 F1 a1 H1 l1 s1 p1 v1 r1 => ?_)
  refine q1 g a1 e1 F1 σ H1 _ s1 (Post.seq p1 fun i e2 F2 a2 H2 l2 s2 p2 => ?_)
  refine q2 g a2 e2 F2 σ H2 _ s2 (Post.seq p2 fun j e3 F3 a3 H3 l3 s3 p3 => ?_)
  have r3 := (r1.mono l2).mono l3
  unfold fnsCut at p3
  split at p3
  · rename_i gs
    obtain ⟨ar, xs, rfl, hf, hfs⟩ := r3
    refine ⟨ar, xs, rfl, .of (s3.sub _ _ hf), fun p hp => ?_⟩
    have l4 := le_newF s3 (.lst (cutV xs i j)) hp
    refine p3 _ _ _ l4 (s3.newF (.lst (cutV xs i j)) hp) _ ⟨p, _, rfl, upd_same, ?_⟩
    refine FnsAt.mono l4 ?_
    unfold cutV
    rw [fnsAt_len hfs]
    exact fnsAt_take _ (fnsAt_drop _ hfs)
  · exact p3.elim
/-! ## walks whose items are lambdas -/
def WkR (K : PySem.W.Frag) (TT : Tt) (J : It) (rs : List Rv) (F0 : Hp) (a0 : List Addr) : Prop := ∀ g al en F σ H, Le F0 a0 F al → Sv K TT g al en F σ H → ∀ i,
  (∀ r, rs[i]? = some r → J.go i H ∧ ∀ x H', J.yld i H x H' → ∃ F', RStW F H F' H' ∧ RvR K F' al x r) ∧ (rs.length ≤ i → J.stop i H)
structure PIDR (X : Cx) (TT : Tt) (W : WX) (tg iter : Expr) (f : M (List Rv)) : Prop where
  ex : ∃ w : TI, PI X tg iter w ∧ ∀ g al en F σ H R, Sv X.K TT g al en F σ H → Post X.K TT W g F al σ (f en) (fun rs _ F' al' H' => ∀ J, WkR X.K TT J rs F' al' → R J H') → w σ H R
theorem id_fns (ha : PD X TT W a fa) : PIDR X TT W tg a (bnd fa fnsI) := by
  obtain ⟨⟨t, pt, q⟩⟩ := ha
  refine ⟨⟨_, pi_list pt, fun g al en F σ H R s h => q g al en F σ H _ s (Post.seq h fun r e F1 a1 H1 l1 s1 p1 v hv => ?_)⟩⟩
  unfold fnsI at p1
  split at p1
  · rename_i gs
    obtain ⟨ar, us, rfl, hf, hfs⟩ := hv
    refine ⟨ar, rfl, ⟨us, .of (s1.sub _ _ hf)⟩, p1.here s1 _ fun g al en F σ H hs s2 i => ⟨fun r hr => ?_, fun hi => ?_⟩⟩
    · have hq : SqL X.K H ar us := .of (s2.sub _ _ (hs.f _ _ hf))
      rw [List.getElem?_map] at hr
      cases qg : gs[i]? with
      | none => rw [qg] at hr; cases hr
      | some p =>
        rw [qg] at hr
        cases hr
        obtain ⟨f, e1, e2⟩ := fnsAt_get hfs qg
        refine ⟨⟨us, .ref f, hq, e1⟩, fun x H' hy => ?_⟩
        obtain ⟨rfl, hy⟩ := hy
        have e3 := hy us hq
        rw [e1] at e3
        cases e3
        exact ⟨F, .inl (.same _ _), f, rfl, e2.mono hs⟩
    · exact ⟨us, .of (s2.sub _ _ (hs.f _ _ hf)), by rw [fnsAt_len hfs]; simpa using hi⟩
  · exact p1.elim
def compLR (h : Rv → En → Option En) (gt : M Bool) (fe : M Rv) (sl : List (Option Rv)) (k : Nat) : List Rv → En → Option En
  | [], en => some en
  | r :: rs, en => match h r en with
    | none => none
    | some e1 => (match gt e1 with
      | .ok false e2 => compLR h gt fe sl k rs { e2 with sl := sl }
      | .ok true e2 => (match fe e2 with
        | .ok v e3 => (match e3.ob[k]? with
          | some (.lst acc) => if acc.length < sizeLine then compLR h gt fe sl k rs { sl := sl, ob := e3.ob.set k (.lst (acc ++ [v])) } else none
          | _ => none)
        | _ => none)
      | _ => none)
def compMR (vs : List Nat) (h : Rv → En → Option En) (gt : M Bool) (fe : M Rv) (rs : List Rv) : M Rv := fun en =>
  match compLR h gt fe (wipeL en.sl vs) en.ob.length rs { sl := wipeL en.sl vs, ob := en.ob ++ [.lst []] } with
  | some e => .ok (.own en.ob.length) { e with sl := en.sl }
  | none => .bad
theorem comp_coreR {elt iter : Expr} {ifs : List Expr} {scope : Scope} {own : List (Str × Nat)} {f : M (List Rv)} {h : Rv → En → Option En} {gt : M Bool} {fe : M Rv} {ws : List Nat}
    (hi : PIDR X TT W tg iter f) (hg : ∀ z, PGD (Bk X scope z) TT tg h ws) (hws : ∀ i, i ∈ ws → i ∈ own.map (·.2)) (ht : ∀ z, PTsD (Bk X scope z) TT ifs gt) (he : ∀ z, PD (Bk X scope z) TT W0 elt fe) :
    ∃ (wi : TI) (g : TG) (tt : L2.TT) (te : TE), PI X tg iter wi ∧ (∀ z, PG (Bk X scope z) tg g) ∧ (∀ z, PTs (Bk X scope z) ifs tt) ∧ (∀ z, PE (Bk X scope z) elt te) ∧
      ∀ gh al en F σ H Q, Sv X.K TT gh al en F σ H → Post X.K TT W gh F al σ (bnd f (compMR (own.map (·.2)) h gt fe) en) (fun r _ F' al' H' => ∀ v, RvR X.K F' al' v r → Q v H') → tLc wi g tt te (own.map (·.2)) σ H Q := by
  obtain ⟨⟨wi, pw, qw⟩⟩ := hi
  refine ⟨wi, fun v σ H Q => ∀ z, (hg z).ex.choose v σ H Q, fun σ H Q => ∀ z, (ht z).ex.choose σ H Q, fun σ H Q => ∀ z, (he z).ex.choose σ H Q, pw, fun z => PG.stronger (hg z).ex.choose_spec.1 fun v σ H Q k => k z,
    fun z => PTs.stronger (ht z).ex.choose_spec.1 fun σ H Q k => k z, fun z => PE.stronger (he z).ex.choose_spec.1 fun σ H Q k => k z, fun gh al en F σ H Q s hP => ?_⟩
  generalize hvs : own.map (·.2) = vs at hws hP ⊢
  refine qw gh al en F σ H _ s (Post.seq hP fun rs e0 F0 a0 H0 l0 s0 p0 J hJ => ?_)
  intro D hD
  unfold compMR at p0
  cases qc : compLR h gt fe (wipeL e0.sl vs) e0.ob.length rs { sl := wipeL e0.sl vs, ob := e0.ob ++ [.lst []] } with
  | none => rw [qc] at p0; exact p0.elim
  | some eE =>
    rw [qc] at p0
    have sW := (s0.wiped vs).newOwn hD (xs := []) (rs := []) .nil
    have lD : Le F0 a0 F0 (a0 ++ [D]) := le_own
    have eD : (a0 ++ [D])[e0.ob.length]? = some D := by rw [← s0.alen, List.getElem?_append_right (Nat.le_refl _)]; simp
    refine ⟨fun i m H => m = rs.length - i ∧ i ≤ rs.length ∧ ∃ al1 en1 F1, Le F0 (a0 ++ [D]) F1 al1 ∧ en1.sl = wipeL e0.sl vs ∧ Sv X.K TT gh al1 en1 F1 (wipe σ vs) H ∧ compLR h gt fe (wipeL e0.sl vs) e0.ob.length (rs.drop i) en1 = some eE,
      ⟨rs.length, rfl, Nat.zero_le _, _, _, F0, Le.refl _ _, rfl, sW, by simpa using qc⟩, ?_⟩
    rintro i m H1 ⟨rfl, hi, al1, en1, F1, l1, el, s1, p1⟩
    obtain ⟨hgo, hstop⟩ := hJ gh al1 en1 F1 _ H1 (lD.trans l1) s1 i
    by_cases hlt : i < rs.length
    · have er : rs[i]? = some rs[i] := List.getElem?_eq_getElem hlt
      obtain ⟨go, yl⟩ := hgo _ er
      rw [List.drop_eq_getElem_cons hlt] at p1
      refine .inr ⟨go, fun H' => ∃ al1 en1 F1, Le F0 (a0 ++ [D]) F1 al1 ∧ en1.sl = wipeL e0.sl vs ∧ Sv X.K TT gh al1 en1 F1 (wipe σ vs) H' ∧ compLR h gt fe (wipeL e0.sl vs) e0.ob.length (rs.drop (i + 1)) en1 = some eE, fun H' hN => ⟨rs.length - (i + 1), by omega, rfl, hlt, hN⟩, fun x H' hy z => ?_⟩
      obtain ⟨F2, hst, hd⟩ := yl x H' hy
      obtain ⟨s2, l2⟩ := s1.rstW hst
      unfold compLR at p1
      cases q1 : h rs[i] en1 with
      | none => simp only [q1] at p1; cases p1
      | some e3 =>
        simp only [q1] at p1
        refine (hg z).ex.choose_spec.2 x rs[i] gh al1 en1 e3 F2 _ H' _ s2 hd q1 fun σ3 s3 m3 => ?_
        have w3 : wipe σ3 vs = wipe σ vs := by
          have z2 := m3.wipe hws
          rw [z2]
          apply List.ext_getElem?
          intro j
          by_cases hj : j ∈ vs
          · by_cases hl : j < σ.length
            · rw [wipe_in (by rw [wipe_length]; exact hl) hj, wipe_in hl hj]
            · rw [List.getElem?_eq_none (by rw [wipe_length, wipe_length]; omega), List.getElem?_eq_none (by rw [wipe_length]; omega)]
          · rw [wipe_get hj]
        have l3 := l1.trans l2
        have back : ∀ {al' : List Addr} {e' : En} {F' : Hp} {H'' : Hp}, Le F2 al1 F' al' → Sv X.K TT gh al' e' F' σ3 H'' → Sv X.K TT gh al' { e' with sl := wipeL e0.sl vs } F' (wipe σ vs) H'' := fun {al' e' F' H''} l s => by
          refine s.reslot ?_ fun j r ej => ?_
          · rw [wipe_length, wipeL_len]; exact s0.len
          · obtain ⟨v, f1, f2⟩ := s1.slots j r (by rw [el]; exact ej)
            exact ⟨v, f1, f2.mono (l2.trans l)⟩
        refine ⟨w3, fun z2 => ?_⟩
        refine (ht z2).ex.choose_spec.2 gh al1 e3 F2 σ3 H' _ s3 ?_
        cases q2 : gt e3 with
        | bad => simp only [q2] at p1; cases p1
        | exc _ _ => simp only [q2] at p1; cases p1
        | ok k e4 =>
          simp only [q2] at p1
          intro F4 a4 H4 l4 s4
          cases k with
          | false =>
            simp only at p1
            rw [if_neg Bool.false_ne_true]
            exact ⟨a4, _, F4, l3.trans l4, rfl, back l4 s4, p1⟩
          | true =>
            simp only at p1
            rw [if_pos rfl]
            intro z3
            refine (he z3).ex.choose_spec.2 gh a4 e4 F4 σ3 H4 _ s4 ?_
            cases q3 : fe e4 with
            | bad => simp only [q3] at p1; cases p1
            | exc _ _ => simp only [q3] at p1; cases p1
            | ok v e5 =>
              simp only [q3] at p1
              intro F5 a5 H5 l5 s5 y hy5
              cases q4 : e5.ob[e0.ob.length]? with
              | none => simp only [q4] at p1; cases p1
              | some oc =>
                cases oc with
                | fz _ => simp only [q4] at p1; cases p1
                | dk _ => simp only [q4] at p1; cases p1
                | dt _ => simp only [q4] at p1; cases p1
                | ins _ _ => simp only [q4] at p1; cases p1
                | fk _ => simp only [q4] at p1; cases p1
                | ft _ => simp only [q4] at p1; cases p1
                | ltab => simp only [q4] at p1; cases p1
                | any => simp only [q4] at p1; cases p1
                | lst acc =>
                  simp only [q4] at p1
                  split at p1
                  · rename_i hz
                    have eD5 : a5[e0.ob.length]? = some D := pre_get (((l1.trans l2).trans l4).trans l5).a eD
                    obtain ⟨fn, us, hus, hra⟩ := s5.lst eD5 q4
                    refine ⟨us, hus, by rw [hra.len]; exact hz, a5, _, F5, (l3.trans l4).trans l5, rfl, ?_, p1⟩
                    exact back (l4.trans l5) (s5.write eD5 q4 (RvAll.app hra (.cons hy5 .nil)))
                  · cases p1
    · have e : i = rs.length := by omega
      subst e
      rw [List.drop_length] at p1
      refine .inl ⟨hstop (Nat.le_refl _), ?_⟩
      have e2 : en1 = eE := by
        unfold compLR at p1
        exact Option.some.inj p1
      subst e2
      have sE : Sv X.K TT gh al1 { en1 with sl := e0.sl } F1 σ H1 := s1.reslot s0.len fun j r ej => by
        obtain ⟨v, f1, f2⟩ := s0.slots j r ej
        exact ⟨v, f1, f2.mono (lD.trans l1)⟩
      exact p0.at (lD.trans l1) sE (.ref D) ⟨D, pre_get l1.a eD, rfl⟩
variable {elt iter : Expr} {ifs : List Expr} {scope : Scope} {own : List (Str × Nat)} {f : M (List Rv)} {h : Rv → En → Option En} {gt : M Bool} {fe : M Rv} {ws : List Nat}
theorem pd_lcR (own : List (Str × Nat)) (hc : X.calm = true) (hN : X.N.Nodup) (hi : PIDR X TT W tg iter f) (ok : BlkOk X.N X.env.scope scope own) (hg : ∀ z, PGD (Bk X scope z) TT tg h ws) (ht : ∀ z, PTsD (Bk X scope z) TT ifs gt) (he : ∀ z, PD (Bk X scope z) TT W0 elt fe) (hws : ∀ i, i ∈ ws → i ∈ own.map (·.2) := by decide)
    (hs : ∀ x, foldedSetIterable iter X.env x = pure x := by intro _; rfl) : PD X TT W (.ListComp elt [⟨tg, iter, ifs, 0⟩] scope pos) (bnd f (compMR (own.map (·.2)) h gt fe)) := by
  obtain ⟨wi, g, tt, te, pw, pg, ptt, pte, q⟩ := comp_coreR hi hg hws ht he
  exact ⟨⟨_, pe_lc hc hN pw ok (fun s H C cl fp => pg (s, H, C, cl, fp)) (fun s H C cl fp => ptt (s, H, C, cl, fp)) (fun s H C cl fp => pte (s, H, C, cl, fp)) hs, q⟩⟩
end
end Pd

namespace Pd
open PySem PySem.Spec PyProof.Rows L2
variable [Lams]
/-! ## l.count(b), l.index(b) of a list of bools -/
theorem bools_of_vals : ∀ {bs : List Bool} {us : List Value}, Vals (bs.map V.bl) us → us = bs.map Value.bool
  | [], _, h => by cases h; rfl
  | b :: bs, _, h => by
    cases h with
    | cons h1 h2 =>
      cases h1
      rw [bools_of_vals h2]
      rfl
theorem count_bools (k : Bool) (bs : List Bool) : (bs.map Value.bool).countP (eqU (.bl k)) = bs.count k := by
  induction bs with
  | nil => rfl
  | cons b bs ih =>
    rw [List.map_cons, List.countP_cons, List.count_cons, ih]
    cases b <;> cases k <;> rfl
def rCntB (K : PySem.W.Frag) : V → List V → Hp → VK → Prop := fun x xs H Q => ∃ (p : Addr) (bs : List Bool) (k : Bool), x = .ref p ∧ xs = [.bl k] ∧ SqL K H p (bs.map V.bl) ∧ Q (.int (bs.count k : Nat)) H
theorem mt_countB {X : Cx} : MtR X "list.count" (rCntB X.K) := by
  intro pins s σ H x xs v us Q I rx rxs h
  obtain ⟨p, bs, k, rfl, rfl, hs, q⟩ := h
  cases rx
  obtain ⟨u, rfl, ru⟩ := rxs.one
  cases ru
  obtain ⟨its, rv, ⟨⟨cls, dd, data, sl⟩, n, ho, hc, hdn, hd⟩, hlen⟩ := I.list hs
  simp only at hc hd
  subst hc hd
  have fl : (bs.map V.bl).all flatV = true := List.all_eq_true.mpr fun v hv => by
    obtain ⟨b, _, rfl⟩ := List.mem_map.mp hv
    rfl
  refine call_meets PySem.F.slot_list_count ⟨_, ho, rfl⟩ PySem.F.entry_list_count (PySem.F.args_list_count_2 _ _)
    (SeqAt.list_countAt p its.toArray n dd sl (.bool k) (eqU (.bl k))) ⟨ho, fun y hy => mem_eqAt (x := .bl k) (v := .bool k) rfl rfl rv fl y (by simpa using hy), ?_⟩
  have ec : its.toArray.toList.countP (eqU (.bl k)) = bs.count k := by
    rw [bools_of_vals rv]
    exact count_bools k bs
  refine ⟨.int (bs.count k : Nat), H, I.tok _, ⟨s.toks, ?_⟩, q⟩
  show Value.int ((its.toArray.toList.countP (eqU (.bl k)) : Nat) : Int) s.toks = Value.int ((bs.count k : Nat) : Int) s.toks
  rw [ec]
def boolsOf : List Rv → Option (List Bool)
  | [] => some []
  | .dat (.bool b) :: r => (boolsOf r).map (b :: ·)
  | _ :: _ => none
theorem boolsOf_ok {K : PySem.W.Frag} {F : Hp} {al : List Addr} : ∀ {vs : List V} {rs : List Rv} {bs : List Bool}, RvAll K F al vs rs → boolsOf rs = some bs → vs = bs.map V.bl
  | _, _, bs, .nil, e => by cases e; rfl
  | _, _, bs, .cons (r := .dat (.bool b)) (rs := rs) h t, e => by
    unfold boolsOf at e
    cases q : boolsOf rs with
    | none => rw [q] at e; cases e
    | some cs =>
      rw [q] at e
      cases e
      rw [boolsOf_ok t q]
      cases h
      rfl
  | _, _, _, .cons (r := .dat (.int _)) _ _, e => by cases e
  | _, _, _, .cons (r := .dat (.str _)) _ _, e => by cases e
  | _, _, _, .cons (r := .dat .none) _ _, e => by cases e
  | _, _, _, .cons (r := .dat (.list _)) _ _, e => by cases e
  | _, _, _, .cons (r := .dat (.tuple _)) _ _, e => by cases e
  | _, _, _, .cons (r := .dat (.dict _)) _ _, e => by cases e
  | _, _, _, .cons (r := .own _) _ _, e => by cases e
  | _, _, _, .cons (r := .fn _ _) _ _, e => by cases e
  | _, _, _, .cons (r := .fns _) _ _, e => by cases e
  | _, _, _, .cons (r := .exv) _ _, e => by cases e
def bls (en : En) (r : Rv) : Option (List Bool) := match lsR en r with
  | some rs => boolsOf rs
  | none => none
def cntB (r v : Rv) : M Rv := fun en => match bls en r, v with
  | some bs, .dat (.bool k) => .ok (.dat (.int (bs.count k : Nat))) en
  | _, _ => .bad
def idxB (r v : Rv) : M Rv := fun en => match bls en r, v with
  | some bs, .dat (.bool k) => if bs.idxOf k < bs.length then .ok (.dat (.int (bs.idxOf k : Nat))) en else .bad
  | _, _ => .bad
theorem idxOf_before : ∀ {bs : List Bool} {k b : Bool} {m : Nat}, m < bs.idxOf k → bs[m]? = some b → b ≠ k
  | [], _, _, _, _, e => by simp at e
  | c :: bs, k, b, m, h, e => by
    rw [List.idxOf_cons] at h
    by_cases hc : c = k
    · subst hc
      simp at h
    · have hb : (c == k) = false := by simpa using hc
      rw [hb] at h
      simp only [cond_false] at h
      cases m with
      | zero =>
        simp at e
        subst e
        exact hc
      | succ m => exact idxOf_before (bs := bs) (m := m) (by omega) (by simpa using e)
/-- it is a list of bools -/
def chkB (r : Rv) : M Unit := fun en => match bls en r with
  | some _ => .ok () en
  | none => .bad
theorem bls_ok {K : PySem.W.Frag} {TT : Tt} {g : Gh} {al : List Addr} {en : En} {F : Hp} {σ : L2.St} {H : Hp} {v : V} {r : Rv} {bs : List Bool} (s : Sv K TT g al en F σ H) (h : RvR K F al v r) (e : bls en r = some bs) : ∃ a, v = .ref a ∧ H a = some (.lst (bs.map V.bl)) := by
  unfold bls at e
  cases q : lsR en r with
  | none => rw [q] at e; cases e
  | some rs =>
    rw [q] at e
    obtain ⟨a, xs, e1, e2, e3⟩ := lsR_ok s h q
    rw [boolsOf_ok e3 e] at e2
    exact ⟨a, e1, e2⟩
section
variable {X : Cx} {TT : Tt} {W : WX} {o e : Expr} {fo fe : M Rv} {apos pos : Pos}
theorem pd_countB (ho : PD X TT W o fo) (he : PD X TT W e fe) (hbase : attributeBase o "count" X.env (eval o X.env) = eval o X.env := by rfl)
    (hfew : ((backTo pos (starEach [e] X.env)).all (fun x => !x.1) && (backToKw pos (keywordEach [] X.env)).all (fun x => x.1.isSome)
      && decide (([e] : List Expr).length + ([] : List Keyword).length + (if ([] : List Keyword).isEmpty then 0 else 1) < 30)) = true := by rfl)
    (hline : (apos.endLine == pos.line) = true := by rfl) (hs : starEach [e] X.env = (false, eval e X.env) :: starEach [] X.env := by rfl) (hplain : (backTo pos (starEach [] X.env)).any (·.1) = false := by rfl) :
    PD X TT W (.Call (.Attribute o "count" apos) [e] [] pos) (bnd fo fun r => bnd (chkB r) fun _ => bnd fe fun v => cntB r v) := by
  obtain ⟨⟨t1, pt1, q1⟩⟩ := ho
  obtain ⟨⟨t2, pt2, q2⟩⟩ := he
  refine ⟨⟨_, pe_bm PySem.F.plainAttrs_list PySem.F.slot_list_count PySem.F.type_list_count mt_countB pt1 (pa_cons pt2 pa_nil hs) hbase hfew hline hs hplain, fun g al en F σ H Q s h => ?_⟩⟩
  refine q1 g al en F σ H _ s (Post.seq h fun r e1 F1 a1 H1 l1 s1 p1 v1 r1 => ?_)
  unfold chkB bnd at p1
  cases qb : bls e1 r with
  | none => simp only [qb] at p1; exact p1.elim
  | some bs =>
    simp only [qb] at p1
    obtain ⟨a, rfl, hl⟩ := bls_ok s1 r1 qb
    refine ⟨.inl ⟨rfl, _, .of hl⟩, ?_⟩
    have p1 : Post X.K TT W g F1 a1 σ (bnd fe (fun v => cntB r v) e1) (fun r _ F' al' H' => ∀ v, RvR X.K F' al' v r → Q v H') := p1
    refine q2 g a1 e1 F1 σ H1 _ s1 (Post.seq p1 fun v e2 F2 a2 H2 l2 s2 p2 v2 r2 => ?_)
    unfold cntB at p2
    split at p2
    · rename_i bs2 k eb
      obtain ⟨a', ea, hl2⟩ := bls_ok s2 (r1.mono l2) eb
      cases ea
      cases r2
      exact ⟨a, bs2, k, rfl, rfl, .of hl2, p2.here s2 _ (.int _)⟩
    · exact p2.elim
theorem pd_indexB (ho : PD X TT W o fo) (he : PD X TT W e fe) (hbase : attributeBase o "index" X.env (eval o X.env) = eval o X.env := by rfl)
    (hfew : ((backTo pos (starEach [e] X.env)).all (fun x => !x.1) && (backToKw pos (keywordEach [] X.env)).all (fun x => x.1.isSome)
      && decide (([e] : List Expr).length + ([] : List Keyword).length + (if ([] : List Keyword).isEmpty then 0 else 1) < 30)) = true := by rfl)
    (hline : (apos.endLine == pos.line) = true := by rfl) (hs : starEach [e] X.env = (false, eval e X.env) :: starEach [] X.env := by rfl) (hplain : (backTo pos (starEach [] X.env)).any (·.1) = false := by rfl) :
    PD X TT W (.Call (.Attribute o "index" apos) [e] [] pos) (bnd fo fun r => bnd (chkB r) fun _ => bnd fe fun v => idxB r v) := by
  obtain ⟨⟨t1, pt1, q1⟩⟩ := ho
  obtain ⟨⟨t2, pt2, q2⟩⟩ := he
  refine ⟨⟨_, pe_bm PySem.F.plainAttrs_list PySem.F.slot_list_index PySem.F.type_list_index mt_index pt1 (pa_cons pt2 pa_nil hs) hbase hfew hline hs hplain, fun g al en F σ H Q s h => ?_⟩⟩
  refine q1 g al en F σ H _ s (Post.seq h fun r e1 F1 a1 H1 l1 s1 p1 v1 r1 => ?_)
  unfold chkB bnd at p1
  cases qb : bls e1 r with
  | none => simp only [qb] at p1; exact p1.elim
  | some bs =>
    simp only [qb] at p1
    obtain ⟨a, rfl, hl⟩ := bls_ok s1 r1 qb
    refine ⟨.inl ⟨rfl, _, .of hl⟩, ?_⟩
    have p1 : Post X.K TT W g F1 a1 σ (bnd fe (fun v => idxB r v) e1) (fun r _ F' al' H' => ∀ v, RvR X.K F' al' v r → Q v H') := p1
    refine q2 g a1 e1 F1 σ H1 _ s1 (Post.seq p1 fun v e2 F2 a2 H2 l2 s2 p2 v2 r2 => ?_)
    unfold idxB at p2
    split at p2
    · rename_i bs2 k eb
      split at p2
      · rename_i hlt
        obtain ⟨a', ea, hl2⟩ := bls_ok s2 (r1.mono l2) eb
        cases ea
        cases r2
        refine ⟨a, bs2.map V.bl, .bl k, bs2.idxOf k, .bl k, rfl, rfl, .of hl2, rfl, List.all_eq_true.mpr fun v hv => ?_, ?_, ?_, fun m z' hm hz => ?_, p2.here s2 _ (.int _)⟩
        · obtain ⟨b, _, rfl⟩ := List.mem_map.mp hv
          rfl
        · rw [List.getElem?_map, List.getElem?_eq_getElem hlt, List.getElem_idxOf hlt]
          rfl
        · cases k <;> rfl
        · rw [List.getElem?_map] at hz
          cases qz : bs2[m]? with
          | none => rw [qz] at hz; cases hz
          | some b =>
            rw [qz] at hz
            cases hz
            have hml : m < bs2.length := by omega
            have hne : b ≠ k := idxOf_before hm qz
            revert hne
            cases b <;> cases k <;> simp [eqV]
      · exact p2.elim
    · exact p2.elim
end
end Pd

namespace PySem
open Sem (wp)
theorem pd_enumNew {v : Value} {o : Obj} {H : Heap → Prop} (B : Begins v o H) :
    Meets (Builtin.«enumerate.__new__» ⟨[.type "enumerate", v], []⟩) (fun _ R s => H s.heap ∧
      R (.ok (.ret (.ref (s.heap.push o).objs.size))) { s with heap := (s.heap.push o).push { cls := .type "enumerate", data := .fields #[.none, .bool false, .ref s.heap.objs.size, rawInt 0, .none, .none] } }) :=
  .of_wp fun prog w A R s h => by
    obtain ⟨hp, g, d, tk, os⟩ := s; obtain ⟨h1, h⟩ := h
    have hsub := sub_enumerate
    have q1 : ∀ {A' : Around} {E : Value → Shared → Prop} {Q : Value → Shared → Prop}, Q (.ref hp.objs.size) ⟨hp.push o, g, d, tk, os⟩ → wpAny (model prog w) A' (pyIter v) Q E ⟨hp, g, d, tk, os⟩ :=
      fun q => B.iter prog w _ _ ⟨hp, g, d, tk, os⟩ _ h1 q
    wp_walk using q1
    refine wpAny_stack_any fun st => wpAny_pure ?_
    split
    · rename_i c _ _ _ _ _
      cases (c == Value.type "enumerate")
      · wp_walk using q1
        exact ⟨_, rfl, h⟩
      · wp_walk using q1
        exact ⟨_, rfl, h⟩
    · wp_walk using q1
      exact ⟨_, rfl, h⟩
section
variable {prog : Program} {w : World} {A : Around} {E : Value → Shared → Prop} {s : Shared}
theorem pd_enumCall {v : Value} {o : Obj} {H : Heap → Prop} {Q : Value → Shared → Prop} (B : Begins v o H) (h1 : H s.heap)
    (h : ∀ h', IsEnum h' (s.heap.objs.size + 1) s.heap.objs.size 0 .none → h'.get? s.heap.objs.size = some o → h'.objs.size = s.heap.objs.size + 2 →
      (∀ b o, s.heap.get? b = some o → h'.get? b = some o) → Q (.ref (s.heap.objs.size + 1)) { s with heap := h' }) :
    wpAny (model prog w) A (call (.type "enumerate") [v]) Q E s := by
  refine callType_new F.called_enumerate (by decide) (F.typeCall_enumerate_1 _) (F.newCall_enumerate_1 _) (fun obj => F.args_object_init_2 obj _) F.entry_enumerate_new
    (pd_enumNew B) ⟨h1, ?_⟩
  have hz : (s.heap.push o).objs.size = s.heap.objs.size + 1 := Heap.size_push ..
  show _ ∧ _
  rw [hz]
  have he : IsEnum ((s.heap.push o).push { cls := .type "enumerate", data := .fields #[.none, .bool false, .ref s.heap.objs.size, rawInt 0, .none, .none] }) (s.heap.objs.size + 1) s.heap.objs.size 0 .none := by
    have := Heap.get?_push_size (s.heap.push o) (o := { cls := .type "enumerate", data := .fields #[.none, .bool false, .ref s.heap.objs.size, rawInt 0, .none, .none] }) rfl
    rw [hz] at this; exact this
  refine ⟨⟨_, he, rfl⟩, h _ he (Heap.get?_push_of_some _ (Heap.get?_push_size _ B.free)) (by rw [Heap.size_push, hz]) fun b o x => Heap.get?_push_of_some _ (Heap.get?_push_of_some _ x)⟩
end
end PySem
namespace Pd
open PySem PySem.Spec PyProof.Rows L2
variable [Lams]
/-! ## enumerate(a tuple) -/
def IteT (K : PySem.W.Frag) (a : Addr) : It :=
  ⟨fun i H => ∃ (xs : List V) (x : V), SqT K H a xs ∧ xs[i]? = some x, fun i H v H' => ∃ T x, v = .ref T ∧ H T = none ∧ H' = upd H T (.tup [.int (i : Nat), x]) ∧ ∀ xs, SqT K H a xs → xs[i]? = some x, fun i H => ∃ xs : List V, SqT K H a xs ∧ xs.length ≤ i⟩
theorem enum_apart {h : Heap} {e it a : Addr} {i : Int} {old : Value} {its : Array Value} {j : Nat} (he : IsEnum h e it i old) (hit : h.IsTupleIter it a j) (ht : h.IsTuple a its) : e ≠ a ∧ a ≠ it ∧ e ≠ it := by
  obtain ⟨o1, h1, c1, _⟩ := hit
  obtain ⟨o2, h2, c2, _⟩ := ht
  have h3 : h.get? e = _ := he
  refine ⟨fun z => ?_, fun z => ?_, fun z => ?_⟩
  · rw [z, h2] at h3
    cases h3
    exact absurd (Value.type.inj c2) (by decide)
  · rw [z, h1] at h2
    cases h2
    rw [c1] at c2
    exact absurd (Value.type.inj c2) (by decide)
  · rw [z, h1] at h3
    cases h3
    exact absurd (Value.type.inj c1) (by decide)
theorem turn_enumT {P : Program} {w : World} {K : PySem.W.Frag} {elts : List Expr} {kk : Nat} {tpos : Pos} (a e it : Addr) :
    Turn P w K (.Tuple elts kk tpos) (IteT K a) [e, it] e (fun i h => (∃ old, IsEnum h e it ((i : Nat) : Int) old) ∧ h.IsTupleIter it a i) where
  mem := by simp
  obj := fun i h st b hb => by
    obtain ⟨⟨old, he⟩, ⟨o, ho, hc, hd⟩⟩ := st
    have e' : b = e ∨ b = it := by simpa using hb
    rcases e' with z | z
    · rw [z]; exact ⟨_, he, fun v q => nomatch q⟩
    · rw [z]; exact ⟨o, ho, fun v q => by rw [hd] at q; cases q⟩
  keep := fun i h h' st k => let ⟨⟨old, he⟩, hi⟩ := st; ⟨⟨old, k e (by simp) _ he⟩, hi.at fun o q => k it (by simp) o q⟩
  item := by
    intro X hP hw hK hc i pins s σ H E I hf st hg
    subst hP hw hK
    obtain ⟨⟨old, he⟩, hit⟩ := st
    obtain ⟨xs, x, hq, hx⟩ := hg
    obtain ⟨its, rv, p, hz⟩ := I.tuple hq
    obtain ⟨u, hu, ru⟩ := rv.get hx
    have p : s.heap.IsTuple a its.toArray := p
    obtain ⟨nea, nai, hne⟩ := enum_apart he hit p
    have hel : e < s.heap.objs.size := Heap.lt_size he
    have hil : it < s.heap.objs.size := by obtain ⟨_, q, _⟩ := hit; exact Heap.lt_size q
    have hlt : i < its.toArray.size := by
      have := (List.getElem?_eq_some_iff.mp hu).1
      simpa using this
    refine wpAny_pyNext_enum_itemD (Draws.tuple (A := X.A.in1) (I.ok.hd hc) it a nai its.toArray) he ⟨hit, p⟩ hlt hne (by simp [hne, nea]) fun y h' tk hy ho hst' hT hsz hk => ?_
    have ey : y = u := by
      have : its.toArray[i]? = some u := by simpa using hu
      rw [this] at hy
      exact (Option.some.inj hy).symm
    subst ey
    have hit' := hst'.1
    refine ⟨_, rfl, wpAny_letOwnedTupleGo_enum (s := { s with heap := h', toks := tk + 1 }) ho fun h'' he' sb => ?_⟩
    have hT2 : h''.get? s.heap.objs.size = some { cls := .type "tuple", data := .seq #[.int i tk, y] } := (sb.2 _ (Nat.ne_of_gt hel)).trans hT
    have new : ObjOk X.prog X.w (upd H s.heap.objs.size (.tup [.int (i : Nat), x])) h'' s.heap.objs.size (.tup [.int (i : Nat), x]) :=
      ⟨by show 2 ≤ sizeLine; decide, [.int i tk, y], .cons ⟨_, rfl⟩ (.cons ru .nil), ⟨_, hT2, rfl, _, rfl⟩⟩
    have I1 : Inv X pins σ (upd H s.heap.objs.size (.tup [.int (i : Nat), x])) { s with heap := h'', toks := tk + 1 } :=
      I.turnedNew (ch := [e, it]) (fun b ob hb q => (sb.2 b (fun z => hb (by simp [z]))).trans (hk b ob (fun z => hb (by simp [z])) (fun z => hb (by simp [z])) q)) hf (Nat.le_refl _) new
    refine ⟨.ref s.heap.objs.size, _, I1, rfl, ⟨_, x, rfl, I.hok.fresh (Nat.le_refl _), rfl, fun ys hy => by rw [I.tuple_inj hy hq]; exact hx⟩, ⟨⟨y, ?_⟩, hit'.at fun o q => (sb.2 it (Ne.symm hne)).trans q⟩, fun b hb => ?_⟩
    · have e1 : ((i + 1 : Nat) : Int) = (i : Int) + 1 := by omega
      rw [e1]; exact he'
    · have hb' : b < s.heap.objs.size := by
        have e' : b = e ∨ b = it := by simpa using hb
        rcases e' with z | z
        · rw [z]; exact hel
        · rw [z]; exact hil
      rw [upd_ne (Nat.ne_of_lt hb')]
      exact (hf b hb).1
  done := by
    intro X hP hw hK hc i pins s σ H E I hf st hg
    subst hP hw hK
    obtain ⟨⟨old, he⟩, hit⟩ := st
    obtain ⟨xs, hq, hx⟩ := hg
    obtain ⟨its, rv, p, hz⟩ := I.tuple hq
    have p : s.heap.IsTuple a its.toArray := p
    obtain ⟨f0, f1, f2, f3, f4, f5⟩ := hf it (by simp)
    have hl := rv.length
    have hT : s.TypeIs (.ref e) "enumerate" := ⟨_, he, rfl⟩
    unfold pyNext
    refine wpAny_bind (wpAny_attempt (wpAny_callSpecial?_slot (name := Str.ofString "__next__") hT F.slot_enumerate_next
      (wpAny_call_entry F.slot_enumerate_next hT F.entry_enumerate_next ?_ (F.args_enumerate_next_1 _))))
    show wpAny _ _ (field (.ref e) 2 >>= _) _ _ _
    refine wpAny_bind (wpAny_field he rfl (x := .ref it) rfl ?_)
    refine wpAny_bind (wpAny_nextOf_tuple_end (I.ok.hd hc) hit p (by simp; omega) fun h' x he' hx' => ?_)
    obtain ⟨o, ho, hcc⟩ := hx'
    refine wpAny_bind (wpAny_isInstance (T := "StopIteration") (b := true) ⟨o, ho, hcc⟩ isSubtype_stop ?_)
    exact wpAny_pure ⟨rfl, I.turned (t' := s.toks) (fun b o hb q => he' b o hb q) f0 f1 f3 f4 f5⟩
  self := fun A i s Q E st h => let ⟨⟨_, he⟩, _⟩ := st; wpAny_pyIter_enum he h
def iEnumT (K : PySem.W.Frag) (ta : TA) : TI := fun σ H R => ta σ H fun vs H1 => ∃ a xs, vs = [.ref a] ∧ SqT K H1 a xs ∧ R (IteT K a) H1
theorem pi_enumT {X : Cx} {e : Expr} {ta : TA} {p pos tpos : Pos} {elts : List Expr} {kk : Nat} (hg : Gl X "enumerate") (hm : X.mg "enumerate" = none) (ha : PA X [e] ta) (hs : starEach [e] X.env = [(false, eval e X.env)] := by rfl) :
    PI X (.Tuple elts kk tpos) (.Call (.Name "enumerate" p) [e] [] pos) (iEnumT X.K ta) := by
  refine ⟨fun pins s σ H R I h => ?_⟩
  refine Call_ (ld_blt I hg hm boot_enumerate (PyProof.Rows.callWith_type1 (thn (ha.run pos pins s σ H _ I h) fun us s1 ⟨vs, H1, I1, r1, q1⟩ => ?_) hs rfl))
  obtain ⟨a, xs, ex, hq, q⟩ := q1
  subst ex
  cases r1 with
  | cons r rr =>
    cases rr
    cases r
    obtain ⟨its, rv, p', hz⟩ := I1.tuple hq
    have p' : s1.heap.IsTuple a its.toArray := p'
    refine pd_enumCall (begins_tuple a its.toArray) p' fun h' he hit hsz hk => wpAny_pyIter_enum he ?_
    have I2 : Inv X pins σ H1 { s1 with heap := h' } := I1.kept (t' := s1.toks) hk
    refine ⟨s1.heap.objs.size + 1, [s1.heap.objs.size + 1, s1.heap.objs.size], _, _, H1, rfl, I2, turn_enumT a (s1.heap.objs.size + 1) s1.heap.objs.size, ⟨⟨.none, he⟩, ⟨_, hit, rfl, rfl⟩⟩, fun b hb => ?_, q⟩
    have e' : b = s1.heap.objs.size + 1 ∨ b = s1.heap.objs.size := by simpa using hb
    have hle : s1.heap.objs.size ≤ b := by
      rcases e' with z | z
      · rw [z]; exact Nat.le_add_right _ _
      · rw [z]; exact Nat.le_refl _
    exact I1.fpOk hle (I1.hok.fresh hle)
def enI : Nat → List PyData → List PyData
  | _, [] => []
  | i, d :: ds => .tuple [.int (i : Int), d] :: enI (i + 1) ds
theorem enI_get : ∀ {ds : List PyData} {k i : Nat} {r : PyData}, (enI k ds)[i]? = some r → ∃ d, ds[i]? = some d ∧ r = .tuple [.int ((k + i : Nat) : Int), d]
  | [], _, _, _, h => by simp [enI] at h
  | d :: ds, k, 0, r, h => by
    simp [enI] at h
    subst h
    exact ⟨d, rfl, rfl⟩
  | d :: ds, k, i + 1, r, h => by
    obtain ⟨d', e1, e2⟩ := enI_get (ds := ds) (k := k + 1) (i := i) (r := r) (by simpa [enI] using h)
    refine ⟨d', by simpa using e1, ?_⟩
    rw [e2]
    have : k + 1 + i = k + (i + 1) := by omega
    rw [this]
theorem enI_len : ∀ (ds : List PyData) (k : Nat), (enI k ds).length = ds.length
  | [], _ => rfl
  | d :: ds, k => by simp [enI, enI_len ds]
def enumTI (rs : List Rv) : M (List PyData) := fun en => match rs with
  | [.dat (.tuple ds)] => .ok (enI 0 ds) en
  | _ => .bad
section
variable {X : Cx} {TT : Tt} {W : WX} {a b c : Expr} {fa fb fc : M Rv} {pos : Pos} {es : List Expr} {fs : M (List Rv)} {x : Str} {p : Pos} {tg : Expr}
theorem id_enumT {elts : List Expr} {kk : Nat} {tpos : Pos} (hm : X.mg "enumerate" = none) (ha : PAD X TT W [a] fs) (hg : Gl X "enumerate" := by rfl) (hs : starEach [a] X.env = [(false, eval a X.env)] := by rfl) :
    PID X TT W (.Tuple elts kk tpos) (.Call (.Name "enumerate" p) [a] [] pos) (bnd fs enumTI) := by
  obtain ⟨⟨t, pt, q⟩⟩ := ha
  refine ⟨⟨_, pi_enumT hg hm pt hs, fun g al en F σ H R s h => q g al en F σ H _ s (Post.seq h fun rs e F1 a1 H1 l1 s1 p1 vs hv => ?_)⟩⟩
  unfold enumTI at p1
  split at p1
  · rename_i ds
    cases hv with
    | cons h1 h2 =>
      cases h2
      cases h1 with
      | tup q1 q2 =>
        rename_i ar us
        refine ⟨ar, us, rfl, sameT s1.sub (tupS q1), p1.here s1 _ fun g al en F σ H hs s i => ⟨fun r hr => ?_, fun hi => ?_⟩⟩
        · have hq : SqT X.K H ar us := sameT s.sub (sameT hs (tupS q1))
          obtain ⟨d, g1, rfl⟩ := enI_get hr
          obtain ⟨v1, e1, f1⟩ := dpAll_get q2 g1
          refine ⟨⟨us, v1, hq, e1⟩, fun x H' hy => ?_⟩
          obtain ⟨T, x1, rfl, hT, rfl, y1⟩ := hy
          have z1 := y1 us hq
          rw [e1] at z1
          cases z1
          rw [Nat.zero_add]
          exact ⟨upd F T (.tup [.int (i : Nat), v1]), .inl (.inr ⟨T, _, hT, rfl, rfl⟩), dp_tup (.cons (.int _) (.cons (dp_mono hs _ _ f1) .nil)) (s.fnone hT)⟩
        · refine ⟨us, sameT s.sub (sameT hs (tupS q1)), ?_⟩
          rw [dpAll_len q2]
          rw [enI_len] at hi
          exact hi
  · exact p1.elim
/-! ## {} as plain data -/
def dct0 : M Rv := fun en => .ok (.dat (.dict [])) en
theorem pd_dct0 : PD X TT W (.Dict [] [] pos) dct0 :=
  ⟨⟨_, pe_lk pe_dnewK, fun g al en F σ H Q s h => by
    intro p hp
    refine ⟨p, [], rfl, upd_same, fun od => ?_⟩
    have e : upd (upd H p (.dK [])) p (.frz od (.dK [])) = upd H p (.frz od (.dK [])) := by
      funext b
      by_cases hb : b = p
      · rw [hb, upd_same, upd_same]
      · rw [upd_ne hb, upd_ne hb, upd_ne hb]
    rw [e]
    have l := le_newF s (.frz od (.dK [])) hp
    exact h _ _ _ l (s.newF (.frz od (.dK [])) hp) _ (Dp.dct upd_same)⟩⟩
end
end Pd

namespace Pd
open PySem PySem.Spec PyProof.Rows L2
variable [Lams]
/-! ## lists and tuples repeated -/
def repL (r ri : Rv) : M Rv := fun en => match lsR en r, ri with
  | some rs, .dat (.int k) => if 0 ≤ k ∧ k ≤ 1000 ∧ rs.length * k.toNat ≤ 1000000 then newL (List.replicate k.toNat rs).flatten en else .bad
  | _, _ => .bad
def repTG : PyData → PyData → Option PyData
  | .tuple ds, .int k => if ds ≠ [] ∧ 2 ≤ k ∧ k ≤ 1000 ∧ ds.length ≤ 1000 then some (.tuple (List.replicate k.toNat ds).flatten) else none
  | _, _ => none
section
variable {K : PySem.W.Frag} {F : Hp} {al : List Addr}
theorem rvAll_rep {vs : List V} {rs : List Rv} (h : RvAll K F al vs rs) : ∀ n : Nat, RvAll K F al (List.replicate n vs).flatten (List.replicate n rs).flatten
  | 0 => .nil
  | n + 1 => by
    rw [List.replicate_succ, List.flatten_cons, List.replicate_succ, List.flatten_cons]
    exact h.app (rvAll_rep h n)
theorem dpAll_rep {vs : List V} {rs : List PyData} (h : DpAll K F vs rs) : ∀ n : Nat, DpAll K F (List.replicate n vs).flatten (List.replicate n rs).flatten
  | 0 => .nil
  | n + 1 => by
    rw [List.replicate_succ, List.flatten_cons, List.replicate_succ, List.flatten_cons]
    exact dpAll_app h (dpAll_rep h n)
theorem o_repT : Op2 K (rRepT K) repTG := by
  intro F H x y d e z Q s hx hy hg k
  unfold repTG at hg
  split at hg
  · rename_i ds i
    split at hg
    · rename_i hz
      cases hg
      obtain ⟨a, us, rfl, h1, h2⟩ := hx.tup s
      have l1 := dpAll_len h2
      refine ⟨a, i, us, rfl, hy.int, h1, fun q => hz.1 ?_, hz.2.1, hz.2.2.1, by rw [l1]; exact hz.2.2.2, fun p hp => ?_⟩
      · rw [q] at l1
        exact List.length_eq_zero_iff.mp l1.symm
      · exact k _ (upd F p (.tup (List.replicate i.toNat us).flatten)) _ (.inr ⟨p, _, hp, rfl, rfl⟩) (dp_tup (dpAll_rep h2 _) (s.free hp))
    · cases hg
  · cases hg
end
section
variable {X : Cx} {TT : Tt} {W : WX} {a b c : Expr} {fa fb fc : M Rv} {pos apos cpos : Pos} {fs : M (List Rv)} {x : Str} {p : Pos} {tg : Expr}
theorem pd_rep (ha : PD X TT W a fa) (hb : PD X TT W b fb) : PD X TT W (.BinOp a .Mult b pos) (bnd fa fun x => bnd fb fun y => repL x y) := by
  obtain ⟨⟨ta, pa, qa⟩⟩ := ha
  obtain ⟨⟨tb, pb, qb⟩⟩ := hb
  refine ⟨⟨_, pe_op op_rep pa pb, fun g al en F σ H Q s h => ?_⟩⟩
  refine qa g al en F σ H _ s (Post.seq h fun x e1 F1 a1 H1 l1 s1 p1 v1 r1 => ?_)
  refine qb g a1 e1 F1 σ H1 _ s1 (Post.seq p1 fun y e2 F2 a2 H2 l2 s2 p2 v2 r2 => ?_)
  unfold repL at p2
  split at p2
  · rename_i rs k ex
    split at p2
    · rename_i hz
      obtain ⟨l, xs, rfl, hx, hrx⟩ := lsR_ok s2 (r1.mono l2) ex
      cases r2
      have hs := sizeLine_eq
      exact ⟨l, k, xs, rfl, rfl, hx, by omega, by omega, by rw [hrx.len]; omega, fun q hq => newL_post s2 hq (rvAll_rep hrx _) p2⟩
    · exact p2.elim
  · exact p2.elim
theorem pd_repT (ha : PD X TT W a fa) (hb : PD X TT W b fb) : PD X TT W (.BinOp a .Mult b pos) (f2 repTG fa fb) := pd_bin op_repT o_repT ha hb
/-! ## x += e of ints -/
def augM (i : Nat) (fa : M Rv) : M Fl := fun en => match en.sl[i]? with
  | some (some (.dat (.int a))) => (match fa en with
    | .ok (.dat (.int b)) e => .ok .nx { e with sl := e.sl.set i (some (.dat (.int (a + b)))) }
    | .exc x e => .exc x e
    | _ => .bad)
  | _ => .bad
theorem sd_aug (i : Nat) {y : Str} {py : Pos} (hN : X.N.Nodup) (ha : PD X TT W a fa) (hi : X.N[i]? = some y := by rfl) (hx : Loc X.env.scope y := by first | exact Or.inl rfl | exact Or.inr rfl)
    (hf : X.fn y = true ∨ X.env.scope.names.lookup y = some .local := by first | exact .inl rfl | exact .inr rfl | assumption) : PSD X TT W (.AugAssign (.Name y py) .Add a pos) (augM i fa) := by
  obtain ⟨⟨t, pt, q⟩⟩ := ha
  refine ⟨⟨_, ps_aug hN hi hx pt ip_add hf, fun g al en F σ H D s h => ?_⟩⟩
  unfold augM at h
  split at h
  · rename_i m es
    obtain ⟨v, e1, q1⟩ := s.slots i _ es
    cases q1
    refine ⟨_, e1, q g al en F σ H _ s ?_⟩
    cases qf : fa en with
    | bad => rw [qf] at h; exact h.elim
    | exc x e => rw [qf] at h; exact fun F2 a2 H2 c d l2 s2 => h F2 a2 σ H2 c d l2 s2
    | ok r e =>
      rw [qf] at h
      intro F2 a2 H2 l2 s2 v hv
      split at h
      · rename_i b _ eq
        cases eq
        cases hv
        exact ⟨m, b, rfl, rfl, h F2 a2 _ H2 l2 (s2.setS (Dp.int (m + b)))⟩
      · rename_i eq
        cases eq
      · exact h.elim
  · exact h.elim
/-! ## d.values(), d as a test (plain keys) -/
def valsKM (r : Rv) : M (List PyData) := fun en => match r with
  | .own k => (match en.ob[k]? with
    | some (.dk kvs) => (match datKv kvs with
      | some ds => .ok (ds.map (·.2)) { en with ob := en.ob.set k (.fk kvs) }
      | none => .bad)
    | _ => .bad)
  | _ => .bad
theorem id_valsK (ha : PD X TT W a fa) (hbase : attributeBase a "values" X.env (eval a X.env) = eval a X.env := by rfl) (hline : (apos.endLine == cpos.line) = true := by rfl) :
    PID X TT W tg (.Call (.Attribute a "values" apos) [] [] cpos) (bnd fa valsKM) := by
  obtain ⟨⟨t, pt, q⟩⟩ := ha
  refine ⟨⟨_, pi_values (pe_lk pt) hbase hline, fun g al en F σ H R s h => q g al en F σ H _ s (Post.seq h fun r e F1 a1 H1 l1 s1 p1 v hv => ?_)⟩⟩
  unfold valsKM at p1
  split at p1
  · rename_i k
    split at p1
    · rename_i kvs eo
      split at p1
      · rename_i ds ed
        obtain ⟨ar, ea, rfl⟩ := hv
        obtain ⟨fn, vs, hvs, hr⟩ := s1.objs k ar _ ea eo
        refine ⟨ar, vs, rfl, hvs, fun od => ⟨ar, od, vs, rfl, upd_same, ?_⟩⟩
        obtain ⟨s2, l2⟩ := s1.lockK (od := od) ea eo hvs hr fn
        refine p1 _ _ _ l2 s2 _ fun g3 al3 en3 F3 σ3 H3 hs3 s3 i => ⟨fun r hr2 => ?_, fun hi => ?_⟩
        · rw [List.getElem?_map] at hr2
          cases eg : ds[i]? with
          | none => rw [eg] at hr2; cases hr2
          | some p =>
            obtain ⟨ky, d⟩ := p
            rw [eg] at hr2
            have e5 := Option.some.inj hr2
            subst e5
            obtain ⟨w, ew, dw⟩ := datKv_get hr ed eg
            have hlt : i < vs.length := (List.getElem?_eq_some_iff.mp ew).1
            refine ⟨⟨s3.sub _ _ (hs3 _ _ upd_same), hlt⟩, fun x H' hy => ?_⟩
            obtain ⟨rfl, k2, e6⟩ := hy
            rw [ew] at e6
            cases e6
            exact ⟨F3, .inl (.same _ _), dp_mono (l2.f.trans hs3) _ _ dw⟩
        · refine ⟨s3.sub _ _ (hs3 _ _ upd_same), ?_⟩
          rw [List.length_map, datKv_len ed] at hi
          rw [kvR_len hr]
          exact hi
      · exact p1.elim
    · exact p1.elim
  · exact p1.elim
theorem tru_dk : TruR X (fun x H Q => ∃ p kvs, x = .ref p ∧ (H p = some (.dK kvs) ∨ ∃ o, H p = some (.frz o (.dK kvs))) ∧ Q (!kvs.isEmpty) H) := by
  intro pins s σ H x v Q I rx h
  obtain ⟨p, kvs, rfl, h, q⟩ := h
  cases rx
  have hl := line63
  have key : ObjOk X.prog X.w H s.heap p (.dK kvs) := by
    rcases h with h | ⟨o, h⟩
    · exact I.hok p _ h
    · exact (I.hok p _ h).2
  obtain ⟨hz, hS, vs, r, m⟩ := key
  have hlen : kvs.length = vs.length := Paired.length r
  exact wpAny_truthy_dict hS m (by omega) ⟨H, I.tok _, by rw [isEmpty_kv r]; exact q⟩
def trD (r : Rv) : M Bool := fun en => match r with
  | .own k => (match en.ob[k]? with
    | some (.dk kvs) => .ok (!kvs.isEmpty) en
    | some (.fk kvs) => .ok (!kvs.isEmpty) en
    | _ => .bad)
  | _ => .bad
theorem kvR_emp {κ : Type} {K : PySem.W.Frag} {F : Hp} {al : List Addr} {vs : List (κ × V)} {rs : List (κ × Rv)} (h : KvR K F al vs rs) : vs.isEmpty = rs.isEmpty := by
  cases h <;> rfl
theorem pb_dk (h : PD X TT W a fa) (he : ∀ whole, isTrue a X.env whole = (do let v ← whole; standAt a.pos; holding [v] (truthy v)) := by intro _; rfl) : PBt X TT W a (bnd fa trD) := by
  obtain ⟨⟨t, pt, q⟩⟩ := h
  refine ⟨⟨fun σ H Q => t σ H fun x H1 => ∃ p kvs, x = .ref p ∧ (H1 p = some (.dK kvs) ∨ ∃ o, H1 p = some (.frz o (.dK kvs))) ∧ Q (!kvs.isEmpty) H1, ⟨fun pins s σ H Q I h => ?_⟩, fun g al en F σ H Q s h => ?_⟩⟩
  · rw [he]
    refine wpAny_bind (thn (pt.run pins s σ H _ I h) fun u s1 ⟨x, H1, I1, r1, q1⟩ => ?_)
    refine wpAny_bind (wpAny_standAt (wpAny_holding ?_))
    exact tru_dk pins s1 σ H1 x u Q I1 r1 q1
  · refine q g al en F σ H _ s (Post.seq h fun r e1 F1 a1 H1 l1 s1 p1 v r1 => ?_)
    unfold trD at p1
    split at p1
    · rename_i k
      obtain ⟨ar, ea, rfl⟩ := r1
      split at p1
      · rename_i kvs eo
        obtain ⟨fn, vs, hvs, hr⟩ := s1.objs k ar _ ea eo
        exact ⟨ar, vs, rfl, .inl hvs, by rw [kvR_emp hr]; exact p1.here s1⟩
      · rename_i kvs eo
        obtain ⟨od, vs, hvs, hr⟩ := s1.objs k ar _ ea eo
        exact ⟨ar, vs, rfl, .inr ⟨od, s1.sub _ _ hvs⟩, by rw [kvR_emp hr]; exact p1.here s1⟩
      · exact p1.elim
    · exact p1.elim
end
/-! ## tables of facts about exceptions -/
def exTB (K : PySem.W.Frag) (T : List ((Str × Str) × Bool)) : Bool := T.all fun p => decide (PySem.W.exmOne K (.ref (He.ga K p.1.1)) (.ref (He.ga K p.1.2)) = some p.2) && (excIsB K p.1.1 && decide (PySem.W.kitOne K (.ref (He.ga K p.1.1)) (.ref (He.ga K p.1.2)) = some p.2))
def fldTB (K : PySem.W.Frag) (T : List (Str × Str)) : Bool := T.all fun p => xfB K (He.ga K p.1) && He.eqO (PySem.W.findIn K (.ref (He.ga K p.1)) p.2) (some none)
def exL (T : List ((Str × Str) × Bool)) (s y : Str) : Option Bool := T.lookup (s, y)
section
variable {K : PySem.W.Frag} {T : List ((Str × Str) × Bool)}
theorem lk_mem {α β : Type} [BEq α] [LawfulBEq α] {x : α} {y : β} : ∀ {l : List (α × β)}, l.lookup x = some y → (x, y) ∈ l
  | [], h => by cases h
  | (a, b) :: l, h => by
    rw [List.lookup_cons] at h
    cases q : x == a with
    | true =>
      rw [q] at h
      rw [LawfulBEq.eq_of_beq q]
      cases h
      exact List.mem_cons_self
    | false =>
      rw [q] at h
      exact List.mem_cons_of_mem _ (lk_mem h)
theorem exL_mem {s y : Str} {b : Bool} (h : exL T s y = some b) : ((s, y), b) ∈ T := lk_mem h
theorem exT_tst (h : exTB K T = true) (y : Str) : Tst K y (fun s => exL T s y) := fun s b e => by
  have z := List.all_eq_true.mp h _ (exL_mem e)
  exact of_decide_eq_true (Bool.and_eq_true_iff.mp z).1
theorem exT_kst (h : exTB K T = true) (y s : Str) : Kst K y s (exL T s y) := fun b e => by
  have z := (Bool.and_eq_true_iff.mp (List.all_eq_true.mp h _ (exL_mem e))).2
  obtain ⟨z1, z2⟩ := Bool.and_eq_true_iff.mp z
  exact ⟨excIsB_ok z1, of_decide_eq_true z2⟩
end
def fldE2 (T : List (Str × Str)) (i : Nat) (f : Str) (ex : Ex) : M Rv := match T.contains (ex.cls, f) with
  | true => fldE i f ex
  | false => fun _ => .bad
section
variable {X : Cx} {TT : Tt} {W : WX} {pos : Pos} {i : Nat}
theorem pd_fldE2 {T : List (Str × Str)} {e f : Str} {a : Addr} {oe : Obj} {cls : Value} {d : Option Addr} {pn : List (Addr × Obj)} {ex : Ex} {p1 : Pos} (hz : Zc cls d oe) (hf : ∃ vs, oe.data = .fields vs) (hT : fldTB X.K T = true)
    (hN : X.N[i]? = some e := by rfl) (hv : Vis X.env.scope e := by exact Or.inl rfl) (hd1 : (e == ("__debug__" : Str)) = false := by decide) (hcd : (e == ("__classdict__" : Str)) = false := by decide)
    (hb : attributeBase (.Name e p1) f X.env (eval (.Name e p1) X.env) = eval (.Name e p1) X.env := by rfl) :
    PD (X.suite a ((a, oe) :: pn)) (TT.on a ex cls d) W (.Attribute (.Name e p1) f pos) (fldE2 T i f ex) := by
  cases h : T.contains (ex.cls, f) with
  | true =>
    have z := List.all_eq_true.mp hT _ (List.contains_iff_mem.mp h)
    obtain ⟨z1, z2⟩ := Bool.and_eq_true_iff.mp z
    have e : fldE2 T i f ex = fldE i f ex := by unfold fldE2; simp only [h]
    rw [e]
    exact pd_fldE (p := p1) hz hf (fun b _ => ⟨xfB_ok z1, He.eqO_ok z2⟩) hN hv hd1 hcd hb
  | false =>
    have e : fldE2 T i f ex = fun _ => .bad := by
      unfold fldE2
      simp only [h]
      rfl
    rw [e]
    exact pd_bad
end
section
variable {P : Program} {w : World} {K : PySem.W.Frag} {mg : Str → Option Value} {base : Heap} {x qual : Str} {params : Arguments} {scope : Scope} {f : Addr} {fd : FuncData} {k : Nat}
/-- def __init__(self, x): self.f = x -/
theorem okX0 {n0 n1 fld : Str} {C : Addr} {p2 p3 p4 p5 : Pos}
    (Fd : FunD K x qual params [.Assign [.Attribute (.Name n0 p2) fld p3] (.Name n1 p4) p5] scope [] [] f fd) (S : FnScope [n0, n1] [n0, n1] scope) (T : OexC K C) (hno : PySem.W.findIn K (.ref C) fld = some none)
    (v0 : Vis scope n0 := by exact Or.inl rfl) (v1 : Vis scope n1 := by exact Or.inl rfl)
    (hd0 : (n0 == ("__debug__" : Str)) = false := by decide) (hd1 : (n1 == ("__debug__" : Str)) = false := by decide) (hc0 : (n0 == ("__classdict__" : Str)) = false := by decide) (hc1 : (n1 == ("__classdict__" : Str)) = false := by decide)
    (hs : ∀ z E, swapsWith (.Name n1 p4) (some (.Attribute (.Name n0 p2) fld p3)) p5.line (Cb P w K mg base [n0, n1] qual scope f z E).env = pure false := by intro z E; rfl) :
    FnOk P w K mg base (L2.CX P w) (k + 1) f fd [n0, n1] (spX K C fld) := by
  refine okc Fd S (fun vs H Q E h => ?_) (fun A outer s H vs Q E hr h => ?_)
  · obtain ⟨a, v, rfl, _⟩ := h; rfl
  · obtain ⟨a, v, rfl, ha, hq⟩ := h
    refine ⟨_, pss_one (ps_ost (pe_var (i := 0) rfl v0 hd0 hc0) (pe_var (i := 1) rfl v1 hd1 hc1) (hs (fd.code, A, outer, s, H) E)), ?_⟩
    exact ⟨v, rfl, .ref a, rfl, a, C, rfl, T, hno, .inl ⟨ha, fun dx hd hne => hq dx hd hne⟩⟩
end
section
variable {X : Cx} {rest : List Stmt} {i : Nat} {acc : Str}
theorem rr_works0 {P : Addr} {cl : List (LamD × List (Str × Addr))} {p2 p3 p4 : Pos} (hr : RunsR X rest (tApps X.K i P cl)) (hN : X.N.Nodup) (hi : X.N[i]? = some acc) (hx : Loc X.env.scope acc) (hf : X.fn acc = true ∨ X.env.scope.names.lookup acc = some .local)
    (hs : swapsWith (.List [] p3) (some (.Name acc p2)) p4.line X.env = pure false := by rfl) :
    RunsR X (.Assign [.Name acc p2] (.List [] p3) p4 :: rest) (tWk X.K i P cl) := by
  intro pins s σ H R I hh
  refine rr_cons (ps_set hN hi hx (pe_lst pa_nil) hs hf) hr pins s σ H R I ?_
  show ([] : List V).length ≤ sizeLine ∧ ∀ p, H p = none → tApps X.K i P cl (σ.set i (some (.ref p))) (upd H p (.lst [])) R
  exact ⟨Nat.zero_le _, hh⟩
end
/-! ## the law's start, lent the table of lambdas -/
theorem law_startL {K : PySem.W.Frag} {TT : Tt} {Fn : List Rv → List Oc → GRes} {H : Hp} {a : Addr} {ns : List Int} {ob' : List Oc} (h : ∀ P, TT P → H P = some (.tbl #[])) (hP : H (He.cT K Lams.wd).2 = some (.tbl #[])) (hn : ¬ TT (He.cT K Lams.wd).2) (hS : SqL K H a (ns.map V.int))
    (hF : Fn [.dat (.list (ns.map PyData.int))] [.ltab] = .ok (.dat (.bool true)) ob') :
    spG K TT Fn [.ref a] H (fun v _ => v = .bl true) (fun _ _ _ => False) := by
  let TT2 : Tt := { TT with t := fun P => TT P ∨ P = (He.cT K Lams.wd).2 }
  have h2 : ∀ P, TT2 P → H P = some (.tbl #[]) := fun P z => by
    rcases z with z | z
    · exact h P z
    · rw [z]; exact hP
  have f0 : ∀ P, TT2 P → F0 TT2 H P = none := fun P z => by
    unfold F0
    rw [if_pos z]
  refine ⟨F0 TT2 H, [(He.cT K Lams.wd).2], [.ltab], [.dat (.list (ns.map PyData.int))], ⟨F0_same TT2 H, fun P t => ⟨⟨#[], h P t, trivial⟩, f0 P (.inl t)⟩, rfl, fun k b oc e1 e2 => ?_, by simp, fun b hb => ?_⟩, .cons (.lst ?_ (dpAll_ofInts ns)) .nil, ?_⟩
  · cases k with
    | succ k => simp at e1
    | zero =>
      simp at e1 e2
      subst e1 e2
      refine ⟨rfl, f0 _ (.inr rfl), #[], hP, trivial, fun pos cv hc => ?_⟩
      have z : codeAmong pos [] = some cv := hc
      simp [codeAmong] at z
  · have e : b = (He.cT K Lams.wd).2 := by simpa using hb
    rw [e]; exact hn
  · rcases hS with (e | ⟨o, e⟩) | e
    · exact .inl (.inl (F0_at e h2 (fun z => by cases z)))
    · exact .inl (.inr ⟨o, F0_at e h2 (fun z => by cases z)⟩)
    · exact .inr e
  · rw [hF]
    intro v F' al' H' _ hd
    cases hd
    rfl
end Pd

namespace Pd
open PySem PySem.Spec PyProof.Rows L2
variable [Lams]
theorem pss_bad {X : Cx} {TT : Tt} {W : WX} {st : List Stmt} : PSsD X TT W st (fun _ => .bad) := ⟨⟨fun _ _ _ => False, ⟨fun _ _ _ _ _ _ h => h.elim⟩, fun _ _ _ _ _ _ _ _ h => h⟩⟩
section
variable {X : Cx} {TT : Tt} {W : WX} {a b c : Expr} {fa fb fc : M Rv} {pos : Pos} {fs : M (List Rv)}
/-- three names at once, some of them captured: by the tuple -/
theorem sd_par3T (i j l : Nat) {x y z : Str} {px py pz pt : Pos} {kt k2 pt2} (hc : X.calm = true) (hN : X.N.Nodup) (ha : PAD X TT W [a, b, c] fs) (hi : X.N[i]? = some x := by rfl) (hj : X.N[j]? = some y := by rfl) (hl : X.N[l]? = some z := by rfl)
    (hx : Loc X.env.scope x := by first | exact Or.inl rfl | exact Or.inr rfl) (hy : Loc X.env.scope y := by first | exact Or.inl rfl | exact Or.inr rfl) (hz : Loc X.env.scope z := by first | exact Or.inl rfl | exact Or.inr rfl)
    (f1 : X.fn x = true := by rfl) (f2 : X.fn y = true := by rfl) (f3 : X.fn z = true := by rfl)
    (hw : swappedStores [.Tuple [.Name x px, .Name y py, .Name z pz] kt pt] (.Tuple [a, b, c] k2 pt2) X.env = pure none := by rfl)
    (hs : swapsWithSole [.Tuple [.Name x px, .Name y py, .Name z pz] kt pt] (.Tuple [a, b, c] k2 pt2) pos.line X.env = pure false := by rfl)
    (h2 : (assignEach [.Tuple [.Name x px, .Name y py, .Name z pz] kt pt] X.env).map (·.2) = [assign (.Tuple [.Name x px, .Name y py, .Name z pz] kt pt) X.env] := by rfl) :
    PSD X TT W (.Assign [.Tuple [.Name x px, .Name y py, .Name z pz] kt pt] (.Tuple [a, b, c] k2 pt2) pos) (bnd fs (par3 i j l)) := by
  obtain ⟨⟨t, pt, q⟩⟩ := ha
  refine ⟨⟨_, ps_asg (pe_tup pt) (pg_tup hc (pgs_cons (pg_name (i := i) hN hi hx (.inl f1)) (pgs_cons (pg_name (i := j) hN hj hy (.inl f2)) (pgs_cons (pg_name (i := l) hN hl hz (.inl f3)) pgs_nil)))) hs hw h2, fun g al en F σ H D s h => q g al en F σ H _ s (h.seq fun rs e F' al' H' l s2 p vs hv => ?_)⟩⟩
  unfold par3 at p
  have sj0 := fun (pp : Addr) (hp : H' pp = none) => s2.junk (.tup vs) hp
  split at p
  · cases hv with
    | cons h1 h2 =>
      cases h2 with
      | cons h3 h4 =>
        cases h4 with
        | cons h5 h6 =>
          cases h6
          refine ⟨by show 3 ≤ sizeLine; decide, fun pp hp => ?_⟩
          have sj := sj0 pp hp
          refine ⟨pp, _, rfl, .inl (.inl upd_same), rfl, _, _, rfl, _, _, rfl, _, _, rfl, rfl, ?_⟩
          exact p.next (Le.refl _ _) (((sj.setS h1).setS h3).setS h5)
  · exact p.elim
end
end Pd

namespace Pd
open PySem PySem.Spec PyProof.Rows L2
variable [Lams]
/-! ## owned things that no slot holds are forgotten -/
def heldB (sl : List (Option Rv)) (k : Nat) : Bool := sl.any fun o => match o with
  | some (.own j) => j == k
  | _ => false
def swpO (sl : List (Option Rv)) : Nat → List Oc → List Oc
  | _, [] => []
  | k, .ltab :: r => .ltab :: swpO sl (k + 1) r
  | k, oc :: r => (if heldB sl k = true then oc else .any) :: swpO sl (k + 1) r
def swp (G : M Fl) : M Fl := fun en => match G en with
  | .ok .nx e => .ok .nx { e with ob := swpO e.sl 0 e.ob }
  | o => o
theorem swpO_len (sl : List (Option Rv)) : ∀ (k : Nat) (ob : List Oc), (swpO sl k ob).length = ob.length
  | _, [] => rfl
  | k, oc :: r => by cases oc <;> simp [swpO, swpO_len sl (k + 1) r]
theorem swpO_get (sl : List (Option Rv)) : ∀ (k : Nat) (ob : List Oc) (i : Nat) (oc : Oc), (swpO sl k ob)[i]? = some oc → ob[i]? = some oc ∨ (oc = .any ∧ ∃ oc', ob[i]? = some oc' ∧ oc' ≠ .ltab)
  | _, [], i, oc, h => by simp [swpO] at h
  | k, o :: r, 0, oc, h => by
    cases o with
    | ltab =>
      simp [swpO] at h
      subst h
      exact .inl rfl
    | _ =>
      simp only [swpO, List.getElem?_cons_zero, Option.some.injEq] at h
      split at h
      · subst h; exact .inl rfl
      · subst h; exact .inr ⟨rfl, _, rfl, by intro z; cases z⟩
  | k, o :: r, i + 1, oc, h => by
    have h' : (swpO sl (k + 1) r)[i]? = some oc := by cases o <;> simpa [swpO] using h
    simpa using swpO_get sl (k + 1) r i oc h'
theorem ocOk_any {K : PySem.W.Frag} {F H : Hp} {al : List Addr} {a : Addr} {oc : Oc} (s : Same F H) (h : OcOk K F al H a oc) (n : oc ≠ .ltab) : OcOk K F al H a .any := by
  cases oc with
  | lst rs => obtain ⟨_, xs, e, _⟩ := h; exact ⟨_, e, (fun xs z => by cases z), (fun ob z => by cases z)⟩
  | fz ds => obtain ⟨xs, e, _⟩ := h; exact ⟨_, s _ _ e, (fun xs z => by cases z), (fun ob z => by cases z)⟩
  | dk kvs => obtain ⟨_, xs, e, _⟩ := h; exact ⟨_, e, (fun xs z => by cases z), (fun ob z => by cases z)⟩
  | dt kvs => obtain ⟨_, xs, e, _⟩ := h; exact ⟨_, e, (fun xs z => by cases z), (fun ob z => by cases z)⟩
  | ins m fs => obtain ⟨_, dx, xs, e, _⟩ := h; exact ⟨_, e, (fun xs z => by cases z), (fun ob z => by cases z)⟩
  | fk kvs => obtain ⟨od, xs, e, _⟩ := h; exact ⟨_, s _ _ e, (fun xs z => by cases z), (fun ob z => by cases z)⟩
  | ft kvs => obtain ⟨od, xs, e, _⟩ := h; exact ⟨_, s _ _ e, (fun xs z => by cases z), (fun ob z => by cases z)⟩
  | ltab => exact absurd rfl n
  | any => exact h
theorem Sv.swp {K : PySem.W.Frag} {TT : Tt} {g : Gh} {al : List Addr} {en : En} {F : Hp} {σ : L2.St} {H : Hp} (s : Sv K TT g al en F σ H) (sl : List (Option Rv)) : Sv K TT g al { en with ob := swpO sl 0 en.ob } F σ H :=
  { s with
    alen := by rw [swpO_len]; exact s.alen
    objs := fun k a oc e1 e2 => by
      rcases swpO_get sl 0 en.ob k oc e2 with h | ⟨rfl, oc', h, n⟩
      · exact s.objs k a oc e1 h
      · exact ocOk_any s.sub (s.objs k a oc' e1 h) n }
theorem sd_swp {X : Cx} {TT : Tt} {W : WX} {st : Stmt} {G : M Fl} (h : PSD X TT W st G) : PSD X TT W st (swp G) := by
  obtain ⟨⟨t, pt, q⟩⟩ := h
  refine ⟨⟨t, pt, fun g al en F σ H D s h => q g al en F σ H D s ?_⟩⟩
  unfold Pd.swp at h
  cases e : G en with
  | bad => rw [e] at h; exact h
  | exc x e' => rw [e] at h; exact h
  | ok fl e' =>
    rw [e] at h
    cases fl with
    | nx => exact fun F' al' σ' H' l s2 => h F' al' σ' H' l (s2.swp e'.sl)
    | ret r => exact h
    | brk => exact h
    | cnt => exact h
end Pd

namespace Pd
open PySem PySem.Spec PyProof.Rows L2
variable [Lams]
/-! ## methods and constructors that may raise -/
def tMethS (C : Addr) (m : Str) (sp : Sp) (W : WX) (to : TE) (ta : TA) : TE := fun σ H Q => to σ H fun x H1 => ∃ a dx fs, x = .ref a ∧ H1 a = some (.ins C dx fs) ∧ fs.lookup m = none ∧ ta σ H1 fun vs H2 => sp (.ref a :: vs) H2 Q (WE W σ)
section
variable {X : Cx} {k : Nat} {f C : Addr} {fd : FuncData} {ps : List Str} {sp : Sp} {W : WX} {x m : Str} {p pos apos : Pos} {e o : Expr} {es : List Expr} {ta : TE} {t : TA}
theorem pe_methS {pl : Sem Bool} (he : PE X o ta) (c : Cls X.K C) (hm : Meth X.K C m f) (F : FnOk X.prog X.w X.K X.mg X.base (L2.CX X.prog X.w) k f fd ps sp) (hr : Room k X.A) (hb : Binds X.K fd ps []) (hx : ∀ σ, PassesAt (L2.CX X.prog X.w) X σ (WE W σ)) (ha : PA X (e :: es) t)
    (hst : starEach (e :: es) X.env = (false, eval e X.env) :: starEach es X.env := by rfl) (hpl : (backTo pos (starEach es X.env)).any (·.1) = false := by rfl)
    (ht : eval (.Call (.Attribute o m apos) (e :: es) [] pos) X.env = (do
      let ov ← eval o X.env
      standAt apos.atName
      let (f, first) ← holding [ov] (getMethod ov m pl)
      callWith pos f first (backTo pos (starEach (e :: es) X.env)) (backToKw pos (keywordEach [] X.env))) := by rfl) :
    PE X (.Call (.Attribute o m apos) (e :: es) [] pos) (tMethS C m sp W ta t) := by
  refine ⟨fun pins s σ H Q I h => ?_⟩
  refine PySem.W.methodCall_KW (pl := pl) (thn (he.run pins s σ H _ I h) fun u s1 ⟨x, H1, I1, rx, a, dx, fs, ex, ea, l, q⟩ => ?_) ht
  subst ex
  obtain rfl : u = Value.ref a := rx
  refine getmeth_ok I1 ea c hm l ?_
  refine PySem.W.callWith_K (first := [.ref a]) (h₀ := X.base) I.ok.mod.kin hm.kp (thn (ha.run pos pins s1 σ H1 _ I1 q) fun us s2 ⟨vs, H2, I2, r, q2⟩ => ⟨I2.kIn, ?_⟩) hst hpl
  exact run_fnS (us := .ref a :: us) (vs := .ref a :: vs) F hr hb (hx σ) I2 (.cons rfl r) q2
theorem pe_meth0S {pl : Sem Bool} (he : PE X o ta) (c : Cls X.K C) (hm : Meth X.K C m f) (F : FnOk X.prog X.w X.K X.mg X.base (L2.CX X.prog X.w) k f fd ps sp) (hr : Room k X.A) (hb : Binds X.K fd ps []) (hx : ∀ σ, PassesAt (L2.CX X.prog X.w) X σ (WE W σ))
    (ht : eval (.Call (.Attribute o m apos) [] [] pos) X.env = (do
      let ov ← eval o X.env
      standAt apos.atName
      let (f, first) ← holding [ov] (getMethod ov m pl)
      callWith pos f first (backTo pos (starEach [] X.env)) (backToKw pos (keywordEach [] X.env))) := by rfl) :
    PE X (.Call (.Attribute o m apos) [] [] pos) (tMethS C m sp W ta tNil) := by
  refine ⟨fun pins s σ H Q I h => ?_⟩
  refine PySem.W.methodCall_KW (pl := pl) (thn (he.run pins s σ H _ I h) fun u s1 ⟨x, H1, I1, rx, a, dx, fs, ex, ea, l, q⟩ => ?_) ht
  subst ex
  obtain rfl : u = Value.ref a := rx
  refine getmeth_ok I1 ea c hm l ?_
  exact PySem.W.callWith_K0 (first := [.ref a]) I1.kIn hm.kp (run_fnS (us := [.ref a]) (vs := [.ref a]) F hr hb (hx σ) I1 (.cons rfl .nil) q)
def fMethX (n m : Str) (Fn : List Rv → List Oc → GRes) (fo : M Rv) (fs : M (List Rv)) : M Rv := bnd fo fun r => bnd (recM n m r) fun _ => bnd fs fun rs => callG Fn (r :: rs)
theorem methX_core {TT : Tt} {n m : Str} {Fn : List Rv → List Oc → GRes} {fo : M Rv} {fs : M (List Rv)} {t : TE} {u : TA}
    (q : ∀ g al en F σ H Q, Sv X.K TT g al en F σ H → Post X.K TT W g F al σ (fo en) (fun r _ F' al' H' => ∀ v, RvR X.K F' al' v r → Q v H') → t σ H Q)
    (q2 : ∀ g al en F σ H Q, Sv X.K TT g al en F σ H → Post X.K TT W g F al σ (fs en) (fun rs _ F' al' H' => ∀ vs, RvAll X.K F' al' vs rs → Q vs H') → u σ H Q)
    {g : Gh} {al : List Addr} {en : En} {F : Hp} {σ : L2.St} {H : Hp} {Q : VK} (s : Sv X.K TT g al en F σ H) (h : Post X.K TT W g F al σ (fMethX n m Fn fo fs en) (fun r _ F' al' H' => ∀ v, RvR X.K F' al' v r → Q v H')) :
    tMethS (He.ga X.K n) m (spG X.K TT Fn) W t u σ H Q := by
  refine q g al en F σ H _ s (Post.seq h fun r e1 F1 a1 H1 l1 s1 p1 v1 r1 => ?_)
  unfold bnd recM at p1
  split at p1
  · rename_i _ e2 hrec
    split at hrec
    · rename_i k
      split at hrec
      · rename_i n' fs' eo
        split at hrec
        · rename_i hc
          obtain ⟨rfl, hnl⟩ := hc
          cases hrec
          obtain ⟨ar, ea, rfl⟩ := r1
          obtain ⟨fn, dx, vs, hv, hr⟩ := s1.objs k ar _ ea eo
          refine ⟨ar, dx, vs, rfl, hv, kvR_nolook hr hnl, ?_⟩
          have p1 : Post X.K TT W g F1 a1 σ (bnd fs (fun rs => callG Fn (.own k :: rs)) e1) (fun r _ F' al' H' => ∀ v, RvR X.K F' al' v r → Q v H') := p1
          refine q2 g a1 e1 F1 σ H1 _ s1 (Post.seq p1 fun rs e3 F3 a3 H3 l3 s3 p3 ws rw_ => ?_)
          refine ⟨F3, a3, e3.ob, .own k :: rs, s3.tb, .cons ⟨ar, pre_get l3.a ea, rfl⟩ rw_, ?_⟩
          unfold callG at p3
          split
          · rename_i r' ob' e
            rw [e] at p3
            exact fun v F' al' H' hf hd => p3 F' al' H' hf.le (s3.gf hf) v hd
          · rename_i x ob' e
            rw [e] at p3
            exact fun cls dO F' al' H' hf hx => p3 F' al' H' cls dO hf.le (s3.gf hf) hx
          · rename_i e
            rw [e] at p3
            exact p3
        · cases hrec
      · cases hrec
    · cases hrec
  · rename_i x e' hrec
    split at hrec
    · split at hrec
      · split at hrec
        · cases hrec
        · cases hrec
      · cases hrec
    · cases hrec
  · exact p1.elim
theorem pd_methX {TT : Tt} {n : Str} {Fn : List Rv → List Oc → GRes} {fo : M Rv} {fs : M (List Rv)} {pl : Sem Bool} (c : Cls X.K (He.ga X.K n)) (hm : Meth X.K (He.ga X.K n) m f) (G : FnOk X.prog X.w X.K X.mg X.base (L2.CX X.prog X.w) k f fd ps (spG X.K TT Fn)) (hr : Room k X.A) (hb : Binds X.K fd ps [])
    (hx : ∀ σ, PassesAt (L2.CX X.prog X.w) X σ (WE W σ)) (ho : PD X TT W o fo) (ha : PAD X TT W (e :: es) fs)
    (hst : starEach (e :: es) X.env = (false, eval e X.env) :: starEach es X.env := by rfl) (hpl : (backTo pos (starEach es X.env)).any (·.1) = false := by rfl)
    (ht : eval (.Call (.Attribute o m apos) (e :: es) [] pos) X.env = (do
      let ov ← eval o X.env
      standAt apos.atName
      let (f, first) ← holding [ov] (getMethod ov m pl)
      callWith pos f first (backTo pos (starEach (e :: es) X.env)) (backToKw pos (keywordEach [] X.env))) := by rfl) :
    PD X TT W (.Call (.Attribute o m apos) (e :: es) [] pos) (fMethX n m Fn fo fs) := by
  obtain ⟨⟨t, pt, q⟩⟩ := ho
  obtain ⟨⟨u, pu, q2⟩⟩ := ha
  exact ⟨⟨_, pe_methS (W := W) pt c hm G hr hb hx pu hst hpl ht, fun g al en F σ H Q s h => methX_core q q2 s h⟩⟩
theorem pd_methX0 {TT : Tt} {n : Str} {Fn : List Rv → List Oc → GRes} {fo : M Rv} {pl : Sem Bool} (c : Cls X.K (He.ga X.K n)) (hm : Meth X.K (He.ga X.K n) m f) (G : FnOk X.prog X.w X.K X.mg X.base (L2.CX X.prog X.w) k f fd ps (spG X.K TT Fn)) (hr : Room k X.A) (hb : Binds X.K fd ps [])
    (hx : ∀ σ, PassesAt (L2.CX X.prog X.w) X σ (WE W σ)) (ho : PD X TT W o fo)
    (ht : eval (.Call (.Attribute o m apos) [] [] pos) X.env = (do
      let ov ← eval o X.env
      standAt apos.atName
      let (f, first) ← holding [ov] (getMethod ov m pl)
      callWith pos f first (backTo pos (starEach [] X.env)) (backToKw pos (keywordEach [] X.env))) := by rfl) :
    PD X TT W (.Call (.Attribute o m apos) [] [] pos) (fMethX n m Fn fo fNil) := by
  obtain ⟨⟨t, pt, q⟩⟩ := ho
  exact ⟨⟨_, pe_meth0S (W := W) pt c hm G hr hb hx ht, fun g al en F σ H Q s h => methX_core q (u := tNil) (fun g al en F σ H Q s h => h.here s [] .nil) s h⟩⟩
/-! ## constructors that may raise -/
def tMakeS (C : Addr) (sp : Sp) (W : WX) (t : TA) : TE := fun σ H Q => t σ H fun vs H1 => ∀ x dx, H1 x = none → H1 dx = none → dx ≠ x → sp (.ref x :: vs) (upd (upd H1 dx (.own x)) x (.ins C dx [])) (fun v H2 => v = .non ∧ Q (.ref x) H2) (WE W σ)
theorem run_makeS {pins : List (Addr × Obj)} {σ : L2.St} {H : Hp} {s : Shared} {Q : VK} {us : List Value} {vs : List V} (M : Mk X.K C f) (F : FnOk X.prog X.w X.K X.mg X.base (L2.CX X.prog X.w) k f fd ps sp) (hr : Room (k + 1) X.A) (hb : Binds X.K fd ps [])
    (hx : PassesAt (L2.CX X.prog X.w) X σ (WE W σ)) (I : Inv X pins σ H s) (r : Vals vs us)
    (h : ∀ x dx, H x = none → H dx = none → dx ≠ x → sp (.ref x :: vs) (upd (upd H dx (.own x)) x (.ins C dx [])) (fun v H2 => v = .non ∧ Q (.ref x) H2) (WE W σ)) :
    wpAny (model X.prog X.w) X.A (call (.ref C) us) (EP X pins σ Q) X.xe s := by
  have hq := h (s.heap.objs.size + 1) s.heap.objs.size (I.hok.fresh (Nat.le_succ _)) (I.hok.fresh (Nat.le_refl _)) (Nat.ne_of_lt (Nat.lt_succ_self _))
  have I2 := Inv.made (C := C) I
  have r2 : Vals (V.ref (s.heap.objs.size + 1) :: vs) (Value.ref (s.heap.objs.size + 1) :: us) := .cons rfl r
  have hl : (Value.ref (s.heap.objs.size + 1) :: us).length = ps.length := by
    have e := r2.length
    rw [F.len _ _ _ _ hq] at e
    exact e.symm
  have hbn := hb _ (Value.ref (s.heap.objs.size + 1) :: us) I2.kIn (by rw [List.append_nil]; exact hl)
  rw [List.append_nil] at hbn
  refine wpAny_call (make_map (f := f) I.kIn M.makes M.init (beq_iff_eq.mp M.fn) (codeAny_mono (F.run _ X.stack _ _ ⟨Value.ref (s.heap.objs.size + 1) :: us, []⟩ (Value.ref (s.heap.objs.size + 1) :: us) _ _ (WE W σ) (hr.make C us [])
    (I2.env0.make C us []) hbn r2 hq) fun r s' hq' => ?_))
  cases r with
  | error e => exact hx pins _ _ e s' I2 hq'
  | ok fl =>
    cases fl with
    | ret u =>
      obtain ⟨v, H', I3, rv, ev, q3⟩ := I2.after hq'
      subst ev
      exact ⟨rv, ⟨V.ref (s.heap.objs.size + 1), H', I3, rfl, q3⟩⟩
    | next => exact False.elim hq'
    | brk => exact False.elim hq'
    | cont => exact False.elim hq'
theorem pe_makeS (M : Mk X.K C f) (F : FnOk X.prog X.w X.K X.mg X.base (L2.CX X.prog X.w) k f fd ps sp) (hr : Room (k + 1) X.A) (hg : Gl X x) (hm : X.mg x = some (.ref C)) (hb : Binds X.K fd ps []) (hx : ∀ σ, PassesAt (L2.CX X.prog X.w) X σ (WE W σ))
    (ha : PA X (e :: es) t) (hdb : (x == ("__debug__" : Str)) = false := by decide) (he : starEach (e :: es) X.env = (false, eval e X.env) :: starEach es X.env := by rfl) (hpl : (backTo pos (starEach es X.env)).any (·.1) = false := by rfl) :
    PE X (.Call (.Name x p) (e :: es) [] pos) (tMakeS C sp W t) := by
  refine ⟨fun pins s σ H Q I h => ?_⟩
  refine wpAny_Call_Name_kw (ld_glob I hg hm ?_ hdb)
  refine PySem.W.callWith_K (h₀ := X.base) I.ok.mod.kin M.kp (thn (ha.run pos pins s σ H _ I h) fun us s1 ⟨vs, H1, I1, r, q⟩ => ⟨I1.kIn, ?_⟩) he hpl
  exact run_makeS M F hr hb (hx σ) I1 r q
def makeX (n : Str) (Fn : List Rv → List Oc → GRes) (rs : List Rv) : M Rv := fun en => match Fn (.own en.ob.length :: rs) (en.ob ++ [.ins n []]) with
  | .ok (.dat .none) ob' => .ok (.own en.ob.length) { en with ob := ob' }
  | .exc x ob' => .exc x { en with ob := ob' }
  | _ => .bad
theorem pd_makeX {TT : Tt} {n : Str} {Fn : List Rv → List Oc → GRes} {fs : M (List Rv)} (Mk_ : Mk X.K (He.ga X.K n) f) (G : FnOk X.prog X.w X.K X.mg X.base (L2.CX X.prog X.w) k f fd ps (spG X.K TT Fn)) (hr : Room (k + 1) X.A) (hm : X.mg n = some (.ref (He.ga X.K n))) (hb : Binds X.K fd ps [])
    (hx : ∀ σ, PassesAt (L2.CX X.prog X.w) X σ (WE W σ)) (ha : PAD X TT W (e :: es) fs)
    (hg : Gl X n := by rfl) (hdb : (n == ("__debug__" : Str)) = false := by decide) (he : starEach (e :: es) X.env = (false, eval e X.env) :: starEach es X.env := by rfl) (hpl : (backTo pos (starEach es X.env)).any (·.1) = false := by rfl) :
    PD X TT W (.Call (.Name n p) (e :: es) [] pos) (bnd fs (makeX n Fn)) := by
  obtain ⟨⟨u, pu, q2⟩⟩ := ha
  refine ⟨⟨_, pe_makeS (W := W) Mk_ G hr hg hm hb hx pu hdb he hpl, fun g al en F σ H Q s h => ?_⟩⟩
  refine q2 g al en F σ H _ s (Post.seq h fun rs e1 F1 a1 H1 l1 s1 p1 vs rv => ?_)
  intro x dx hx hdx hne
  have s2 := s1.junk (.own x) hdx
  have hx2 : upd H1 dx (.own x) x = none := by rw [upd_ne (Ne.symm hne)]; exact hx
  have s3 := s2.newOc (p := x) (o := .ins (He.ga X.K n) dx []) (oc := .ins n []) hx2 ⟨dx, [], rfl, .nil⟩
  have lx : Le F1 a1 F1 (a1 ++ [x]) := le_own
  have ex : (a1 ++ [x])[e1.ob.length]? = some x := by rw [← s1.alen, List.getElem?_append_right (Nat.le_refl _)]; simp
  refine ⟨F1, a1 ++ [x], e1.ob ++ [.ins n []], .own e1.ob.length :: rs, s3.tb, .cons ⟨x, ex, rfl⟩ (rv.mono lx), ?_⟩
  unfold makeX at p1
  cases eF : Fn (.own e1.ob.length :: rs) (e1.ob ++ [.ins n []]) with
  | bad => rw [eF] at p1; exact p1.elim
  | exc ex ob' =>
    rw [eF] at p1
    exact fun cls dO F' al' H' hf hx => p1 F' al' H' cls dO (lx.trans hf.le) (s3.gf hf) hx
  | ok r ob' =>
    rw [eF] at p1
    simp only at p1 ⊢
    intro v F' al' H' hf hv
    cases r with
    | own _ => exact p1.elim
    | fn _ _ => exact p1.elim
    | fns _ => exact p1.elim
    | exv => exact p1.elim
    | dat d =>
      cases d with
      | none =>
        cases hv
        exact ⟨rfl, p1 F' al' H' (lx.trans hf.le) (s3.gf hf) _ ⟨x, pre_get hf.a ex, rfl⟩⟩
      | _ => exact p1.elim
end
end Pd

namespace Pd
open PySem PySem.Spec PyProof.Rows L2
variable [Lams]
section
variable {X : Cx} {TT : Tt} {W : WX} {a b c o : Expr} {fa fb fo : M Rv} {pos p pos' tpos : Pos}
/-! ## list(range(a, b)) -/
def rgD (i j : Int) : List PyData := (List.range (j - i).toNat).map fun k => PyData.int (i + (k : Nat))
theorem dpAll_rg {K : PySem.W.Frag} {F : Hp} (i : Int) : ∀ l : List Nat, DpAll K F (l.map fun k => V.int (i + (k : Nat))) (l.map fun k => PyData.int (i + (k : Nat)))
  | [] => .nil
  | k :: r => .cons (.int _) (dpAll_rg i r)
def listRgM (x y : Rv) : M Rv := fun en => match x, y with
  | .dat (.int i), .dat (.int j) => if -1000000 ≤ i ∧ i ≤ 1000000 ∧ -1000000 ≤ j ∧ j ≤ 1000000 then newL ((rgD i j).map Rv.dat) en else .bad
  | _, _ => .bad
theorem pd_listRg (hcalm : X.calm = true) (hg : Gl X "list") (hm : X.mg "list" = none) (hg2 : Gl X "range") (hm2 : X.mg "range" = none) (ha : PD X TT W a fa) (hb : PD X TT W b fb)
    (na : starEach [a, b] X.env = (false, eval a X.env) :: starEach [b] X.env := by rfl) (nb : starEach [b] X.env = (false, eval b X.env) :: starEach [] X.env := by rfl) (hp : (backTo pos' (starEach [b] X.env)).any (·.1) = false := by rfl)
    (nc : starEach [.Call (.Name "range" p) [a, b] [] pos'] X.env = (false, eval (.Call (.Name "range" p) [a, b] [] pos') X.env) :: starEach [] X.env := by rfl) :
    PD X TT W (.Call (.Name "list" tpos) [.Call (.Name "range" p) [a, b] [] pos'] [] pos) (bnd fa fun x => bnd fb fun y => listRgM x y) := by
  obtain ⟨⟨t, pt, q⟩⟩ := ha
  obtain ⟨⟨u, pu, q2⟩⟩ := hb
  refine ⟨⟨_, pe_listRg hcalm hg hm (prg_2 hg2 hm2 pt pu na nb hp) nc, fun g al en F σ H Q s h => ?_⟩⟩
  refine q g al en F σ H _ s (Post.seq h fun x e1 F1 a1 H1 l1 s1 p1 v1 r1 => ?_)
  refine q2 g a1 e1 F1 σ H1 _ s1 (Post.seq p1 fun y e2 F2 a2 H2 l2 s2 p2 v2 r2 => ?_)
  unfold listRgM at p2
  split at p2
  · rename_i i j
    split at p2
    · rename_i hz
      cases r1; cases r2
      refine ⟨i, j, rfl, rfl, ⟨by omega, by omega, by omega, by omega, by omega⟩, fun q hq => newL_post s2 hq (rvAll_dat (dpAll_rg i _)) p2⟩
    · exact p2.elim
  · exact p2.elim
/-! ## e.f += value, ints -/
def augS (n f : Str) (r : Rv) (i : Int) (w : Rv) : M Fl := fun en => match w with
  | .dat (.int j) => setFM n f r (.dat (.int (i + j))) en
  | _ => .bad
def augF (n f : Str) (fa : M Rv) (r : Rv) : M Fl := fun en => match r with
  | .own k => (match en.ob[k]? with
    | some (.ins m fs) => if m = n then (match valR fs f with
      | some (.dat (.int i)) => (bnd fa fun w => augS n f r i w) en
      | _ => .bad) else .bad
    | _ => .bad)
  | _ => .bad
theorem sd_fldaug (n f : Str) (hc : Cls X.K (He.ga X.K n)) (hn : NoAttr X.K (He.ga X.K n) f) (ho : PD X TT W o fo) (hv : PD X TT W a fa) :
    PSD X TT W (.AugAssign (.Attribute o f tpos) .Add a pos) (bnd fo (augF n f fa)) := by
  obtain ⟨⟨t0, pt0, q0⟩⟩ := hv
  obtain ⟨⟨t, pt, q⟩⟩ := ho
  refine ⟨⟨_, ps_fldaug pt pt0 in_add, fun g al en F σ H D s h => ?_⟩⟩
  refine q g al en F σ H _ s (h.seq fun r e1 F1 a1 H1 l1 s1 p1 v1 r1 => ?_)
  unfold augF at p1
  split at p1
  · rename_i k
    split at p1
    · rename_i m fs eo
      split at p1
      · rename_i em
        subst em
        split at p1
        · rename_i i ew
          obtain ⟨ar, ea, rfl⟩ := r1
          obtain ⟨fn, dx, vs, hvs, hr⟩ := s1.objs k ar _ ea eo
          obtain ⟨u, eu1, eu2⟩ := kvR_lookup hr ew
          cases eu2
          refine ⟨ar, _, dx, vs, _, rfl, hvs, hc, hn, eu1, ?_⟩
          refine q0 g a1 e1 F1 σ H1 _ s1 (p1.seq fun w e2 F2 a2 H2 l2 s2 p2 y ry => ?_)
          unfold augS at p2
          split at p2
          · rename_i j
            cases ry
            refine ⟨i, j, rfl, rfl, ?_⟩
            have p3 : PostS X.K TT W g F2 a2 ((match e2.ob[k]? with
              | some (.ins m2 fs2) => if m2 = m ∧ fs2.length < 1000 then .ok .nx { e2 with ob := e2.ob.set k (.ins m2 (putFR f (Rv.dat (PyData.int (i + j))) fs2)) } else .bad
              | _ => .bad : Out Fl)) D := p2
            split at p3
            · rename_i m2 fs2 eo2
              split at p3
              · rename_i em2
                obtain ⟨hm2, hl⟩ := em2
                subst hm2
                obtain ⟨fn2, dx2, vs2, hvs2, hr2⟩ := s2.objs k ar _ (pre_get l2.a ea) eo2
                exact ⟨dx2, vs2, hvs2, by rw [kvR_len hr2]; exact hl, p3.next (Le.refl _ _) (s2.writeOc (pre_get l2.a ea) eo2 rfl ⟨dx2, _, rfl, kvR_putF (r := .dat (.int (i + j))) (.int _) hr2⟩)⟩
              · exact p3.elim
            · exact p3.elim
          · exact p2.elim
        · exact p1.elim
      · exact p1.elim
    · exact p1.elim
  · exact p1.elim
/-! ## a property read; no exception comes out -/
def insM (n : Str) (r : Rv) : M Unit := fun en => match r with
  | .own k => (match en.ob[k]? with
    | some (.ins n' fs) => if n' = n then .ok () en else .bad
    | _ => .bad)
  | _ => .bad
def propM (n : Str) (Fn : List Rv → List Oc → GRes) (r : Rv) : M Rv := fun en => match r with
  | .own k => (match en.ob[k]? with
    | some (.ins n' fs) => if n' = n then callG Fn [r] en else .bad
    | _ => .bad)
  | _ => .bad
theorem pd_prop {n f : Str} {Fn : List Rv → List Oc → GRes} {k : Nat} {pa ga : Addr} {fd : FuncData} {ps : List Str} (c : Cls X.K (He.ga X.K n)) (hp : PropOf X.K (He.ga X.K n) f pa ga)
    (G : FnOk X.prog X.w X.K X.mg X.base (L2.CX X.prog X.w) k ga fd ps (spG X.K TT Fn)) (hr : Room (k + 1) X.A) (hb : Binds X.K fd ps []) (ho : PD X TT W o fo) (hab : attributeBase o f X.env (eval o X.env) = eval o X.env := by rfl) :
    PD X TT W (.Attribute o f pos) (bnd fo (propM n (noX Fn))) := by
  obtain ⟨⟨t, pt, q⟩⟩ := ho
  refine ⟨⟨_, pe_prop (dvs := []) (ds := []) (E := E0) pt c hp (G.imp spG_noX) hr hb .nil passL hab, fun g al en F σ H Q s h => ?_⟩⟩
  refine q g al en F σ H _ s (Post.seq h fun r e1 F1 a1 H1 l1 s1 p1 v1 r1 => ?_)
  unfold propM at p1
  split at p1
  · rename_i k'
    split at p1
    · rename_i n' fs' eo
      split at p1
      · rename_i hc
        subst hc
        obtain ⟨ar, ea, rfl⟩ := r1
        obtain ⟨fn, dx, vs, hv, hr'⟩ := s1.objs k' ar _ ea eo
        refine ⟨ar, dx, vs, rfl, hv, F1, a1, e1.ob, [.own k'], s1.tb, .cons ⟨ar, ea, rfl⟩ .nil, ?_⟩
        unfold callG at p1
        split
        · rename_i r' ob' e
          rw [e] at p1
          exact fun v F' al' H' hf hd => p1 F' al' H' hf.le (s1.gf hf) v hd
        · rename_i x ob' e
          exact absurd e (noX_no _ _ _ _)
        · rename_i e
          rw [e] at p1
          exact p1
      · exact p1.elim
    · exact p1.elim
  · exact p1.elim
end
end Pd

namespace Pd
open PySem PySem.Spec PyProof.Rows L2
/-! ## facts of properties -/
/-- the getter of the property f of the class n -/
def pgA (K : PySem.W.Frag) (n f : Str) : Addr := match PySem.W.recIn K (He.ma K (He.ga K n) f) "property" with
  | some (.ref g :: _) => g
  | _ => 0
def propB (K : PySem.W.Frag) (n f : Str) : Bool :=
  He.eqO (PySem.W.findIn K (.ref (He.ga K n)) f) (some (some (.ref (He.ma K (He.ga K n) f)))) &&
  (He.eqO (PySem.W.specialIn K (.ref (He.ma K (He.ga K n) f)) "__get__") (some (some (.builtin "property.__get__"))) &&
  (decide (PySem.W.takesIn K (.ref (He.ma K (He.ga K n) f)) = some true) &&
  (match PySem.W.recIn K (He.ma K (He.ga K n) f) "property" with
    | some (.ref g :: _) => true
    | _ => false)))
theorem propB_ok {K : PySem.W.Frag} {n f : Str} (h : propB K n f = true) : PropOf K (He.ga K n) f (He.ma K (He.ga K n) f) (pgA K n f) := by
  obtain ⟨h1, h⟩ := He.ba h
  obtain ⟨h2, h⟩ := He.ba h
  obtain ⟨h3, h4⟩ := He.ba h
  refine ⟨He.eqO_ok h1, He.eqO_ok h2, of_decide_eq_true h3, ?_⟩
  unfold pgA
  split at h4
  · rename_i g r e
    rw [e]
    exact ⟨r, rfl⟩
  · cases h4
end Pd

namespace Pd
open PySem PySem.Spec PyProof.Rows L2
variable [Lams]
/-! ## owned things behind the n-th are dropped -/
def rvB (n : Nat) : Rv → Bool
  | .dat _ => true
  | .own k => decide (k < n)
  | _ => false
def ocB (n : Nat) : Oc → Bool
  | .lst rs => rs.all (rvB n)
  | .dk kvs => kvs.all fun p => rvB n p.2
  | .dt kvs => kvs.all fun p => rvB n p.2
  | .ins _ fs => fs.all fun p => rvB n p.2
  | .fk kvs => kvs.all fun p => rvB n p.2
  | .ft kvs => kvs.all fun p => rvB n p.2
  | _ => true
def wpS (n : Nat) : Option Rv → Option Rv
  | some (.dat d) => some (.dat d)
  | some (.own k) => if k < n then some (.own k) else none
  | _ => none
def truncN (n : Nat) (o : Out Fl) : Out Fl := match o with
  | .ok .nx e => if (e.ob.take n).all (ocB n) = true then .ok .nx ⟨e.sl.map (wpS n), e.ob.take n⟩ else .bad
  | o => o
def trunc (G : M Fl) : M Fl := fun en => truncN en.ob.length (G en)
section
variable {K : PySem.W.Frag} {F H : Hp} {al al' : List Addr}
theorem preL {a : Addr} {k : Nat} (h : al <+: al') (hk : k < al.length) (e : al'[k]? = some a) : al[k]? = some a := by
  obtain ⟨t, rfl⟩ := h
  rw [List.getElem?_append_left hk] at e
  exact e
theorem RvR.back {v : V} {r : Rv} (l : al <+: al') (h : RvR K F al' v r) (b : rvB al.length r = true) : RvR K F al v r := by
  cases r with
  | dat d => exact h
  | own k =>
    obtain ⟨a, e, q⟩ := h
    exact ⟨a, preL l (of_decide_eq_true b) e, q⟩
  | fn j caps => cases b
  | fns js => cases b
  | exv => cases b
theorem RvAll.back (l : al <+: al') : ∀ {vs : List V} {rs : List Rv}, RvAll K F al' vs rs → rs.all (rvB al.length) = true → RvAll K F al vs rs
  | _, _, .nil, _ => .nil
  | _, _, .cons r t, b => by
    rw [List.all_cons, Bool.and_eq_true] at b
    exact .cons (r.back l b.1) (RvAll.back l t b.2)
theorem KvR.back {κ : Type} (l : al <+: al') : ∀ {vs : List (κ × V)} {rs : List (κ × Rv)}, KvR K F al' vs rs → (rs.all fun p => rvB al.length p.2) = true → KvR K F al vs rs
  | _, _, .nil, _ => .nil
  | _, _, .cons r t, b => by
    rw [List.all_cons, Bool.and_eq_true] at b
    exact .cons (r.back l b.1) (KvR.back l t b.2)
theorem OcOk.back {a : Addr} {oc : Oc} (l : al <+: al') (h : OcOk K F al' H a oc) (b : ocB al.length oc = true) : OcOk K F al H a oc := by
  cases oc with
  | lst rs => obtain ⟨h1, xs, e, q⟩ := h; exact ⟨h1, xs, e, q.back l b⟩
  | fz ds => exact h
  | dk kvs => obtain ⟨h1, xs, e, q⟩ := h; exact ⟨h1, xs, e, q.back l b⟩
  | dt kvs => obtain ⟨h1, xs, e, q⟩ := h; exact ⟨h1, xs, e, q.back l b⟩
  | ins m fs => obtain ⟨h1, dx, xs, e, q⟩ := h; exact ⟨h1, dx, xs, e, q.back l b⟩
  | fk kvs => obtain ⟨od, xs, e, q⟩ := h; exact ⟨od, xs, e, q.back l b⟩
  | ft kvs => obtain ⟨od, xs, e, q⟩ := h; exact ⟨od, xs, e, q.back l b⟩
  | ltab => exact h
  | any => exact h
theorem Sv.cut {TT : Tt} {g : Gh} {en e : En} {F0 F' : Hp} {σ0 σ : L2.St} {H0 H' : Hp} (s0 : Sv K TT g al en F0 σ0 H0) (l : al <+: al') (s : Sv K TT g al' e F' σ H') (b : (e.ob.take en.ob.length).all (ocB en.ob.length) = true) :
    Sv K TT g al ⟨e.sl.map (wpS en.ob.length), e.ob.take en.ob.length⟩ F' σ H' := by
  have hn : en.ob.length = al.length := s0.alen.symm
  rw [hn] at b ⊢
  have hl : al.length ≤ al'.length := l.length_le
  exact {
  sub := s.sub
  frF := s.frF
  nF := s.nF
  frame := s.frame
  tabs := s.tabs
  len := by rw [List.length_map]; exact s.len
  slots := fun i r e1 => by
    rw [List.getElem?_map] at e1
    cases q : e.sl[i]? with
    | none => rw [q] at e1; cases e1
    | some o =>
      rw [q] at e1
      have e1 : wpS al.length o = some r := Option.some.inj e1
      cases o with
      | none => cases e1
      | some r' =>
        obtain ⟨v, f1, f2⟩ := s.slots i r' q
        cases r' with
        | dat d =>
          cases e1
          exact ⟨v, f1, f2⟩
        | own k =>
          have e1 : (if k < al.length then some (Rv.own k) else none) = some r := e1
          split at e1
          · rename_i hk
            cases e1
            obtain ⟨a, z1, z2⟩ := f2
            exact ⟨v, f1, a, preL l hk z1, z2⟩
          · cases e1
        | fn j caps => cases e1
        | fns js => cases e1
        | exv => cases e1
  alen := by
    rw [List.length_take, ← s.alen]
    omega
  objs := fun k a oc e1 e2 => by
    have hk : k < al.length := (List.getElem?_eq_some_iff.mp e1).1
    rw [List.getElem?_take_of_lt hk] at e2
    refine (s.objs k a oc (pre_get l e1) e2).back l ?_
    refine List.all_eq_true.mp b oc ?_
    exact List.mem_of_getElem? (i := k) (by rw [List.getElem?_take_of_lt hk]; exact e2)
  anew := s0.anew
  bin := s0.bin
  anod := s0.anod
  atab := s0.atab }
end
section
variable {X : Cx} {TT : Tt} {W : WX} {st : Stmt} {sts : List Stmt} {G : M Fl}
theorem post_trunc {K : PySem.W.Frag} {g : Gh} {al : List Addr} {en : En} {F : Hp} {σ : L2.St} {H : Hp} {D : Ends} {o : Out Fl} (s : Sv K TT g al en F σ H) (h : PostS K TT W g F al (truncN en.ob.length o) D) : PostS K TT W g F al o D := by
  cases o with
  | bad => exact h
  | exc x e => exact h
  | ok fl e =>
    cases fl with
    | ret r => exact h
    | brk => exact h
    | cnt => exact h
    | nx =>
      have h : PostS K TT W g F al (if (e.ob.take en.ob.length).all (ocB en.ob.length) = true then .ok .nx ⟨e.sl.map (wpS en.ob.length), e.ob.take en.ob.length⟩ else .bad) D := h
      split at h
      · rename_i b
        exact fun F' al' σ' H' l s2 => h F' al σ' H' ⟨l.f, List.prefix_rfl⟩ (s.cut l.a s2 b)
      · exact h.elim
theorem sd_trunc (h : PSD X TT W st G) : PSD X TT W st (trunc G) := by
  obtain ⟨⟨t, pt, q⟩⟩ := h
  exact ⟨⟨t, pt, fun g al en F σ H D s h => q g al en F σ H D s (post_trunc s h)⟩⟩
theorem sds_trunc (h : PSsD X TT W sts G) : PSsD X TT W sts (trunc G) := by
  obtain ⟨⟨t, pt, q⟩⟩ := h
  exact ⟨⟨t, pt, fun g al en F σ H D s h => q g al en F σ H D s (post_trunc s h)⟩⟩
end
end Pd

namespace Pd
open PySem PySem.Spec PyProof.Rows L2
variable [Lams]
/-! ## list + list, plain ones too -/
def rCatQ (K : PySem.W.Frag) : R2 := fun x y H Q => ∃ l b xs zs, x = .ref l ∧ y = .ref b ∧ SqL K H l xs ∧ SqL K H b zs ∧ xs.length + zs.length ≤ sizeLine ∧ ∀ p, H p = none → Q (.ref p) (upd H p (.lst (xs ++ zs)))
theorem op_catQ {X : Cx} : OpR X (binaryOp .Add) (rCatQ X.K) := by
  intro pins s σ H x y v u Q I rx ry h
  obtain ⟨l, b, xs, zs, rfl, rfl, hH, hB, hz, q⟩ := h
  cases rx
  cases ry
  obtain ⟨its, r, ⟨⟨cls, dd, data, sl⟩, n, ho, hc, hd0, hd⟩, _⟩ := I.list hH
  obtain ⟨its2, r2, ⟨⟨cls2, dd2, data2, sl2⟩, n2, ho2, hc2, hd02, hd2⟩, _⟩ := I.list hB
  simp only at hc hd hc2 hd2
  subst hc hd hc2 hd2
  have hl := r.length
  have hl2 := r2.length
  have e : its.toArray ++ its2.toArray = (its ++ its2).toArray := by simp
  refine concat_meets ⟨_, ho, rfl⟩ ⟨_, ho2, rfl⟩ noFill_list_add seq_list_add PySem.F.slot_list_add PySem.F.entry_list_add (PySem.F.args_list_add_2 _ _) (list_addW l b its.toArray its2.toArray n n2 dd dd2 sl sl2 (by rw [List.size_toArray, List.size_toArray]; omega)) ⟨ho, ho2, ?_⟩
  rw [e]
  exact ⟨.ref _, _, I.lnew (t' := s.toks) (r.append r2) (by rw [List.length_append]; omega), rfl, q _ I.fresh⟩
def lsQ (en : En) : Rv → Option (List Rv)
  | .own k => match en.ob[k]? with
    | some (.lst rs) => some rs
    | some (.fz ds) => some (ds.map Rv.dat)
    | _ => none
  | .dat (.list ds) => some (ds.map Rv.dat)
  | _ => none
theorem lsQ_ok {K : PySem.W.Frag} {TT : Tt} {g : Gh} {al : List Addr} {en : En} {F : Hp} {σ : L2.St} {H : Hp} {v : V} {r : Rv} {rs : List Rv} (s : Sv K TT g al en F σ H) (h : RvR K F al v r) (e : lsQ en r = some rs) : ∃ a xs, v = .ref a ∧ SqL K H a xs ∧ RvAll K F al xs rs := by
  cases r with
  | dat d =>
    cases d with
    | list ds =>
      cases e
      cases h with
      | lst h1 h2 => exact ⟨_, _, rfl, s.sub.seq h1, rvAll_dat h2⟩
    | _ => cases e
  | fn _ _ => cases e
  | fns _ => cases e
  | exv => cases e
  | own k =>
    have e2 : lsR en (.own k) = some rs := by
      rw [← e]
      rfl
    obtain ⟨a, xs, h1, h2, h3⟩ := lsR_ok s h e2
    exact ⟨a, xs, h1, .inl (.inl h2), h3⟩
def catQ (x y : Rv) : M Rv := fun en => match lsQ en x, lsQ en y with
  | some rs, some qs => if rs.length + qs.length ≤ sizeLine then newL (rs ++ qs) en else .bad
  | _, _ => .bad
section
variable {X : Cx} {TT : Tt} {W : WX} {a b c : Expr} {fa fb fc : M Rv} {pos p : Pos} {es : List Expr} {fs : M (List Rv)}
theorem pd_catQ (ha : PD X TT W a fa) (hb : PD X TT W b fb) : PD X TT W (.BinOp a .Add b pos) (bnd fa fun x => bnd fb fun y => catQ x y) := by
  obtain ⟨⟨ta, pa, qa⟩⟩ := ha
  obtain ⟨⟨tb, pb, qb⟩⟩ := hb
  refine ⟨⟨_, pe_op op_catQ pa pb, fun g al en F σ H Q s h => ?_⟩⟩
  refine qa g al en F σ H _ s (Post.seq h fun x e1 F1 a1 H1 l1 s1 p1 v1 r1 => ?_)
  refine qb g a1 e1 F1 σ H1 _ s1 (Post.seq p1 fun y e2 F2 a2 H2 l2 s2 p2 v2 r2 => ?_)
  unfold catQ at p2
  split at p2
  · rename_i rs qs ex ey
    split at p2
    · rename_i hz
      obtain ⟨l, xs, rfl, hx, hrx⟩ := lsQ_ok s2 (r1.mono l2) ex
      obtain ⟨m, ys, rfl, hy, hry⟩ := lsQ_ok s2 r2 ey
      exact ⟨l, m, xs, ys, rfl, rfl, hx, hy, by rw [hrx.len, hry.len]; exact hz, fun q hq => newL_post s2 hq (hrx.app hry) p2⟩
    · exact p2.elim
  · exact p2.elim
/-! ## a, b, .. = x, y, ..: more than three names, any values -/
def setAll : List (Option Rv) → List Nat → List Rv → List (Option Rv)
  | sl, i :: is, r :: rs => setAll (sl.set i (some r)) is rs
  | sl, _, _ => sl
structure PGnD (X : Cx) (TT : Tt) (tgs : List Expr) (is : List Nat) : Prop where
  ex : ∃ t : TGs, PGs X tgs t ∧ ∀ vs rs g al en F σ H (Q : L2.St → Hp → Prop), Sv X.K TT g al en F σ H → RvAll X.K F al vs rs → rs.length = is.length → (∀ σ', Sv X.K TT g al { en with sl := setAll en.sl is rs } F σ' H → Q σ' H) → t vs σ H Q
theorem gn_nil : PGnD X TT [] [] := by
  refine ⟨⟨_, pgs_nil, fun vs rs g al en F σ H Q s hv hl k => ?_⟩⟩
  cases hv with
  | nil => exact ⟨rfl, k σ s⟩
  | cons _ _ => cases hl
theorem gn_cons {y : Str} {py : Pos} {tgs : List Expr} {is : List Nat} (i : Nat) (hN : X.N.Nodup) (hr : PGnD X TT tgs is) (hi : X.N[i]? = some y := by rfl) (hx : Loc X.env.scope y := by first | exact Or.inl rfl | exact Or.inr rfl)
    (hf : X.fn y = true ∨ X.env.scope.names.lookup y = some .local := by first | exact .inl rfl | exact .inr rfl | assumption) (hs : (assignEach (.Name y py :: tgs) X.env).map (·.2) = assign (.Name y py) X.env :: (assignEach tgs X.env).map (·.2) := by rfl) :
    PGnD X TT (.Name y py :: tgs) (i :: is) := by
  obtain ⟨⟨u, pu, q2⟩⟩ := hr
  refine ⟨⟨_, pgs_cons (pg_name hN hi hx hf) pu hs, fun vs rs g al en F σ H Q s hv hl k => ?_⟩⟩
  cases hv with
  | nil => cases hl
  | cons h1 h2 =>
    exact ⟨_, _, rfl, q2 _ _ g al _ F _ H Q (s.setS h1) h2 (Nat.succ.inj hl) k⟩
def parN (is : List Nat) (rs : List Rv) : M Fl := fun en => if rs.length = is.length ∧ rs.length ≤ sizeLine then .ok .nx { en with sl := setAll en.sl is rs } else .bad
theorem sd_parN {tgs : List Expr} {kt : Nat} {pt : Pos} {k2 : Nat} {pt2 : Pos} {is : List Nat} (hc : X.calm = true) (ha : PAD X TT W es fs) (hg : PGnD X TT tgs is) (hn : (assignEach tgs X.env).length = is.length := by rfl) (hst : (assignEach tgs X.env).findIdx? (·.1) = none := by rfl)
    (hs : swapsWithSole [.Tuple tgs kt pt] (.Tuple es k2 pt2) pos.line X.env = pure false := by rfl) (hw : swappedStores [.Tuple tgs kt pt] (.Tuple es k2 pt2) X.env = pure none := by rfl)
    (h2 : (assignEach [.Tuple tgs kt pt] X.env).map (·.2) = [assign (.Tuple tgs kt pt) X.env] := by rfl) : PSD X TT W (.Assign [.Tuple tgs kt pt] (.Tuple es k2 pt2) pos) (bnd fs (parN is)) := by
  obtain ⟨⟨t, pa, q⟩⟩ := ha
  obtain ⟨⟨u, pu, q2⟩⟩ := hg
  refine ⟨⟨_, ps_asg (pe_tup pa) (pg_tup hc pu hn hst) hs hw h2, fun g al en F σ H D s h => q g al en F σ H _ s (h.seq fun rs e F' al' H' l s2 p vs hv => ?_)⟩⟩
  unfold parN at p
  split at p
  · rename_i hz
    refine ⟨by rw [hv.len]; exact hz.2, fun a hp => ?_⟩
    have l3 := le_newF s2 (.tup vs) hp
    have s3 := s2.newF (.tup vs) hp
    exact ⟨a, vs, rfl, tupS (by unfold upd; simp), by rw [hv.len]; exact hz.1, q2 vs rs g al' e _ σ _ _ s3 (hv.mono l3) hz.1 fun σ' s4 => p.next l3 s4⟩
  · exact p.elim
end
end Pd

namespace Pd
open PySem PySem.Spec PyProof.Rows L2
variable [Lams]
/-! ## for .. in enumerate(a list), the list as it stands at each turn -/
def itE (en : En) (r : Rv) (n i : Nat) : Option PyData := match lsQ en r with
  | some rs => if rs.length = n then (match rs[i]? with
    | some (.dat d) => some d
    | _ => none) else none
  | none => none
theorem itE_ok {en : En} {r : Rv} {n i : Nat} {d : PyData} (h : itE en r n i = some d) : ∃ rs, lsQ en r = some rs ∧ rs.length = n ∧ rs[i]? = some (.dat d) := by
  unfold itE at h
  cases q : lsQ en r with
  | none => rw [q] at h; cases h
  | some rs =>
    rw [q] at h
    simp only at h
    by_cases hn : rs.length = n
    · rw [if_pos hn] at h
      cases q2 : rs[i]? with
      | none => rw [q2] at h; cases h
      | some x =>
        rw [q2] at h
        cases x with
        | dat e => cases h; exact ⟨rs, rfl, hn, q2⟩
        | _ => cases h
    · rw [if_neg hn] at h; cases h
def edE (en : En) (r : Rv) (n : Nat) : Bool := match lsQ en r with
  | some rs => decide (rs.length = n)
  | none => false
theorem edE_ok {en : En} {r : Rv} {n : Nat} (h : edE en r n = true) : ∃ rs, lsQ en r = some rs ∧ rs.length = n := by
  unfold edE at h
  cases q : lsQ en r with
  | none => rw [q] at h; cases h
  | some rs => rw [q] at h; exact ⟨rs, rfl, of_decide_eq_true h⟩
def forQ (h : Rv → En → Option En) (G : M Fl) (r : Rv) (n : Nat) : Nat → M Fl
  | 0 => fun en => if edE en r n = true then .ok .nx en else .bad
  | m + 1 => fun en => match itE en r n (n - (m + 1)) with
    | none => .bad
    | some d => (match h (.dat (.tuple [.int ((n - (m + 1) : Nat) : Int), d])) en with
      | none => .bad
      | some e => (match G e with
        | .ok .nx e2 => forQ h G r n m e2
        | .ok .cnt e2 => forQ h G r n m e2
        | .ok .brk e2 => .ok .nx e2
        | .ok (.ret q) e2 => .ok (.ret q) e2
        | .exc x e2 => .exc x e2
        | .bad => .bad))
def forE (h : Rv → En → Option En) (G : M Fl) (rs : List Rv) : M Fl := fun en => match rs with
  | [r] => (match lsQ en r with
    | some xs => forQ h G r xs.length xs.length en
    | none => .bad)
  | _ => .bad
section
variable {X : Cx} {TT : Tt} {W : WX} {a b c : Expr} {fa fb fc : M Rv} {pos pos' p : Pos} {es : List Expr} {fs : M (List Rv)}
theorem sd_forE {elts : List Expr} {kk : Nat} {tpos : Pos} {body : List Stmt} {h1 : Rv → En → Option En} {ws : List Nat} {G : M Fl} (hp : PassesOwn (model X.prog X.w) X.A X.env X.xe) (hc : X.calm = true) (hm : X.mg "enumerate" = none) (ha : PAD X TT W [a] fs)
    (hg : PGD X TT (.Tuple elts kk tpos) h1 ws) (hb : PSsD X TT W body G) (hgl : Gl X "enumerate" := by rfl) (hs1 : starEach [a] X.env = [(false, eval a X.env)] := by rfl)
    (hs : ∀ x, foldedSetIterable (.Call (.Name "enumerate" p) [a] [] pos') X.env x = pure x := by intro _; rfl) :
    PSD X TT W (.For (.Tuple elts kk tpos) (.Call (.Name "enumerate" p) [a] [] pos') body [] pos) (bnd fs (forE h1 G)) := by
  obtain ⟨⟨w, pw, qw⟩⟩ := ha
  obtain ⟨⟨t, pt, qt⟩⟩ := hg
  obtain ⟨⟨u, pu, qu⟩⟩ := hb
  refine ⟨⟨_, ps_for hp hc (pi_enum hgl hm pw hs1) pt pu hs, fun g al en F σ H D s h => qw g al en F σ H _ s (h.seq fun rs e0 F0 a0 H0 l0 s0 p0 vs hv => ?_)⟩⟩
  unfold forE at p0
  split at p0
  · rename_i r
    cases hv with
    | cons hv hn =>
    cases hn
    rename_i v
    cases ql : lsQ e0 r with
    | none => rw [ql] at p0; exact p0.elim
    | some xs =>
    rw [ql] at p0
    simp only at p0
    obtain ⟨ar, us, rfl, hq, hr⟩ := lsQ_ok s0 hv ql
    generalize hlen : xs.length = n at p0
    refine ⟨ar, us, rfl, hq, fun i m σ H => m = n - i ∧ i ≤ n ∧ ∃ al en F, Le F0 a0 F al ∧ Sv X.K TT g al en F σ H ∧ PostS X.K TT W g F al (forQ h1 G r n (n - i) en) D,
      ⟨n, rfl, Nat.zero_le _, a0, e0, F0, Le.refl _ _, s0, by simpa using p0⟩, ?_⟩
    rintro i m σ1 H1 ⟨rfl, hi, al1, en1, F1, l1, s1, p1⟩
    have hv1 : RvR X.K F1 al1 (.ref ar) r := hv.mono l1
    by_cases hlt : i < n
    · have e1 : n - i = (n - (i + 1)) + 1 := by omega
      have e2 : n - (n - (i + 1) + 1) = i := by omega
      rw [e1] at p1
      unfold forQ at p1
      rw [e2] at p1
      cases q1 : itE en1 r n i with
      | none => rw [q1] at p1; exact p1.elim
      | some d =>
      rw [q1] at p1
      obtain ⟨rs', z1, z2, z3⟩ := itE_ok q1
      obtain ⟨a', us', ea, hq', hr'⟩ := lsQ_ok s1 hv1 z1
      cases ea
      obtain ⟨v, e3, e4⟩ := hr'.get z3
      refine .inr ⟨⟨us', v, hq', e3⟩, fun σ' H' => ∃ al en F, Le F0 a0 F al ∧ Sv X.K TT g al en F σ' H' ∧ PostS X.K TT W g F al (forQ h1 G r n (n - (i + 1)) en) D, fun σ' H' hN => ⟨n - (i + 1), by omega, rfl, hlt, hN⟩, fun x H' hy => ?_⟩
      obtain ⟨T, x1, rfl, hT, rfl, y1⟩ := hy
      have z4 := y1 us' hq'
      rw [e3] at z4
      cases z4
      obtain ⟨s2, l2⟩ := s1.rstW (.inl (.inr ⟨T, .tup [.int (i : Nat), v], hT, rfl, rfl⟩))
      have p2 := p1.up l2
      have hd : Dp X.K (upd F1 T (.tup [.int (i : Nat), v])) (.ref T) (.tuple [.int ((i : Nat) : Int), d]) := dp_tup (.cons (.int _) (.cons e4 .nil)) (s1.fnone hT)
      simp only at p2
      cases q2 : h1 (.dat (.tuple [.int ((i : Nat) : Int), d])) en1 with
      | none => rw [q2] at p2; exact p2.elim
      | some e5 =>
        rw [q2] at p2
        simp only at p2
        refine qt _ (.dat (.tuple [.int ((i : Nat) : Int), d])) g al1 en1 e5 _ σ1 _ _ s2 hd q2 fun σ3 s3 _ => ?_
        refine qu g al1 e5 _ σ3 _ _ s3 ?_
        have l3 := l1.trans l2
        cases q3 : G e5 with
        | ok fl e6 =>
          rw [q3] at p2
          cases fl with
          | nx => exact fun F5 a5 σ5 H5 l5 s5 => ⟨a5, e6, F5, l3.trans l5, s5, p2.up l5⟩
          | cnt => exact fun F5 a5 σ5 H5 l5 s5 => ⟨a5, e6, F5, l3.trans l5, s5, p2.up l5⟩
          | brk => exact p2
          | ret r => exact p2
        | exc x e6 => rw [q3] at p2; exact p2
        | bad => rw [q3] at p2; exact p2
    · have e : i = n := by omega
      subst e
      rw [Nat.sub_self] at p1
      unfold forQ at p1
      split at p1
      · rename_i hed
        obtain ⟨rs', z1, z2⟩ := edE_ok hed
        obtain ⟨a', us', ea, hq', hr'⟩ := lsQ_ok s1 hv1 z1
        cases ea
        exact .inl ⟨⟨us', hq', by rw [hr'.len, z2]; exact Nat.le_refl _⟩, p1.next (Le.refl _ _) s1⟩
      · exact p1.elim
  · exact p0.elim
end
end Pd

namespace Pd
open PySem PySem.Spec PyProof.Rows L2
variable [Lams]
/-! ## {k: v}, k a tuple of the module; the dict is forgotten -/
section
variable {X : Cx} {kx vx : Expr} {tk tv : TE} {pos : Pos}
def tDispO (K : PySem.W.Frag) (tk tv : TE) : TE := fun σ H Q => ∀ p, H p = none → tk σ (upd H p (.dT [])) fun x H1 => tv σ H1 fun y H2 => H2 p = some (.dT []) ∧ ∃ (b : Addr) (key : List Key), x = .ref b ∧ SqT K H2 b (key.map kV) ∧ Q (.ref p) (upd H2 p (.ext fun h => ∃ o, h.get? p = some o))
theorem pe_dispO (hu : X.A.units + 64 < cLine) (hk : PE X kx tk) (hv : PE X vx tv) : PE X (.Dict [some kx] [vx] pos) (tDispO X.K tk tv) := by
  refine ⟨fun pins s σ H Q I q => ?_⟩
  have hn := I.hok.fresh (Nat.le_refl s.heap.objs.size)
  have I1 := I.laid (a := s.heap.objs.size) (o := .dT []) (h' := s.heap.push { cls := .type "dict", data := .dict #[] }) (t' := s.toks) (fun _ _ q => Heap.get?_push_of_some _ q) (Nat.le_refl _) (dt_empty s.heap I.big)
  rw [arm_eval_Dict, zip_pairTrees [some kx] [vx] X.env pos rfl rfl, dictDisplay_pairs (pairTrees [some kx] [vx] X.env pos) (by intro z; cases z) (show 1 < 17 by decide)]
  refine wpAny_bind (wpAny_standAt (wpAny_bind (wpAny_subDictH (knd := tupleKind (mixKind X.prog X.w)) (Q := fun d s' => wpAny (model X.prog X.w) X.A (pure (Value.ref d)) _ _ s') (show X.A.units < cLine by omega) (show 1 ≤ 15 by decide) ?_)))
  refine pairTrees_cons_walk (thn (hk.run pins _ σ _ _ I1 (q _ hn)) fun u s1 ⟨x, H1, I3, rx, q1⟩ => thn (hv.run pins s1 σ H1 _ I3 q1) fun v s2 ⟨y, H2, I2, h2, e, b, key, ex, hb, q2⟩ => pairTrees_nil_walk ?_)
  subst ex
  cases rx
  obtain ⟨z, hd, xs, rk, dd⟩ := dt_of I2.hok e
  cases rk
  have ki : (tupleKind (mixKind X.prog X.w)).is s2.heap key b := by
    obtain ⟨its, r, ⟨o, h1, hc, n, h3⟩, _⟩ := I2.tuple hb
    exact ⟨o, its.toArray, n, h1, hc, h3, by simpa using items_are r⟩
  refine ⟨[(key, b, v)], ⟨rfl, rfl, ki, trivial⟩, dd, fun h' tk' dd' hs => wpAny_pure ⟨.ref s.heap.objs.size, _, ?_, rfl, q2⟩⟩
  obtain ⟨o, es, ep, ho, g2, g3, g4, _, g5⟩ := dd'
  exact d_write (t' := tk') I2 (by rw [e]; exact True.intro) hs ⟨o, ho⟩ ⟨⟨o, ho⟩, ⟨o, ho⟩, fun h1 h2 ⟨o1, e1⟩ k => ⟨o1, k o1 e1⟩⟩
end
/-! ## Twins.search that ends at once -/
def spS (K : PySem.W.Frag) (TT : Tt) (Fc : List PyData → Res) : Sp := fun vs H Q _ => ∃ (F : Hp) (a dx : Addr) (fs : List (Str × V)) (v : V) (d : PyData), Same F H ∧ Tabs TT F H ∧ vs = [.ref a] ∧ H a = some (.ins (He.ga K "Twins") dx fs) ∧ fs.lookup ("almanac" : Str) = some v ∧ Dp K F v d ∧
  Fc [d, .int 0, .int 0] = .ok (.bool true) ∧ ∀ t x s F' H', Fr TT F H F' H' → SqT K H' t [x, .ref s] → Q (.ref t) H'
def tBadS : TS := fun _ _ _ => False
theorem psS_bad {X : Cx} {st : List Stmt} : PSs X st tBadS := ⟨fun _ _ _ _ _ _ h => h.elim⟩
def tSearch (K : PySem.W.Frag) (TT : Tt) (Fc : List PyData → Res) (s0 : Addr) (E : L2.St → XK) : TS :=
  tSeq (tPar 1 2 (tCons (tDispO K (tC (.ref s0)) (tC .non)) (tCons (tLst (tCons (tC (.ref s0)) tNil)) tNil)))
    (tSeq (tWhile (fun σ H Q => tVar 2 σ H fun x H' => ∃ k, TruV K x H' k ∧ Q k H')
        (tSeq (tFor (iList K (tVar 2)) (gName 3) (tIfS (tB (tCallS (spD K TT Fc) E (tCons (tFld K (tVar 0) "almanac") (tCons (tOp (rIx K) (tVar 3) (tC (.int 0))) (tCons (tOp (rIx K) (tVar 3) (tC (.int 1))) tNil))))) (tRet (tTup (tCons (tVar 1) (tCons (tVar 3) tNil)))) tNext)) tBadS)) tBadS)
theorem search_ok {K : PySem.W.Frag} {TT : Tt} {Fc : List PyData → Res} {s0 : Addr} {E : L2.St → XK} {E' : XK} {vs : List V} {H : Hp} {Q : VK} {nx : L2.St → Hp → Prop} {N : List Str} (hS : ∀ H, SqT K H s0 [.int 0, .int 0, .int 0, .int 0, .int 1, .int 1]) (c : Cls K (He.ga K "Twins")) (hn : NoAttr K (He.ga K "Twins") "almanac")
    (hN : 4 ≤ N.length) (h : spS K TT Fc vs H Q E') : tSearch K TT Fc s0 E { nx := nx, rt := Q } (L2.start N vs) H := by
  obtain ⟨F, a, dx, fs, v, d, hs, ht, rfl, ha, hv, hd, hc, k⟩ := h
  obtain ⟨r, hr⟩ : ∃ r : L2.St, L2.start N [V.ref a] = some (.ref a) :: none :: none :: none :: r := by
    match N, hN with
    | _ :: _ :: _ :: _ :: N', _ => exact ⟨_, rfl⟩
  rw [hr]
  have notT : ∀ {F1 H1 : Hp} {p : Addr}, Tabs TT F1 H1 → H1 p = none → ¬ TT p := fun t e z => by
    obtain ⟨⟨ps, q, _⟩, _⟩ := t _ z
    rw [e] at q
    cases q
  intro p hp
  refine ⟨upd_same, s0, [.inl 0, .inl 0, .inl 0, .inl 0, .inl 1, .inl 1], rfl, hS _, ?_⟩
  rw [upd_upd]
  generalize hH1 : upd H p (.ext fun h => ∃ o, h.get? p = some o) = H1
  refine ⟨(by show (1 : Nat) ≤ sizeLine; decide), fun q hq => ?_⟩
  generalize hH2 : upd H1 q (.lst [.ref s0]) = H2
  have k1 : ∀ b o, H b = some o → H1 b = some o := fun b o e => by
    rw [← hH1, upd_ne (ne_of_none e hp)]
    exact e
  have k2 : ∀ b o, H b = some o → H2 b = some o := fun b o e => by
    rw [← hH2, upd_ne (ne_of_none (k1 b o e) hq)]
    exact k1 b o e
  have hq2 : H2 q = some (.lst [.ref s0]) := by rw [← hH2, upd_same]
  have hqL : SqL K H2 q [.ref s0] := .inl (.inl hq2)
  have s2 : Same F H2 := fun b o e => k2 b o (hs b o e)
  have t2 : Tabs TT F H2 := by
    have t1 : Tabs TT F H1 := by
      rw [← hH1]
      exact ht.newH (notT ht hp)
    rw [← hH2]
    exact t1.newH (notT t1 hq)
  have im : ∀ b, Im H2 b → Im H b := fun b z => by
    by_cases hb : b = q
    · subst hb
      exact absurd z (Im.no hq2 (fun xs z => by cases z))
    · have e1 : H2 b = H1 b := by rw [← hH2, upd_ne hb]
      by_cases hb2 : b = p
      · subst hb2
        exact .inl hp
      · have e2 : H1 b = H b := by rw [← hH1, upd_ne hb2]
        unfold Im at z ⊢
        rw [e1, e2] at z
        exact z
  refine ⟨.ref p, .ref q, rfl, ?_⟩
  refine ⟨fun m σ' H' => σ' = (some (.ref a) :: some (.ref p) :: some (.ref q) :: none :: r) ∧ H2 = H', ⟨0, rfl, rfl⟩, ?_⟩
  rintro m σ' H' ⟨rfl, rfl⟩
  refine ⟨.ref q, rfl, true, .inl ⟨[.ref s0], hqL, rfl⟩, ?_⟩
  show ∃ N : L2.St → Hp → Prop, _
  refine ⟨fun _ _ => False, fun _ _ z => z.elim, ?_⟩
  refine ⟨.ref q, rfl, q, rfl, ⟨_, hqL⟩, ?_⟩
  refine ⟨fun i m σ' H' => i = 0 ∧ σ' = (some (.ref a) :: some (.ref p) :: some (.ref q) :: none :: r) ∧ H2 = H', ⟨0, rfl, rfl, rfl⟩, ?_⟩
  rintro i m σ' H' ⟨rfl, rfl, rfl⟩
  refine .inr ⟨⟨[.ref s0], .ref s0, hqL, rfl⟩, fun _ _ => False, fun _ _ z => z.elim, fun x H' hy => ?_⟩
  obtain ⟨rfl, hx⟩ := hy
  have hx0 := hx _ hqL
  cases hx0
  refine ⟨.ref a, rfl, a, _, dx, fs, v, rfl, k2 _ _ ha, c, hn, hv, ?_⟩
  refine ⟨.ref s0, rfl, .inr (.inl ⟨s0, _, 0, .int 0, rfl, rfl, hS _, rfl, ?_⟩)⟩
  refine ⟨.ref s0, rfl, .inr (.inl ⟨s0, _, 1, .int 0, rfl, rfl, hS _, rfl, ?_⟩)⟩
  refine ⟨F, [d, .int 0, .int 0], s2, t2, .cons hd (.cons (.int 0) (.cons (.int 0) .nil)), ?_⟩
  rw [hc]
  intro y F' H' hf hdp
  cases hdp
  refine ⟨true, rfl, ?_⟩
  simp only [if_true]
  refine ⟨.ref p, rfl, .ref s0, rfl, (by show (2 : Nat) ≤ sizeLine; decide), fun t hnt => ?_⟩
  refine k t (.ref p) s0 F' _ ⟨hf.f, fun b o e => ?_, hf.tabs.newH (notT hf.tabs hnt), fun b o e nt => ?_, fun b hb => ?_⟩ (.inl (.inl upd_same))
  · have e2 := hf.sub b o e
    rw [upd_ne (ne_of_none e2 hnt)]
    exact e2
  · have e2 := hf.keep b o (k2 b o e) nt
    rw [upd_ne (ne_of_none e2 hnt)]
    exact e2
  · rcases hf.new b hb with z | z
    · exact .inl z
    · exact .inr (im b z)
def srchM (Fc : List PyData → Res) (r : Rv) : M Rv := fun en => match r with
  | .own k => (match en.ob[k]? with
    | some (.ins n fs) => if n = "Twins" ∧ valR fs "search" = none then (match valR fs "almanac" with
      | some (.dat d) => (match Fc [d, .int 0, .int 0] with
        | .ok (.bool true) => .ok (.dat (.bool true)) en
        | _ => .bad)
      | _ => .bad) else .bad
    | _ => .bad)
  | _ => .bad
section
variable {X : Cx} {TT : Tt} {W : WX} {k : Nat} {f : Addr} {fd : FuncData} {ps : List Str} {o : Expr} {fo : M Rv} {apos pos p2 p3 p4 p5 : Pos} {k1 k2 : Nat}
theorem pd_srch {Fc : List PyData → Res} {pl : Sem Bool} (c : Cls X.K (He.ga X.K "Twins")) (hm : Meth X.K (He.ga X.K "Twins") "search" f) (G : FnOk X.prog X.w X.K X.mg X.base (L2.CX X.prog X.w) k f fd ps (spS X.K TT Fc)) (hr : Room k X.A) (hb : Binds X.K fd ps [])
    (hx : ∀ σ, PassesAt (L2.CX X.prog X.w) X σ (WE W σ)) (ho : PD X TT W o fo)
    (ht : eval (.Call (.Attribute o "search" apos) [] [] pos) X.env = (do
      let ov ← eval o X.env
      standAt apos.atName
      let (f, first) ← holding [ov] (getMethod ov "search" pl)
      callWith pos f first (backTo pos (starEach [] X.env)) (backToKw pos (keywordEach [] X.env))) := by rfl) (hs : PlainIx (.Constant (.int 1) k1 p2) := by intro _ _; rfl) :
    PD X TT W (.Compare (.Subscript (.Call (.Attribute o "search" apos) [] [] pos) (.Constant (.int 1) k1 p2) p3) [.IsNot] [.Constant .none k2 p4] p5) (bnd fo (srchM Fc)) := by
  obtain ⟨⟨t, pt, q⟩⟩ := ho
  refine ⟨⟨_, pe_cmpR op_notN (pe_ix (ix_list.or ix_tup) (pe_meth0S (W := W) pt c hm G hr hb hx ht) pe_int hs) pe_non (nomark _), fun g al en F σ H Q s h => ?_⟩⟩
  refine q g al en F σ H _ s (Post.seq h fun r e1 F1 a1 H1 l1 s1 p1 v1 r1 => ?_)
  unfold srchM at p1
  split at p1
  · rename_i k
    split at p1
    · rename_i n fs eo
      split at p1
      · rename_i hc
        obtain ⟨rfl, hnl⟩ := hc
        split at p1
        · rename_i d ew
          split at p1
          · rename_i hF
            obtain ⟨ar, ea, rfl⟩ := r1
            obtain ⟨fn, dx, vs, hv, hrr⟩ := s1.objs k ar _ ea eo
            obtain ⟨u, eu1, eu2⟩ := kvR_lookup hrr ew
            refine ⟨ar, dx, vs, rfl, hv, kvR_nolook hrr hnl, ?_⟩
            refine ⟨F1, ar, dx, vs, u, d, s1.sub, s1.tabs, rfl, hv, eu1, eu2, hF, fun t2 x s2 F' H' hf hq => ?_⟩
            refine .inr ⟨t2, _, 1, .ref s2, rfl, rfl, hq, rfl, ?_⟩
            exact ⟨rfl, p1.at (hf.le a1) (s1.fr hf) _ (.bl true)⟩
          · exact p1.elim
        · exact p1.elim
      · exact p1.elim
    · exact p1.elim
  · exact p1.elim
end
end Pd

namespace Pd
open PySem PySem.Spec PyProof.Rows L2
def top (i : Nat) : Stmt := PySem.Challenge.pw_wrongclock_k02_almanacs_refused.main.body.getD i (.Pass ⟨0, 0, 0, 0⟩)
def exR (s y : Str) (b : Bool) : (Str × Str) × Bool := ((s, y), b)
def fdR (s y : Str) : Str × Str := (s, y)
def exT : List ((Str × Str) × Bool) := [exR "BadAlmanac" "BadAlmanac" true, exR "BadAlmanac" "BadHour" false, exR "BadAlmanac" "BadReadings" false, exR "BadAlmanac" "BadStory" false, exR "BadAlmanac" "BadTable" false, exR "BadAlmanac" "ClockworkError" true, exR "BadAlmanac" "NoKeeper" false, exR "BadAlmanac" "TooMany" false, exR "BadHour" "BadAlmanac" false, exR "BadHour" "BadHour" true, exR "BadHour" "BadReadings" false, exR "BadHour" "BadStory" false, exR "BadHour" "BadTable" false, exR "BadHour" "ClockworkError" true, exR "BadHour" "NoKeeper" false, exR "BadHour" "TooMany" false, exR "BadReadings" "BadAlmanac" false, exR "BadReadings" "BadHour" false, exR "BadReadings" "BadReadings" true, exR "BadReadings" "BadStory" false, exR "BadReadings" "BadTable" false, exR "BadReadings" "ClockworkError" true, exR "BadReadings" "NoKeeper" false, exR "BadReadings" "TooMany" false, exR "BadStory" "BadAlmanac" false, exR "BadStory" "BadHour" false, exR "BadStory" "BadReadings" false, exR "BadStory" "BadStory" true, exR "BadStory" "BadTable" false, exR "BadStory" "ClockworkError" true, exR "BadStory" "NoKeeper" false, exR "BadStory" "TooMany" false, exR "BadTable" "BadAlmanac" false, exR "BadTable" "BadHour" false, exR "BadTable" "BadReadings" false, exR "BadTable" "BadStory" false, exR "BadTable" "BadTable" true, exR "BadTable" "ClockworkError" true, exR "BadTable" "NoKeeper" false, exR "BadTable" "TooMany" false, exR "NoKeeper" "BadAlmanac" false, exR "NoKeeper" "BadHour" false, exR "NoKeeper" "BadReadings" false, exR "NoKeeper" "BadStory" false, exR "NoKeeper" "BadTable" false, exR "NoKeeper" "ClockworkError" true, exR "NoKeeper" "NoKeeper" true, exR "NoKeeper" "TooMany" false, exR "TooMany" "BadAlmanac" false, exR "TooMany" "BadHour" false, exR "TooMany" "BadReadings" false, exR "TooMany" "BadStory" false, exR "TooMany" "BadTable" false, exR "TooMany" "ClockworkError" true, exR "TooMany" "NoKeeper" false, exR "TooMany" "TooMany" true]
def fldT : List (Str × Str) := [fdR "BadAlmanac" "part", fdR "BadTable" "index", fdR "TooMany" "most"]
def lamE (j : Nat) : Expr := match (defBody (top 84)).getD (j + 1) (.Pass ⟨0, 0, 0, 0⟩) with
  | .Expr (.Call _ (l :: _) _ _) _ => l
  | _ => .Name "" ⟨0, 0, 0, 0⟩
def lamPr : Expr → Arguments
  | .Lambda p _ _ _ => p
  | _ => defArgs (top 84)
def lamBd : Expr → Expr
  | .Lambda _ b _ _ => b
  | e => e
def lamSc : Expr → Scope
  | .Lambda _ _ s _ => s
  | _ => defScope (top 84)
def lamD (j : Nat) (ns : List Str) : LamD := ⟨"_law_works.<locals>.<lambda>", lamPr (lamE j), lamBd (lamE j), lamSc (lamE j), ns⟩
instance lamsI : Lams := ⟨fun j => match j with
  | 0 => lamD 0 ["_law_one"]
  | 1 => lamD 1 ["_law_one"]
  | 2 => lamD 2 ["_law_one"]
  | 3 => lamD 3 ["_law_one"]
  | 4 => lamD 4 ["_law_one"]
  | 5 => lamD 5 ["_law_one"]
  | 6 => lamD 6 ["_law_one"]
  | 7 => lamD 7 ["_law_one"]
  | 8 => lamD 8 ["_law_one"]
  | 9 => lamD 9 ["_law_one"]
  | 10 => lamD 10 ["_law_other", "_law_one"]
  | 11 => lamD 11 ["_law_other", "_law_one"]
  | 12 => lamD 12 ["_law_other", "_law_one"]
  | 13 => lamD 13 ["_law_other", "_law_one"]
  | 14 => lamD 14 ["_law_other", "_law_one"]
  | 15 => lamD 15 ["_law_other", "_law_one"]
  | 16 => lamD 16 ["_law_other", "_law_one"]
  | 17 => lamD 17 ["_law_other", "_law_one"]
  | _ => lamD 0 ["_law_one"], "_law_works.<locals>.<lambda>", ("_law_works", none)⟩
def worksS : List (Nat × List Nat) := [(0, [0]), (1, [0]), (2, [0]), (3, [0]), (4, [0]), (5, [0]), (6, [0]), (7, [0]), (8, [0]), (9, [0]), (10, [1, 0]), (11, [1, 0]), (12, [1, 0]), (13, [1, 0]), (14, [1, 0]), (15, [1, 0]), (16, [1, 0]), (17, [1, 0])]
theorem lam0_ok : LamOk (Lams.of 0) := ⟨rfl, rfl, rfl, by decide +kernel, by decide +kernel, by decide +kernel, fun _ _ _ _ => rfl⟩
theorem lamfr_0 : ∀ y ∈ (Lams.of 0).scope.names, y.2 = .free → (defScope (top 84)).names.lookup y.1 = some .cell := by decide +kernel
theorem lamfr_1 : ∀ y ∈ (Lams.of 1).scope.names, y.2 = .free → (defScope (top 84)).names.lookup y.1 = some .cell := by decide +kernel
theorem lamfr_2 : ∀ y ∈ (Lams.of 2).scope.names, y.2 = .free → (defScope (top 84)).names.lookup y.1 = some .cell := by decide +kernel
theorem lamfr_3 : ∀ y ∈ (Lams.of 3).scope.names, y.2 = .free → (defScope (top 84)).names.lookup y.1 = some .cell := by decide +kernel
theorem lamfr_4 : ∀ y ∈ (Lams.of 4).scope.names, y.2 = .free → (defScope (top 84)).names.lookup y.1 = some .cell := by decide +kernel
theorem lamfr_5 : ∀ y ∈ (Lams.of 5).scope.names, y.2 = .free → (defScope (top 84)).names.lookup y.1 = some .cell := by decide +kernel
theorem lamfr_6 : ∀ y ∈ (Lams.of 6).scope.names, y.2 = .free → (defScope (top 84)).names.lookup y.1 = some .cell := by decide +kernel
theorem lamfr_7 : ∀ y ∈ (Lams.of 7).scope.names, y.2 = .free → (defScope (top 84)).names.lookup y.1 = some .cell := by decide +kernel
theorem lamfr_8 : ∀ y ∈ (Lams.of 8).scope.names, y.2 = .free → (defScope (top 84)).names.lookup y.1 = some .cell := by decide +kernel
theorem lamfr_9 : ∀ y ∈ (Lams.of 9).scope.names, y.2 = .free → (defScope (top 84)).names.lookup y.1 = some .cell := by decide +kernel
theorem lamfr_10 : ∀ y ∈ (Lams.of 10).scope.names, y.2 = .free → (defScope (top 84)).names.lookup y.1 = some .cell := by decide +kernel
theorem lamfr_11 : ∀ y ∈ (Lams.of 11).scope.names, y.2 = .free → (defScope (top 84)).names.lookup y.1 = some .cell := by decide +kernel
theorem lamfr_12 : ∀ y ∈ (Lams.of 12).scope.names, y.2 = .free → (defScope (top 84)).names.lookup y.1 = some .cell := by decide +kernel
theorem lamfr_13 : ∀ y ∈ (Lams.of 13).scope.names, y.2 = .free → (defScope (top 84)).names.lookup y.1 = some .cell := by decide +kernel
theorem lamfr_14 : ∀ y ∈ (Lams.of 14).scope.names, y.2 = .free → (defScope (top 84)).names.lookup y.1 = some .cell := by decide +kernel
theorem lamfr_15 : ∀ y ∈ (Lams.of 15).scope.names, y.2 = .free → (defScope (top 84)).names.lookup y.1 = some .cell := by decide +kernel
theorem lamfr_16 : ∀ y ∈ (Lams.of 16).scope.names, y.2 = .free → (defScope (top 84)).names.lookup y.1 = some .cell := by decide +kernel
theorem lamfr_17 : ∀ y ∈ (Lams.of 17).scope.names, y.2 = .free → (defScope (top 84)).names.lookup y.1 = some .cell := by decide +kernel
theorem lams_ok : ∀ j, LamOk (Lams.of j)
  | 0 => ⟨rfl, rfl, rfl, by decide +kernel, by decide +kernel, by decide +kernel, fun _ _ _ _ => rfl⟩
  | 1 => ⟨rfl, rfl, rfl, by decide +kernel, by decide +kernel, by decide +kernel, fun _ _ _ _ => rfl⟩
  | 2 => ⟨rfl, rfl, rfl, by decide +kernel, by decide +kernel, by decide +kernel, fun _ _ _ _ => rfl⟩
  | 3 => ⟨rfl, rfl, rfl, by decide +kernel, by decide +kernel, by decide +kernel, fun _ _ _ _ => rfl⟩
  | 4 => ⟨rfl, rfl, rfl, by decide +kernel, by decide +kernel, by decide +kernel, fun _ _ _ _ => rfl⟩
  | 5 => ⟨rfl, rfl, rfl, by decide +kernel, by decide +kernel, by decide +kernel, fun _ _ _ _ => rfl⟩
  | 6 => ⟨rfl, rfl, rfl, by decide +kernel, by decide +kernel, by decide +kernel, fun _ _ _ _ => rfl⟩
  | 7 => ⟨rfl, rfl, rfl, by decide +kernel, by decide +kernel, by decide +kernel, fun _ _ _ _ => rfl⟩
  | 8 => ⟨rfl, rfl, rfl, by decide +kernel, by decide +kernel, by decide +kernel, fun _ _ _ _ => rfl⟩
  | 9 => ⟨rfl, rfl, rfl, by decide +kernel, by decide +kernel, by decide +kernel, fun _ _ _ _ => rfl⟩
  | 10 => ⟨rfl, rfl, rfl, by decide +kernel, by decide +kernel, by decide +kernel, fun _ _ _ _ => rfl⟩
  | 11 => ⟨rfl, rfl, rfl, by decide +kernel, by decide +kernel, by decide +kernel, fun _ _ _ _ => rfl⟩
  | 12 => ⟨rfl, rfl, rfl, by decide +kernel, by decide +kernel, by decide +kernel, fun _ _ _ _ => rfl⟩
  | 13 => ⟨rfl, rfl, rfl, by decide +kernel, by decide +kernel, by decide +kernel, fun _ _ _ _ => rfl⟩
  | 14 => ⟨rfl, rfl, rfl, by decide +kernel, by decide +kernel, by decide +kernel, fun _ _ _ _ => rfl⟩
  | 15 => ⟨rfl, rfl, rfl, by decide +kernel, by decide +kernel, by decide +kernel, fun _ _ _ _ => rfl⟩
  | 16 => ⟨rfl, rfl, rfl, by decide +kernel, by decide +kernel, by decide +kernel, fun _ _ _ _ => rfl⟩
  | 17 => ⟨rfl, rfl, rfl, by decide +kernel, by decide +kernel, by decide +kernel, fun _ _ _ _ => rfl⟩
  | _ + 18 => lam0_ok
def dd (p : Str × Option Str) (n q : Str) (s : Stmt) : He.DefD := ⟨p, n, q, defArgs s, defBody s, defScope s, [], []⟩
def fn : List He.DefD := ([dd ("is_number", none) "is_number" "is_number" (top 17), dd ("are_settings", none) "are_settings" "are_settings" (top 18), dd ("need_almanac", none) "need_almanac" "need_almanac" (top 19), dd ("shut_by", none) "shut_by" "shut_by" (top 20), dd ("opened_by", none) "opened_by" "opened_by" (top 21), dd ("urgent_at", none) "urgent_at" "urgent_at" (top 22), dd ("are_wakings", none) "are_wakings" "are_wakings" (top 23), dd ("are_sets", none) "are_sets" "are_sets" (top 24), dd ("is_story", none) "is_story" "is_story" (top 25), dd ("readings", none) "readings" "readings" (top 27), dd ("need_hour", none) "need_hour" "need_hour" (top 28), dd ("shut", none) "shut" "shut" (top 29)] : List He.DefD) ++ ([dd ("opened", none) "opened" "opened" (top 30), dd ("urgent", none) "urgent" "urgent" (top 31), dd ("next_settings", none) "next_settings" "next_settings" (top 33), dd ("Steps", some "__init__") "__init__" "Steps.__init__" (inClass (top 34) 0), dd ("Steps", some "behind") "behind" "Steps.behind" (inClass (top 34) 1), dd ("need_readings", none) "need_readings" "need_readings" (top 36), dd ("first_stands", none) "first_stands" "first_stands" (top 37), dd ("stands_behind", none) "stands_behind" "stands_behind" (top 38), dd ("stands_through", none) "stands_through" "stands_through" (top 39), dd ("rule", none) "rule" "rule" (top 40), dd ("may_be", none) "may_be" "may_be" (top 41), dd ("is_conflict", none) "is_conflict" "is_conflict" (top 45)] : List He.DefD) ++ ([dd ("Twins", some "__init__") "__init__" "Twins.__init__" (inClass (top 46) 0), dd ("Twins", some "search") "search" "Twins.search" (inClass (top 46) 2), dd ("conflicts", none) "conflicts" "conflicts" (top 50), dd ("conflict", none) "conflict" "conflict" (top 51), dd ("shows_conflict", none) "shows_conflict" "shows_conflict" (top 53), dd ("has_keeper", none) "has_keeper" "has_keeper" (top 54), dd ("places", none) "places" "places" (top 55), dd ("shows_places", none) "shows_places" "shows_places" (top 57), dd ("is_state", none) "is_state" "is_state" (top 62), dd ("need_table", none) "need_table" "need_table" (top 63), dd ("bad_story", none) "bad_story" "bad_story" (top 68), dd ("keeper", none) "keeper" "keeper" (top 70)] : List He.DefD) ++ ([dd ("greatest_late", none) "greatest_late" "greatest_late" (top 72), dd ("least_rest", none) "least_rest" "least_rest" (top 73), dd ("least_last", none) "least_last" "least_last" (top 74), dd ("need_thumb", none) "need_thumb" "need_thumb" (top 76), dd ("thumb_fails", none) "thumb_fails" "thumb_fails" (top 78), dd ("good_thumbs", none) "good_thumbs" "good_thumbs" (top 79), dd ("_law_taken", none) "_law_taken" "_law_taken" (top 81), dd ("_law_pick", none) "_law_pick" "_law_pick" (top 82), dd ("_law_refused", none) "_law_refused" "_law_refused" (top 83), dd ("_law_works", none) "_law_works" "_law_works" (top 84), dd ("law", none) "law" "law" (top 85)] : List He.DefD) ++ ([dd ("BadAlmanac", some "__init__") "__init__" "BadAlmanac.__init__" (inClass (top 2) 0), dd ("BadTable", some "__init__") "__init__" "BadTable.__init__" (inClass (top 6) 0), dd ("TooMany", some "__init__") "__init__" "TooMany.__init__" (inClass (top 8) 0)] : List He.DefD)
def fa : List He.Fa := ([.glo "START", .glo "is_number", .glo "are_settings", .glo "need_almanac", .glo "shut_by", .glo "opened_by", .glo "urgent_at", .glo "are_wakings", .glo "are_sets", .glo "is_story", .glo "readings", .glo "need_hour"] : List He.Fa) ++ ([.glo "shut", .glo "opened", .glo "urgent", .glo "next_settings", .glo "need_readings", .glo "first_stands", .glo "stands_behind", .glo "stands_through", .glo "rule", .glo "may_be", .glo "is_conflict", .glo "conflicts"] : List He.Fa) ++ ([.glo "conflict", .glo "shows_conflict", .glo "has_keeper", .glo "places", .glo "shows_places", .glo "is_state", .glo "need_table", .glo "bad_story", .glo "keeper", .glo "greatest_late", .glo "least_rest", .glo "least_last"] : List He.Fa) ++ ([.glo "need_thumb", .glo "thumb_fails", .glo "good_thumbs", .glo "_law_taken", .glo "_law_pick", .glo "_law_refused", .glo "_law_works", .glo "law", .glo "Steps", .glo "Twins", .free "all", .free "bool"] : List He.Fa) ++ ([.free "dict", .free "enumerate", .free "int", .free "isinstance", .free "len", .free "list", .free "max", .free "range", .free "set", .free "sorted", .free "tuple", .free "zip"] : List He.Fa) ++ ([.int "LEAST_HOURS" 2, .int "MOST_DONE" 30, .int "MOST_HOUR" 1000000000, .int "MOST_HOURS" 12, .int "MOST_LATE" 24, .int "MOST_REST" 12, .int "MOST_SETTINGS" 4, .int "MOST_STATES" 4000, .int "MOST_THUMB_HOURS" 8, .int "MOST_WAKINGS" 60, .cls "Steps", .cls "Twins"] : List He.Fa) ++ ([.noat "Steps" "almanac", .noat "Steps" "costs", .noat "Twins" "almanac", .noat "Twins" "steps", .meth "Steps" "behind", .meth "Twins" "search", .mkr "Steps", .mkr "Twins", .glo "BadAlmanac", .glo "BadHour", .glo "BadReadings", .glo "BadStory"] : List He.Fa) ++ ([.glo "BadTable", .glo "ClockworkError", .glo "NoKeeper", .glo "TooMany", .exc "BadHour", .exc "BadReadings", .exc "BadStory", .exc "NoKeeper"] : List He.Fa)
def tfg : List He.Defn := ([("are_settings", none), ("need_readings", none), ("shows_conflict", none), ("shows_places", none), ("need_thumb", none)] : List He.Defn)
def exB (K : PySem.W.Frag) : Bool := exTB K exT && (fldTB K fldT && (oexB K "BadAlmanac" "part" && (oexB K "BadTable" "index" && (oexB K "TooMany" "most" && (He.tupB K "START" [.int 0, .int 0, .int 0, .int 0, .int 1, .int 1] && (!(((tfg.map (He.cT K)).map (·.2)).contains (He.cT K Lams.wd).2)))))))
def tf : List He.Defn := ([("are_settings", none), ("need_readings", none), ("shows_conflict", none), ("shows_places", none), ("need_thumb", none), ("_law_works", none)] : List He.Defn)
abbrev rowR : PySem.W.OpenRow := PySem.W.OpenLaw.row PySem.Challenge.rw_wrongclock_k02_almanacs_refused
abbrev hookR : PySem.W.Hook := He.hookX 4 fa fn [] tf exB
def obR (s : PySem.W.SharedT) : He.AlX := He.obsX 4 fa fn [] tf exB (HandSHeadRun.getT s)
theorem obR_eq (s : PySem.W.SharedT) : obR s = hookR.obs s.abs := He.obsX_eq (HandSHeadRun.getT_eq s)
def looseR : List PySem.Str := (["ClockworkError", "BadAlmanac", "BadHour", "BadStory", "BadReadings", "BadTable", "NoKeeper", "TooMany", "LEAST_HOURS", "MOST_HOURS", "MOST_LATE", "MOST_SETTINGS"] : List PySem.Str) ++ (["MOST_REST", "MOST_HOUR", "MOST_WAKINGS", "is_number", "are_settings", "need_almanac", "shut_by", "opened_by", "urgent_at", "are_wakings", "are_sets", "is_story"] : List PySem.Str) ++ (["read_at", "readings", "need_hour", "shut", "opened", "urgent", "next_settings", "Steps", "need_readings", "first_stands", "stands_behind", "stands_through"] : List PySem.Str) ++ (["rule", "may_be", "MOST_PLACES", "START", "is_conflict", "Twins", "stories_of", "story_of", "least_conflict", "conflicts", "conflict", "do_conflict"] : List PySem.Str) ++ (["shows_conflict", "has_keeper", "places", "is_place", "shows_places", "MOST_STATES", "MOST_DONE", "MOST_THUMB_HOURS", "is_state", "need_table", "woken", "shortest_bad"] : List PySem.Str) ++ (["told_story", "bad_of", "bad_story", "acted", "keeper", "changed", "greatest_late", "least_rest", "least_last", "thumbed", "need_thumb", "bad_thumb"] : List PySem.Str) ++ (["thumb_fails", "good_thumbs", "_law_taken", "_law_pick", "_law_refused", "_law_works"] : List PySem.Str)
theorem map3R {α β γ δ : Type} {X : Option α} {f : α → β} {g : α → γ} {k : α → δ} {a : β} {b : γ} {c : δ} (h1 : X.map f = some a) (h2 : X.map g = some b) (h3 : X.map k = some c) : X.map (fun s => (f s, g s, k s)) = some (a, b, c) := by
  cases X with
  | none => cases h1
  | some s =>
    cases h1
    cases h2
    cases h3
    rfl
theorem map4R {α β γ : Type} {X : Option α} {a b d : α → Bool} {c : α → β} {c' : β} {e : γ} (h1 : X.map a = some true) (h2 : X.map b = some true) (h3 : X.map c = some c') (h4 : X.map d = some true) : X.map (fun s => (((a s && b s, c s), e), d s)) = some (((true, c'), e), true) := by
  cases X with
  | none => cases h1
  | some s =>
    have h1 : a s = true := Option.some.inj h1
    have h2 : b s = true := Option.some.inj h2
    have h3 : c s = c' := Option.some.inj h3
    have h4 : d s = true := Option.some.inj h4
    show some (((a s && b s, c s), e), d s) = _
    rw [h1, h2, h3, h4]
    rfl
section
open PySem PySem.W PySem.Calls PyProof.Rows
abbrev viewR : Program := view rowR.prog [85]
abbrev getR (s : SharedT) : Addr → Option Obj := HandSHeadRun.getT s
abbrev fragR (s : SharedT) : PySem.W.Frag := He.frT (getR s) (He.asD (getR s) 4)
theorem rh1 (w : World) (os : OsState) : (HandSHeadRun.endF (HandSHeadRun.stepQ (HandSHeadRun.denQ HandSHeadRun.tabQ) rowR.prog w) 20000 rowR.prog w os).map (fun s => HandSHeadRun.looksF rowR.prog (boot_heap w.params) s.abs) = some (true) := by
  kernel_rfl
theorem rh2 (w : World) (os : OsState) : (HandSHeadRun.endF (HandSHeadRun.stepQ (HandSHeadRun.denQ HandSHeadRun.tabQ) rowR.prog w) 20000 rowR.prog w os).map (fun s => HandSHeadRun.seenQ viewR looseR (importedModules rowR.prog.main.body) (fun s => xlAt viewR [] s && recOk rowR.toRowW.records s) s.abs) = some (openGood viewR looseR) := by
  kernel_rfl
theorem rh3 (w : World) (os : OsState) : (HandSHeadRun.endF (HandSHeadRun.stepQ (HandSHeadRun.denQ HandSHeadRun.tabQ) rowR.prog w) 20000 rowR.prog w os).map (fun s => fa.all fun f => f.ok (fragR s)) = some (true) := by
  kernel_rfl
theorem rh4 (w : World) (os : OsState) : (HandSHeadRun.endF (HandSHeadRun.stepQ (HandSHeadRun.denQ HandSHeadRun.tabQ) rowR.prog w) 20000 rowR.prog w os).map (fun s => fn.all fun d => d.ok (fragR s)) = some (true) := by
  kernel_rfl
theorem rh5 (w : World) (os : OsState) : (HandSHeadRun.endF (HandSHeadRun.stepQ (HandSHeadRun.denQ HandSHeadRun.tabQ) rowR.prog w) 20000 rowR.prog w os).map (fun s => fn.map fun d => He.fnW (fragR s) d.at_) = some (fn.map He.DefD.val) := by
  kernel_rfl
theorem rh6 (w : World) (os : OsState) : (HandSHeadRun.endF (HandSHeadRun.stepQ (HandSHeadRun.denQ HandSHeadRun.tabQ) rowR.prog w) 20000 rowR.prog w os).map (fun s => exB (fragR s) && He.tabsB (getR s) tf (fragR s)) = some (true) := by
  kernel_rfl
theorem rh7 (w : World) (os : OsState) : (HandSHeadRun.endF (HandSHeadRun.stepQ (HandSHeadRun.denQ HandSHeadRun.tabQ) rowR.prog w) 20000 rowR.prog w os).map obR = some (hookR.val w) :=
  map4R (rh3 w os) (rh4 w os) (rh5 w os) (rh6 w os)
end
theorem runR_head (w : World) : HandSHeadRun.RunEq rowR (PySem.W.view rowR.prog [85]) hookR obR 20000 looseR w := fun os => map3R (rh1 w os) (rh2 w os) (rh7 w os)
/-! is_number -/
noncomputable def G_is_number : M Fl := (bnd (vAnd (bnd (fVar 0) (app1 (isiG "int"))) (vAnd (vNot (bnd (fVar 0) (app1 (isiG "bool")))) (fCh leG leG (fVar 1) (fVar 0) (fVar 2)))) fun r => ret (.ret r))
noncomputable def F_is_number : List PyData → Res := runD 3 3 G_is_number
/-! are_settings -/
noncomputable def G_are_settings : M Fl := (sq (bnd (fOr (fNot (fB (bnd (fVar 0) (app1 (isiG "tuple"))))) (fB (f2 gtG (fN lenG (fCons (fVar 0) fNil)) (fC (.int 4))))) fun k => if k = true then (bnd (fC (.bool false)) fun r => ret (.ret r)) else (ret .nx))
  (sq (bnd (fNot (fB (fQ1 true [1] geSet (fVar 0)))) fun k => if k = true then (bnd (fC (.bool false)) fun r => ret (.ret r)) else (ret .nx))
  (bnd (fQ2 true [] geLt (fCons (fVar 0) (fCons (bnd (fVar 0) fun r => bnd (bnd (fC (.int 1)) toI) fun i => bnd (ret none) fun j => cutM r i j) fNil))) fun r => ret (.ret r))))
noncomputable def F_are_settings : List PyData → Res := runD 2 2 G_are_settings
/-! need_almanac -/
noncomputable def G_need_almanac : M Fl := (sq (bnd (fOr (fNot (fB (bnd (fVar 0) (app1 (isiG "tuple"))))) (fB (f2 neG (fN lenG (fCons (fVar 0) fNil)) (fC (.int 7))))) fun k => if k = true then (bnd (fC (.str "almanac")) (raiseF "BadAlmanac" "part")) else (ret .nx))
  (sq (bnd (fVar 0) (asg (tupleG 7 (gCn (setM 1) (gCn (setM 2) (gCn (setM 3) (gCn (setM 4) (gCn (setM 5) (gCn (setM 6) (gCn (setM 7) gNl))))))))))
  (sq (bnd (fNot (fB (fCall F_is_number (fCons (fVar 1) (fCons (fC (.int 2)) (fCons (fC (.int 12)) fNil)))))) fun k => if k = true then (bnd (fC (.str "hours")) (raiseF "BadAlmanac" "part")) else (ret .nx))
  (sq (bnd (fNot (fB (fCall F_is_number (fCons (fVar 2) (fCons (fC (.int 0)) (fCons (f2 subG (fVar 1) (fC (.int 1))) fNil)))))) fun k => if k = true then (bnd (fC (.str "first")) (raiseF "BadAlmanac" "part")) else (ret .nx))
  (sq (bnd (fNot (fB (fCall F_is_number (fCons (fVar 3) (fCons (fVar 2) (fCons (f2 subG (f2 addG (fVar 2) (fVar 1)) (fC (.int 1))) fNil)))))) fun k => if k = true then (bnd (fC (.str "last")) (raiseF "BadAlmanac" "part")) else (ret .nx))
  (sq (bnd (fNot (fB (fCall F_is_number (fCons (fVar 4) (fCons (fC (.int 1)) (fCons (fC (.int 24)) fNil)))))) fun k => if k = true then (bnd (fC (.str "soon")) (raiseF "BadAlmanac" "part")) else (ret .nx))
  (sq (bnd (fNot (fB (fCall F_is_number (fCons (fVar 5) (fCons (fVar 4) (fCons (fC (.int 24)) fNil)))))) fun k => if k = true then (bnd (fC (.str "late")) (raiseF "BadAlmanac" "part")) else (ret .nx))
  (sq (bnd (fNot (fB (fCall F_are_settings (fCons (fVar 6) (fCons (fVar 1) fNil))))) fun k => if k = true then (bnd (fC (.str "settings")) (raiseF "BadAlmanac" "part")) else (ret .nx))
  (bnd (fNot (fB (fCall F_is_number (fCons (fVar 7) (fCons (fC (.int 1)) (fCons (fC (.int 12)) fNil)))))) fun k => if k = true then (bnd (fC (.str "rest")) (raiseF "BadAlmanac" "part")) else (ret .nx))))))))))
noncomputable def F_need_almanac : List PyData → Res := runD 1 8 G_need_almanac
/-! shut_by -/
noncomputable def G_shut_by : M Fl := (bnd (f2 addG (f2 divG (f2 subG (f2 subG (fVar 1) (fC (.int 1))) (f2 ixG (fVar 0) (fC (.int 2)))) (f2 ixG (fVar 0) (fC (.int 0)))) (fC (.int 1))) fun r => ret (.ret r))
noncomputable def F_shut_by : List PyData → Res := runD 2 2 G_shut_by
/-! opened_by -/
noncomputable def G_opened_by : M Fl := (bnd (f2 addG (f2 divG (f2 subG (fVar 1) (f2 ixG (fVar 0) (fC (.int 1)))) (f2 ixG (fVar 0) (fC (.int 0)))) (fC (.int 1))) fun r => ret (.ret r))
noncomputable def F_opened_by : List PyData → Res := runD 2 2 G_opened_by
/-! urgent_at -/
noncomputable def G_urgent_at : M Fl := (bnd (fCall F_shut_by (fCons (fVar 0) (fCons (f2 addG (fVar 1) (f2 ixG (fVar 0) (fC (.int 4)))) fNil))) fun r => ret (.ret r))
noncomputable def F_urgent_at : List PyData → Res := runD 2 2 G_urgent_at
/-! are_wakings -/
noncomputable def G_are_wakings : M Fl := (sq (bnd (fOr (fNot (fB (bnd (fVar 1) (app1 (isiG "tuple"))))) (fOr (fNot (fB (fCh leG leG (fC (.int 1)) (fN lenG (fCons (fVar 1) fNil)) (fC (.int 60))))) (fNot (fB (fCall F_is_number (fCons (f2 ixG (fVar 1) (fC (.int 0))) (fCons (fC (.int 0)) (fCons (fC (.int 0)) fNil)))))))) fun k => if k = true then (bnd (fC (.bool false)) fun r => ret (.ret r)) else (ret .nx))
  (sq (bnd (bnd (fCons (fVar 1) (fCons (bnd (fVar 1) fun r => bnd (bnd (fC (.int 1)) toI) fun i => bnd (ret none) fun j => cutM r i j) fNil)) zipTI) (forM (tupleG 2 (gCn (setM 2) (gCn (setM 3) gNl))) (bnd (fNot (fB (fCall F_is_number (fCons (fVar 3) (fCons (f2 addG (fVar 2) (f2 ixG (fVar 0) (fC (.int 3)))) (fCons (f2 addG (fVar 2) (f2 ixG (fVar 0) (fC (.int 4)))) fNil)))))) fun k => if k = true then (bnd (fC (.bool false)) fun r => ret (.ret r)) else (ret .nx))))
  (bnd (fC (.bool true)) fun r => ret (.ret r))))
noncomputable def F_are_wakings : List PyData → Res := runD 2 4 G_are_wakings
/-! are_sets -/
noncomputable def G_are_sets : M Fl := (sq (bnd (fNot (fB (bnd (fVar 1) (app1 (isiG "tuple"))))) fun k => if k = true then (bnd (fC (.bool false)) fun r => ret (.ret r)) else (ret .nx))
  (sq (bnd (fC (.int 1)) (asg (setM 3)))
  (sq (bnd (bnd (fVar 1) tupI) (forM (setM 4) (sq (bnd (fOr (fNot (fB (bnd (fVar 4) (app1 (isiG "tuple"))))) (fOr (fB (f2 neG (fN lenG (fCons (fVar 4) fNil)) (fC (.int 2)))) (fNot (fB (fCall F_is_number (fCons (f2 ixG (fVar 4) (fC (.int 0))) (fCons (fVar 3) (fCons (fVar 2) fNil)))))))) fun k => if k = true then (bnd (fC (.bool false)) fun r => ret (.ret r)) else (ret .nx))
  (sq (bnd (fOr (fB (bnd (f2 ixG (fVar 4) (fC (.int 1))) (app1 (isiG "bool")))) (fOr (fNot (fB (bnd (f2 ixG (fVar 4) (fC (.int 1))) (app1 (isiG "int"))))) (fB (f2 (inG true) (f2 ixG (fVar 4) (fC (.int 1))) (f2 ixG (fVar 0) (fC (.int 5))))))) fun k => if k = true then (bnd (fC (.bool false)) fun r => ret (.ret r)) else (ret .nx))
  (bnd (f2 addG (f2 ixG (fVar 4) (fC (.int 0))) (f2 ixG (fVar 0) (fC (.int 6)))) (asg (setM 3)))))))
  (bnd (fC (.bool true)) fun r => ret (.ret r)))))
noncomputable def F_are_sets : List PyData → Res := runD 3 5 G_are_sets
/-! is_story -/
noncomputable def G_is_story : M Fl := (sq (bnd (fOr (fNot (fB (bnd (fVar 1) (app1 (isiG "tuple"))))) (fOr (fB (f2 neG (fN lenG (fCons (fVar 1) fNil)) (fC (.int 2)))) (fNot (fB (fCall F_are_wakings (fCons (fVar 0) (fCons (f2 ixG (fVar 1) (fC (.int 0))) fNil))))))) fun k => if k = true then (bnd (fC (.bool false)) fun r => ret (.ret r)) else (ret .nx))
  (bnd (fCall F_are_sets (fCons (fVar 0) (fCons (f2 ixG (fVar 1) (fC (.int 1))) (fCons (f2 ixG (f2 ixG (fVar 1) (fC (.int 0))) (bnd (fC (.int 1)) negM)) fNil)))) fun r => ret (.ret r)))
noncomputable def F_is_story : List PyData → Res := runD 2 2 G_is_story
/-! readings -/
noncomputable def G_readings : M Fl := (sq (bnd (fCall F_need_almanac (fCons (fVar 0) fNil)) fun _ => ret .nx)
  (sq (bnd (fNot (fB (fCall F_is_story (fCons (fVar 0) (fCons (fVar 1) fNil))))) fun k => if k = true then (raise0 "BadStory") else (ret .nx))
  (fun _ => .bad)))
noncomputable def F_readings : List PyData → Res := runD 2 2 G_readings
/-! need_hour -/
noncomputable def G_need_hour : M Fl := (bnd (fNot (fB (fCall F_is_number (fCons (fVar 0) (fCons (fC (.int 0)) (fCons (fC (.int 1000000000)) fNil)))))) fun k => if k = true then (raise0 "BadHour") else (ret .nx))
noncomputable def F_need_hour : List PyData → Res := runD 1 1 G_need_hour
/-! shut -/
noncomputable def G_shut : M Fl := (sq (bnd (fCall F_need_almanac (fCons (fVar 0) fNil)) fun _ => ret .nx)
  (sq (bnd (fCall F_need_hour (fCons (fVar 1) fNil)) fun _ => ret .nx)
  (fun _ => .bad)))
noncomputable def F_shut : List PyData → Res := runD 2 2 G_shut
/-! opened -/
noncomputable def G_opened : M Fl := (sq (bnd (fCall F_need_almanac (fCons (fVar 0) fNil)) fun _ => ret .nx)
  (sq (bnd (fCall F_need_hour (fCons (fVar 1) fNil)) fun _ => ret .nx)
  (fun _ => .bad)))
noncomputable def F_opened : List PyData → Res := runD 2 2 G_opened
/-! urgent -/
noncomputable def G_urgent : M Fl := (sq (bnd (fCall F_need_almanac (fCons (fVar 0) fNil)) fun _ => ret .nx)
  (sq (bnd (fCall F_need_hour (fCons (fVar 1) fNil)) fun _ => ret .nx)
  (fun _ => .bad)))
noncomputable def F_urgent : List PyData → Res := runD 2 2 G_urgent
/-! next_settings -/
noncomputable def G_next_settings : M Fl := (sq (bnd (bnd (newM (.dt [])) fun r => bnd (fTup (fCons (fC (.int 0)) (fCons (fVar 1) fNil))) fun x => bnd (fTup fNil) fun y => dPut1 r x y) (asg (setM 3)))
  (sq (bnd (bnd (fCons (fC (.int 1)) (fCons (f2 addG (fVar 2) (fC (.int 1))) fNil)) rng2I) (forM (setM 4) (sq (bnd (bnd (fVar 3) copyTM) (asg (setM 5)))
  (sq (bnd (bnd (fVar 3) itemsM) (forM (tupleG 2 (gCn (tupleG 2 (gCn (setM 6) (gCn (setM 7) gNl))) (gCn (setM 8) gNl))) (bnd (fB (f2 geG (fVar 4) (fVar 7))) fun k => if k = true then (bnd (bnd (f2 ixG (fVar 0) (fC (.int 5))) tupI) (forM (setM 9) (sq (bnd (fTup (fCons (f2 addG (fVar 6) (fVar 9)) (fCons (f2 addG (fVar 4) (f2 ixG (fVar 0) (fC (.int 6)))) fNil))) (asg (setM 10)))
  (bnd (fB (bnd (fVar 10) fun ri => bnd (fVar 5) fun r => dInM true ri r)) fun k => if k = true then (bnd (f2 addG (fVar 8) (fTup (fCons (fTup (fCons (fVar 4) (fCons (fVar 9) fNil))) fNil))) fun v => bnd (fVar 5) fun r => bnd (fVar 10) fun ri => dSetM v r ri) else (ret .nx))))) else (ret .nx))))
  (bnd (fVar 5) (asg (setM 3)))))))
  (bnd (fVar 3) fun r => ret (.ret r))))
noncomputable def F_next_settings : List Rv → List Oc → GRes := runG 3 11 G_next_settings
/-! Steps_init -/
noncomputable def G_Steps_init : M Fl := (sq (bnd (fVar 1) fun v => bnd (fVar 0) fun r => setFM "Steps" "almanac" r v)
  (bnd (newM (.dk [])) fun v => bnd (fVar 0) fun r => setFM "Steps" "costs" r v))
noncomputable def F_Steps_init : List Rv → List Oc → GRes := runG 2 2 G_Steps_init
/-! Steps_behind -/
noncomputable def G_Steps_behind : M Fl := (sq (bnd (fB (bnd (fVar 1) fun ri => bnd (bnd (fVar 0) (fldM "Steps" "costs")) fun r => dInM true ri r)) fun k => if k = true then (sq (bnd (newM (.dt [])) (asg (setM 2)))
  (sq (bnd (bnd (fCons (f2 ixG (bnd (fVar 0) (fldM "Steps" "almanac")) (fC (.int 3))) (fCons (f2 addG (f2 ixG (bnd (fVar 0) (fldM "Steps" "almanac")) (fC (.int 4))) (fC (.int 1))) fNil)) rng2I) (forM (setM 3) (bnd (bnd (fCallG F_next_settings (fCons (bnd (fVar 0) (fldM "Steps" "almanac")) (fCons (fVar 1) (fCons (fVar 3) fNil)))) itemsM) (forM (tupleG 2 (gCn (tupleG 2 (gCn (setM 4) (gCn (setM 5) gNl))) (gCn (setM 6) gNl))) (sq (bnd (fTup (fCons (fVar 3) (fCons (f2 modG (fVar 4) (f2 ixG (bnd (fVar 0) (fldM "Steps" "almanac")) (fC (.int 0)))) (fCons (fN maxG (fCons (fC (.int 1)) (fCons (f2 subG (fVar 5) (fVar 3)) fNil))) fNil)))) (asg (setM 7)))
  (bnd (fB (bnd (fVar 7) fun ri => bnd (fVar 2) fun r => dInM true ri r)) fun k => if k = true then (bnd (fVar 6) fun v => bnd (fVar 2) fun r => bnd (fVar 7) fun ri => dSetM v r ri) else (ret .nx)))))))
  (bnd (bnd (bnd (bnd (bnd (fVar 2) sortTM) lstI) (compM [7] (setM 7) (ret true) (f2 addG (fVar 7) (fTup (fCons (bnd (fVar 2) fun r => bnd (fVar 7) fun ri => dGetM r ri) fNil))))) frzR) fun v => bnd (bnd (fVar 0) (fldM "Steps" "costs")) fun r => bnd (fVar 1) fun ri => dSetM v r ri))) else (ret .nx))
  (bnd (bnd (bnd (fVar 0) (fldM "Steps" "costs")) fun r => bnd (fVar 1) fun ri => dGetM r ri) fun r => ret (.ret r)))
noncomputable def F_Steps_behind : List Rv → List Oc → GRes := runG 2 8 G_Steps_behind
/-! need_readings -/
noncomputable def G_need_readings : M Fl := (sq (bnd (fOr (fNot (fB (bnd (fVar 1) (app1 (isiG "tuple"))))) (fNot (fB (fCh leG leG (fC (.int 1)) (fN lenG (fCons (fVar 1) fNil)) (fC (.int 60)))))) fun k => if k = true then (raise0 "BadReadings") else (ret .nx))
  (bnd (fNot (fB (fQ1 true [0] geNum (fVar 1)))) fun k => if k = true then (raise0 "BadReadings") else (ret .nx)))
noncomputable def F_need_readings : List PyData → Res := runD 2 2 G_need_readings
/-! first_stands -/
noncomputable def G_first_stands : M Fl := (bnd (fIf (fB (f2 eqG (fVar 1) (fC (.int 0)))) (fLst (fCons (fTup (fCons (fC (.int 0)) (fCons (fC (.int 0)) (fCons (fC (.int 1)) fNil)))) fNil)) (fLst fNil)) fun r => ret (.ret r))
noncomputable def F_first_stands : List PyData → Res := runD 2 2 G_first_stands
/-! stands_behind -/
noncomputable def G_stands_behind : M Fl := (sq (bnd (newM (.dt [])) (asg (setM 4)))
  (sq (bnd (bnd (fVar 2) lstI) (forM (tupleG 3 (gCn (setM 5) (gCn (setM 6) (gCn (setM 7) gNl)))) (bnd (bnd (fMethG "Steps" "behind" (noX F_Steps_behind) (fVar 1) (fCons (fVar 7) fNil)) lstI) (forM (tupleG 4 (gCn (setM 8) (gCn (setM 9) (gCn (setM 10) (gCn (setM 11) gNl))))) (sq (bnd (f2 modG (f2 addG (fVar 6) (fVar 9)) (f2 ixG (fVar 0) (fC (.int 0)))) (asg (setM 12)))
  (bnd (fB (f2 eqG (f2 modG (f2 addG (f2 addG (fVar 5) (fVar 8)) (fVar 12)) (f2 ixG (fVar 0) (fC (.int 0)))) (fVar 3))) fun k => if k = true then (bnd (fC (.bool true)) fun v => bnd (fVar 4) fun r => bnd (fTup (fCons (f2 addG (fVar 5) (fVar 8)) (fCons (fVar 12) (fCons (fVar 10) fNil)))) fun ri => dSetM v r ri) else (ret .nx)))))))
  (bnd (bnd (fVar 4) sortTM) fun r => ret (.ret r))))
noncomputable def F_stands_behind : List Rv → List Oc → GRes := runG 4 13 G_stands_behind
/-! stands_through -/
noncomputable def G_stands_through : M Fl := (sq (bnd (bnd (fCons (fVar 0) fNil) (makeM "Steps" F_Steps_init)) (asg (setM 2)))
  (sq (bnd (fLst (fCons (fCall F_first_stands (fCons (fVar 0) (fCons (f2 ixG (fVar 1) (fC (.int 0))) fNil))) fNil)) (asg (setM 3)))
  (sq (bnd (bnd (bnd (fVar 1) fun r => bnd (bnd (fC (.int 1)) toI) fun i => bnd (ret none) fun j => cutM r i j) tupI) (forM (setM 4) (bnd (bnd (fVar 3) fun r => bnd (chkL r) fun _ => bnd (bnd (fCallG F_stands_behind (fCons (fVar 0) (fCons (fVar 2) (fCons (f2 ixG (fVar 3) (bnd (fC (.int 1)) negM)) (fCons (fVar 4) fNil))))) frzR) fun v => appM r v) fun _ => ret .nx)))
  (sq (bnd (fNot (bnd (f2 ixG (fVar 3) (bnd (fC (.int 1)) negM)) trL)) fun k => if k = true then (raise0 "BadReadings") else (ret .nx))
  (bnd (fVar 3) fun r => ret (.ret r))))))
noncomputable def F_stands_through : List PyData → Res := runD 2 5 G_stands_through
/-! rule -/
noncomputable def G_rule : M Fl := (sq (bnd (fCall F_need_almanac (fCons (fVar 0) fNil)) fun _ => ret .nx)
  (sq (bnd (fCall F_need_readings (fCons (fVar 0) (fCons (fVar 1) fNil))) fun _ => ret .nx)
  (sq (bnd (fCall F_stands_through (fCons (fVar 0) (fCons (fVar 1) fNil))) (asg (setM 2)))
  (fun _ => .bad))))
noncomputable def F_rule : List PyData → Res := runD 2 6 G_rule
/-! may_be -/
noncomputable def G_may_be : M Fl := (sq (bnd (fCall F_need_almanac (fCons (fVar 0) fNil)) fun _ => ret .nx)
  (sq (bnd (fCall F_need_readings (fCons (fVar 0) (fCons (fVar 1) fNil))) fun _ => ret .nx)
  (bnd (fN tupG (fCons (fL usrtG (fCons (bnd (bnd (f2 ixG (fCall F_stands_through (fCons (fVar 0) (fCons (fVar 1) fNil))) (bnd (fC (.int 1)) negM)) lstI) (compM [2, 3] (tupleG 3 (gCn (setM 2) (gCn (setM 3) (gCn (setM 3) gNl)))) (ret true) (fVar 2))) fNil)) fNil)) fun r => ret (.ret r))))
noncomputable def F_may_be : List PyData → Res := runD 2 4 G_may_be
/-! is_conflict -/
noncomputable def G_is_conflict : M Fl := (bnd (f2 gtG (fCall F_urgent_at (fCons (fVar 0) (fCons (fVar 1) fNil))) (fCall F_opened_by (fCons (fVar 0) (fCons (f2 subG (fVar 1) (fVar 2)) fNil)))) fun r => ret (.ret r))
noncomputable def F_is_conflict : List PyData → Res := runD 3 3 G_is_conflict
/-! Twins_init -/
noncomputable def G_Twins_init : M Fl := (sq (bnd (fVar 1) fun v => bnd (fVar 0) fun r => setFM "Twins" "almanac" r v)
  (bnd (bnd (fCons (fVar 1) fNil) (makeM "Steps" F_Steps_init)) fun v => bnd (fVar 0) fun r => setFM "Twins" "steps" r v))
noncomputable def F_Twins_init : List Rv → List Oc → GRes := runG 2 2 G_Twins_init
/-! Twins_search -/
/-! conflicts -/
noncomputable def G_conflicts : M Fl := (bnd (bnd (bnd (fCons (fVar 0) fNil) (makeM "Twins" F_Twins_init)) (srchM F_is_conflict)) fun r => ret (.ret r))
noncomputable def F_conflicts : List PyData → Res := runD 1 1 G_conflicts
/-! conflict -/
noncomputable def G_conflict : M Fl := (sq (bnd (fCall F_need_almanac (fCons (fVar 0) fNil)) fun _ => ret .nx)
  (fun _ => .bad))
noncomputable def F_conflict : List PyData → Res := runD 1 1 G_conflict
/-! shows_conflict -/
noncomputable def G_shows_conflict : M Fl := (sq (bnd (fCall F_need_almanac (fCons (fVar 0) fNil)) fun _ => ret .nx)
  (fun _ => .bad))
noncomputable def F_shows_conflict : List PyData → Res := runD 2 3 G_shows_conflict
/-! has_keeper -/
noncomputable def G_has_keeper : M Fl := (sq (bnd (fCall F_need_almanac (fCons (fVar 0) fNil)) fun _ => ret .nx)
  (fun _ => .bad))
noncomputable def F_has_keeper : List PyData → Res := runD 1 1 G_has_keeper
/-! places -/
noncomputable def G_places : M Fl := (sq (bnd (fCall F_need_almanac (fCons (fVar 0) fNil)) fun _ => ret .nx)
  (fun _ => .bad))
noncomputable def F_places : List PyData → Res := runD 1 3 G_places
/-! shows_places -/
noncomputable def G_shows_places : M Fl := (sq (bnd (fCall F_need_almanac (fCons (fVar 0) fNil)) fun _ => ret .nx)
  (fun _ => .bad))
noncomputable def F_shows_places : List PyData → Res := runD 2 4 G_shows_places
/-! is_state -/
noncomputable def G_is_state : M Fl := (sq (bnd (fOr (fNot (fB (bnd (fVar 1) (app1 (isiG "tuple"))))) (fB (f2 neG (fN lenG (fCons (fVar 1) fNil)) (f2 ixG (fVar 0) (fC (.int 0)))))) fun k => if k = true then (bnd (fC (.bool false)) fun r => ret (.ret r)) else (ret .nx))
  (sq (bnd (bnd (fVar 1) tupI) (forM (setM 3) (bnd (fB (f2 (isNG true) (fVar 3) (fC .none))) fun k => if k = true then (sq (bnd (fOr (fNot (fB (bnd (fVar 3) (app1 (isiG "tuple"))))) (fOr (fB (f2 neG (fN lenG (fCons (fVar 3) fNil)) (fC (.int 2)))) (fNot (fB (fCall F_is_number (fCons (f2 ixG (fVar 3) (fC (.int 0))) (fCons (fC (.int 0)) (fCons (f2 subG (fVar 2) (fC (.int 1))) fNil)))))))) fun k => if k = true then (bnd (fC (.bool false)) fun r => ret (.ret r)) else (ret .nx))
  (bnd (fNot (fB (fCall F_is_number (fCons (f2 ixG (fVar 3) (fC (.int 1))) (fCons (fC (.int 0)) (fCons (fC (.int 30)) fNil)))))) fun k => if k = true then (bnd (fC (.bool false)) fun r => ret (.ret r)) else (ret .nx))) else (ret .nx))))
  (bnd (fC (.bool true)) fun r => ret (.ret r))))
noncomputable def F_is_state : List PyData → Res := runD 3 4 G_is_state
/-! need_table -/
noncomputable def G_need_table : M Fl := (sq (bnd (fOr (fNot (fB (bnd (fVar 1) (app1 (isiG "tuple"))))) (fNot (fB (fCh leG leG (fC (.int 1)) (fN lenG (fCons (fVar 1) fNil)) (fC (.int 4000)))))) fun k => if k = true then (bnd (fC .none) (raiseF "BadTable" "index")) else (ret .nx))
  (bnd (bnd (fCons (fVar 1) fNil) enumTI) (forM (tupleG 2 (gCn (setM 2) (gCn (setM 3) gNl))) (bnd (fNot (fB (fCall F_is_state (fCons (fVar 0) (fCons (fVar 3) (fCons (fN lenG (fCons (fVar 1) fNil)) fNil)))))) fun k => if k = true then (bnd (fVar 2) (raiseF "BadTable" "index")) else (ret .nx)))))
noncomputable def F_need_table : List PyData → Res := runD 2 4 G_need_table
/-! bad_story -/
noncomputable def G_bad_story : M Fl := (sq (bnd (fCall F_need_almanac (fCons (fVar 0) fNil)) fun _ => ret .nx)
  (sq (bnd (fCall F_need_table (fCons (fVar 0) (fCons (fVar 1) fNil))) fun _ => ret .nx)
  (fun _ => .bad)))
noncomputable def F_bad_story : List PyData → Res := runD 2 2 G_bad_story
/-! keeper -/
noncomputable def G_keeper : M Fl := (sq (bnd (fCall F_need_almanac (fCons (fVar 0) fNil)) fun _ => ret .nx)
  (sq (bnd (fB (fCall F_conflicts (fCons (fVar 0) fNil))) fun k => if k = true then (raise0 "NoKeeper") else (ret .nx))
  (fun _ => .bad)))
noncomputable def F_keeper : List PyData → Res := runD 1 12 G_keeper
/-! greatest_late -/
noncomputable def G_greatest_late : M Fl := (sq (bnd (fCall F_need_almanac (fCons (fVar 0) fNil)) fun _ => ret .nx)
  (fun _ => .bad))
noncomputable def F_greatest_late : List PyData → Res := runD 1 3 G_greatest_late
/-! least_rest -/
noncomputable def G_least_rest : M Fl := (sq (bnd (fCall F_need_almanac (fCons (fVar 0) fNil)) fun _ => ret .nx)
  (fun _ => .bad))
noncomputable def F_least_rest : List PyData → Res := runD 1 2 G_least_rest
/-! least_last -/
noncomputable def G_least_last : M Fl := (sq (bnd (fCall F_need_almanac (fCons (fVar 0) fNil)) fun _ => ret .nx)
  (fun _ => .bad))
noncomputable def F_least_last : List PyData → Res := runD 1 2 G_least_last
/-! need_thumb -/
noncomputable def G_need_thumb : M Fl := (sq (bnd (fOr (fNot (fB (bnd (fVar 1) (app1 (isiG "tuple"))))) (fNot (bnd (fVar 1) trL))) fun k => if k = true then (raise0 "BadReadings") else (ret .nx))
  (sq (bnd (fNot (fB (fQ1 true [0] geNum (fVar 1)))) fun k => if k = true then (raise0 "BadReadings") else (ret .nx))
  (bnd (fNot (fB (fQ2 true [] geLt (fCons (fVar 1) (fCons (bnd (fVar 1) fun r => bnd (bnd (fC (.int 1)) toI) fun i => bnd (ret none) fun j => cutM r i j) fNil))))) fun k => if k = true then (raise0 "BadReadings") else (ret .nx))))
noncomputable def F_need_thumb : List PyData → Res := runD 2 2 G_need_thumb
/-! thumb_fails -/
noncomputable def G_thumb_fails : M Fl := (sq (bnd (fCall F_need_almanac (fCons (fVar 0) fNil)) fun _ => ret .nx)
  (sq (bnd (fCall F_need_thumb (fCons (fVar 0) (fCons (fVar 1) fNil))) fun _ => ret .nx)
  (fun _ => .bad)))
noncomputable def F_thumb_fails : List PyData → Res := runD 2 2 G_thumb_fails
/-! good_thumbs -/
noncomputable def G_good_thumbs : M Fl := (sq (bnd (fCall F_need_almanac (fCons (fVar 0) fNil)) fun _ => ret .nx)
  (sq (bnd (fB (f2 gtG (f2 ixG (fVar 0) (fC (.int 0))) (fC (.int 8)))) fun k => if k = true then (bnd (fC (.int 255)) (raiseF "TooMany" "most")) else (ret .nx))
  (fun _ => .bad)))
noncomputable def F_good_thumbs : List PyData → Res := runD 1 4 G_good_thumbs
/-! _law_taken -/
noncomputable def G__law_taken : M Fl := (sq (bnd (fB (f2 gtG (f2 ixG (fVar 0) (fC (.int 3))) (fC (.int 0)))) fun k => if k = true then (sq (bnd (f2 modG (fN intG (fCons (f2 ixG (fVar 0) (fC (.int 3))) fNil)) (fVar 1)) (asg (setM 2)))
  (sq (bnd (f2 divG (f2 ixG (fVar 0) (fC (.int 3))) (fVar 1)) fun v => bnd (fVar 0) fun r => bnd (fC (.int 3)) fun ri => setIx r ri v)
  (bnd (fVar 2) fun r => ret (.ret r)))) else (ret .nx))
  (sq (bnd (f2 addG (f2 ixG (fVar 0) (fC (.int 1))) (fC (.int 1))) fun v => bnd (fVar 0) fun r => bnd (fC (.int 1)) fun ri => setIx r ri v)
  (sq (bnd (fB (f2 gtG (f2 ixG (fVar 0) (fC (.int 1))) (fN lenG (fCons (f2 ixG (fVar 0) (fC (.int 0))) fNil)))) fun k => if k = true then (sq (bnd (f2 modG (fN intG (fCons (f2 addG (f2 mulG (f2 ixG (fVar 0) (fC (.int 2))) (fC (.int 48271))) (fC (.int 11))) fNil)) (fC (.int 2147483647))) fun v => bnd (fVar 0) fun r => bnd (fC (.int 2)) fun ri => setIx r ri v)
  (bnd (f2 modG (fN intG (fCons (f2 divG (f2 ixG (fVar 0) (fC (.int 2))) (fC (.int 7))) fNil)) (fVar 1)) fun r => ret (.ret r))) else (ret .nx))
  (sq (bnd (f2 ixG (f2 ixG (fVar 0) (fC (.int 0))) (f2 subG (f2 ixG (fVar 0) (fC (.int 1))) (fC (.int 1)))) (asg (setM 3)))
  (sq (bnd (f2 modG (fN intG (fCons (f2 addG (f2 addG (f2 mulG (f2 ixG (fVar 0) (fC (.int 2))) (fC (.int 48271))) (fVar 3)) (fC (.int 11))) fNil)) (fC (.int 2147483647))) fun v => bnd (fVar 0) fun r => bnd (fC (.int 2)) fun ri => setIx r ri v)
  (sq (bnd (fB (f2 geG (fVar 3) (f2 powG (fC (.int 10)) (fC (.int 18))))) fun k => if k = true then (bnd (f2 divG (fVar 3) (fVar 1)) fun v => bnd (fVar 0) fun r => bnd (fC (.int 3)) fun ri => setIx r ri v) else (ret .nx))
  (bnd (f2 modG (fN intG (fCons (fVar 3) fNil)) (fVar 1)) fun r => ret (.ret r))))))))
noncomputable def F__law_taken : List PyData → List PyData → RRes := runR 2 4 G__law_taken
/-! _law_pick -/
noncomputable def G__law_pick : M Fl := (bnd (f2 ixG (fVar 1) (fCallR F__law_taken (fVar 0) (fCons (fN lenG (fCons (fVar 1) fNil)) fNil))) fun r => ret (.ret r))
noncomputable def F__law_pick : List PyData → List PyData → RRes := runR 2 2 G__law_pick
noncomputable def lamF : Nat → M Rv
  | 0 => (fCall F_conflict (fCons (fVar 0) fNil))
  | 1 => (fCall F_has_keeper (fCons (fVar 0) fNil))
  | 2 => (fCall F_places (fCons (fVar 0) fNil))
  | 3 => (fCall F_shows_conflict (fCons (fVar 0) (fCons (fC .none) fNil)))
  | 4 => (fCall F_shows_places (fCons (fVar 0) (fCons (fC .none) fNil)))
  | 5 => (fCall F_keeper (fCons (fVar 0) fNil))
  | 6 => (fCall F_greatest_late (fCons (fVar 0) fNil))
  | 7 => (fCall F_least_rest (fCons (fVar 0) fNil))
  | 8 => (fCall F_least_last (fCons (fVar 0) fNil))
  | 9 => (fCall F_good_thumbs (fCons (fVar 0) fNil))
  | 10 => (fCall F_readings (fCons (fVar 1) (fCons (fVar 0) fNil)))
  | 11 => (fCall F_shut (fCons (fVar 1) (fCons (fVar 0) fNil)))
  | 12 => (fCall F_opened (fCons (fVar 1) (fCons (fVar 0) fNil)))
  | 13 => (fCall F_urgent (fCons (fVar 1) (fCons (fVar 0) fNil)))
  | 14 => (fCall F_rule (fCons (fVar 1) (fCons (fVar 0) fNil)))
  | 15 => (fCall F_may_be (fCons (fVar 1) (fCons (fVar 0) fNil)))
  | 16 => (fCall F_thumb_fails (fCons (fVar 1) (fCons (fVar 0) fNil)))
  | 17 => (fCall F_bad_story (fCons (fVar 1) (fCons (fVar 0) fNil)))
  | _ => fun _ => .bad
/-! _law_refused -/
noncomputable def G__law_refused : M Fl := (sq (bnd (fC .none) (asg (setM 1)))
  (sq (tryAs 2 (fun s => exL exT s "ClockworkError") (bnd (callFn 0 lamF) fun _ => ret .nx) (fun ex => (sq (bnd (fLst fNil) (asg (setM 3)))
  (sq (bnd (bnd (fVar 3) fun r => bnd (chkL r) fun _ => bnd (isE 2 (exL exT ex.cls "BadAlmanac")) fun v => appM r v) fun _ => ret .nx)
  (sq (bnd (bnd (fVar 3) fun r => bnd (chkL r) fun _ => bnd (isE 2 (exL exT ex.cls "BadHour")) fun v => appM r v) fun _ => ret .nx)
  (sq (bnd (bnd (fVar 3) fun r => bnd (chkL r) fun _ => bnd (isE 2 (exL exT ex.cls "BadStory")) fun v => appM r v) fun _ => ret .nx)
  (sq (bnd (bnd (fVar 3) fun r => bnd (chkL r) fun _ => bnd (isE 2 (exL exT ex.cls "BadReadings")) fun v => appM r v) fun _ => ret .nx)
  (sq (bnd (bnd (fVar 3) fun r => bnd (chkL r) fun _ => bnd (isE 2 (exL exT ex.cls "BadTable")) fun v => appM r v) fun _ => ret .nx)
  (sq (bnd (bnd (fVar 3) fun r => bnd (chkL r) fun _ => bnd (isE 2 (exL exT ex.cls "NoKeeper")) fun v => appM r v) fun _ => ret .nx)
  (sq (bnd (bnd (fVar 3) fun r => bnd (chkL r) fun _ => bnd (isE 2 (exL exT ex.cls "TooMany")) fun v => appM r v) fun _ => ret .nx)
  (sq (bnd (fLst (fCons (fC (.str "almanac")) (fCons (fC (.str "hour")) (fCons (fC (.str "story")) (fCons (fC (.str "readings")) (fCons (fC (.str "table")) (fCons (fC (.str "none")) (fCons (fC (.str "many")) fNil)))))))) (asg (setM 4)))
  (sq (bnd (fIf (fB (f2 eqG (bnd (fVar 3) fun r => bnd (chkB r) fun _ => bnd (fC (.bool true)) fun v => cntB r v) (fC (.int 1)))) (f2 ixG (fVar 4) (bnd (fVar 3) fun r => bnd (chkB r) fun _ => bnd (fC (.bool true)) fun v => idxB r v)) (fC (.str "other"))) (asg (setM 1)))
  (sq (bnd (fIf (fB (f2 eqG (fVar 1) (fC (.str "almanac")))) (fTup (fCons (fC (.str "almanac")) (fCons (fldE2 fldT 2 "part" ex) fNil))) (fVar 1)) (asg (setM 1)))
  (sq (bnd (fIf (fB (f2 eqG (fVar 1) (fC (.str "table")))) (fTup (fCons (fC (.str "table")) (fCons (fldE2 fldT 2 "index" ex) fNil))) (fVar 1)) (asg (setM 1)))
  (bnd (fIf (fB (f2 eqG (fVar 1) (fC (.str "many")))) (fTup (fCons (fC (.str "many")) (fCons (fldE2 fldT 2 "most" ex) fNil))) (fVar 1)) (asg (setM 1)))))))))))))))))
  (bnd (fVar 1) fun r => ret (.ret r))))
noncomputable def F__law_refused : List Rv → List Oc → GRes := runG 1 5 G__law_refused
noncomputable def G_law_0 : M Fl := ((bnd (fLst (fCons (fVar 0) (fCons (fC (.int 0)) (fCons (fC (.int 3002)) (fCons (fC (.int 0)) fNil))))) (asg (setM 1))))
noncomputable def G_law_1 : M Fl := trunc (bnd (fTup (fCons (fC (.int 4)) (fCons (fC (.int 1)) (fCons (fC (.int 3)) (fCons (fC (.int 1)) (fCons (fC (.int 2)) (fCons (fTup (fCons (f2 subG (fC (.int 0)) (fC (.int 1))) (fCons (fC (.int 1)) fNil))) (fCons (fC (.int 3)) fNil)))))))) (asg (setM 2)))
noncomputable def G_law_2 : M Fl := ((bnd (fLst (fCons (fC (.str "hours")) (fCons (fC (.str "first")) (fCons (fC (.str "last")) (fCons (fC (.str "soon")) (fCons (fC (.str "late")) (fCons (fC (.str "settings")) (fCons (fC (.str "rest")) fNil)))))))) (asg (setM 3))))
noncomputable def G_law_3 : M Fl := ((bnd (fLst (fCons (bnd (fLst (fCons (fC (.int 1)) (fCons (fC (.int 13)) (fCons (fC .none) (fCons (fC (.bool true)) (fCons (fC (.str "4")) fNil)))))) frzR) (fCons (bnd (fLst (fCons (f2 subG (fC (.int 0)) (fC (.int 1))) (fCons (fC (.int 4)) (fCons (fC .none) (fCons (fC (.bool true)) fNil))))) frzR) (fCons (bnd (fLst (fCons (fC (.int 0)) (fCons (fC (.int 5)) (fCons (fC .none) (fCons (fC (.bool true)) fNil))))) frzR) fNil)))) (asg (setM 4))))
noncomputable def G_law_4 : M Fl := ((bnd (bnd (fVar 4) fun x => bnd (fLst (fCons (bnd (fLst (fCons (fC (.int 0)) (fCons (fC (.int 25)) (fCons (fC .none) (fCons (fC (.bool true)) fNil))))) frzR) (fCons (bnd (fLst (fCons (fC (.int 0)) (fCons (fC (.int 25)) (fCons (fC .none) (fCons (fC (.bool true)) fNil))))) frzR) fNil))) fun y => catQ x y) (asg (setM 4))))
noncomputable def G_law_5 : M Fl := trunc (bnd (bnd (fVar 4) fun r => bnd (chkL r) fun _ => bnd (bnd (fLst (fCons (fC .none) (fCons (bnd (fLst (fCons (fC (.int 1)) fNil)) frzR) (fCons (fTup (fCons (fC (.int 0)) fNil)) (fCons (fTup (fCons (fC (.int 4)) fNil)) (fCons (fTup (fCons (fC (.int 1)) (fCons (f2 subG (fC (.int 0)) (fC (.int 1))) fNil))) (fCons (fTup (fCons (fC (.int 1)) (fCons (fC (.int 1)) fNil))) (fCons (fTup (fCons (fC (.bool true)) fNil)) (fCons (fTup (fCons (fC (.int 1)) (fCons (fC (.int 2)) (fCons (fC (.int 3)) (fCons (f2 subG (fC (.int 0)) (fC (.int 1))) (fCons (f2 subG (fC (.int 0)) (fC (.int 2))) fNil)))))) (fCons dct0 (fCons (fTup (fCons (fC (.str "1")) fNil)) fNil))))))))))) frzR) fun v => appM r v) fun _ => ret .nx)
noncomputable def G_law_6 : M Fl := trunc (bnd (bnd (fVar 4) fun r => bnd (chkL r) fun _ => bnd (bnd (fLst (fCons (fC (.int 0)) (fCons (fC (.int 13)) (fCons (fC .none) (fCons (fC (.bool true)) (fCons (fC (.str "3")) fNil)))))) frzR) fun v => appM r v) fun _ => ret .nx)
noncomputable def P_law_7 (pk : List PyData → List PyData → RRes) : M Fl := trunc (bnd (fCallR pk (fVar 1) (fCons (fC (.int 8)) fNil)) (asg (setM 5)))
noncomputable def G_law_7 : M Fl := P_law_7 F__law_taken
noncomputable def P_law_8 (pk : List PyData → List PyData → RRes) : M Fl := trunc (bnd (fCons (fCallR pk (fVar 1) (fCons (fLst (fCons (fC .none) (fCons (bnd (fL lstG (fCons (fVar 2) fNil)) frzR) (fCons (bnd (fVar 2) fun r => bnd (ret none) fun i => bnd (bnd (fC (.int 6)) toI) fun j => cutM r i j) (fCons (f2 addG (fVar 2) (fTup (fCons (fC (.int 1)) fNil))) (fCons dct0 (fCons (fC (.str "almanac")) fNil))))))) fNil)) (fCons (fC (.str "almanac")) fNil)) (par2 6 7))
noncomputable def G_law_8 : M Fl := P_law_8 F__law_pick
noncomputable def P_law_9 (pk : List PyData → List PyData → RRes) : M Fl := trunc (bnd (fB (f2 ltG (fVar 5) (fC (.int 7)))) fun k => if k = true then (bnd (fCons (f2 addG (f2 addG (bnd (fVar 2) fun r => bnd (ret none) fun i => bnd (bnd (fVar 5) toI) fun j => cutM r i j) (fTup (fCons (fCallR pk (fVar 1) (fCons (f2 ixG (fVar 4) (fVar 5)) fNil)) fNil))) (bnd (fVar 2) fun r => bnd (bnd (f2 addG (fVar 5) (fC (.int 1))) toI) fun i => bnd (ret none) fun j => cutM r i j)) (fCons (f2 ixG (fVar 3) (fVar 5)) fNil)) (par2 6 7)) else (ret .nx))
noncomputable def G_law_9 : M Fl := P_law_9 F__law_pick
noncomputable def G_law_10 : M Fl := trunc (bnd (fB (f2 neG (bnd (bnd (bnd (fCons (fVar 6) (fCons (fC .none) fNil)) (worksM 2 worksS)) fnsI) (compMR [20] (setM 20) (ret true) (fCallG F__law_refused (fCons (fVar 20) fNil)))) (bnd (fLst (fCons (fTup (fCons (fC (.str "almanac")) (fCons (fVar 7) fNil))) fNil)) fun x => bnd (fC (.int 18)) fun y => repL x y))) fun k => if k = true then (bnd (fC (.bool false)) fun r => ret (.ret r)) else (ret .nx))
noncomputable def G_law_11 : M Fl := ((bnd (fLst (fCons (fC .none) (fCons (fTup (fCons (fTup (fCons (fC (.int 0)) fNil)) fNil)) (fCons (fTup (fCons (fTup fNil) (fCons (fTup fNil) fNil))) (fCons (fTup (fCons (fTup (fCons (fC (.int 1)) fNil)) (fCons (fTup fNil) fNil))) (fCons (fTup (fCons (fTup (fCons (fC (.int 0)) (fCons (fC (.int 3)) fNil))) (fCons (fTup fNil) fNil))) (fCons (fTup (fCons (fTup (fCons (fC (.int 0)) (fCons (fC (.int 1)) (fCons (fC (.int 1)) fNil)))) (fCons (fTup fNil) fNil))) (fCons (fTup (fCons (bnd (fLst (fCons (fC (.int 0)) fNil)) frzR) (fCons (fTup fNil) fNil))) (fCons (fTup (fCons (fTup (fCons (fC (.int 0)) fNil)) (fCons (bnd (fLst fNil) frzR) fNil))) fNil))))))))) (asg (setM 8))))
noncomputable def G_law_12 : M Fl := ((bnd (bnd (fVar 8) fun x => bnd (fLst (fCons (fTup (fCons (fTup (fCons (fC (.int 0)) (fCons (fC (.int 2)) fNil))) (fCons (fTup (fCons (fTup (fCons (fC (.int 1)) (fCons (fC (.int 2)) fNil))) fNil)) fNil))) (fCons (fTup (fCons (fTup (fCons (fC (.int 0)) (fCons (fC (.int 2)) fNil))) (fCons (fTup (fCons (fTup (fCons (fC (.int 3)) (fCons (fC (.int 1)) fNil))) fNil)) fNil))) (fCons (fTup (fCons (fTup (fCons (fC (.int 0)) (fCons (fC (.int 2)) fNil))) (fCons (fTup (fCons (fTup (fCons (fC (.int 1)) (fCons (fC (.int 1)) fNil))) (fCons (fTup (fCons (fC (.int 2)) (fCons (fC (.int 1)) fNil))) fNil))) fNil))) (fCons (fTup (fCons (fTup (fCons (fC (.bool false)) fNil)) (fCons (fTup fNil) fNil))) fNil))))) fun y => catQ x y) (asg (setM 8))))
noncomputable def G_law_13 : M Fl := ((bnd (bnd (fVar 8) fun x => bnd (fLst (fCons (fTup (fCons (fTup (fCons (fC (.int 0)) (fCons (fC (.int 2)) fNil))) (fCons (fTup (fCons (fTup (fCons (fC (.int 0)) (fCons (fC (.int 1)) fNil))) fNil)) fNil))) (fCons (fTup (fCons (fTup (fCons (fC (.int 0)) (fCons (fC (.int 2)) fNil))) (fCons (fTup (fCons (fTup (fCons (fC (.int 1)) (fCons (fC (.bool true)) fNil))) fNil)) fNil))) fNil))) fun y => catQ x y) (asg (setM 8))))
noncomputable def P_law_14 (pk : List PyData → List PyData → RRes) : M Fl := trunc (bnd (fB (f2 neG (fCallG F__law_refused (fCons (bnd (bnd (fCons (fVar 2) (fCons (fCallR pk (fVar 1) (fCons (bnd (fVar 8) fun x => bnd (fLst (fCons (fTup (fCons (fTup (fCons (fC (.int 0)) (fCons (fC (.int 2)) fNil))) (fCons (fTup (fCons (fTup (fCons (fC (.int 1)) fNil)) fNil)) fNil))) (fCons dct0 fNil))) fun y => catQ x y) fNil)) fNil)) (worksM 2 worksS)) fun r => bnd (fC (.int 10)) fun ri => fnsIx r ri) fNil)) (fC (.str "story")))) fun k => if k = true then (bnd (fC (.bool false)) fun r => ret (.ret r)) else (ret .nx))
noncomputable def G_law_14 : M Fl := P_law_14 F__law_pick
noncomputable def P_law_15 (pk : List PyData → List PyData → RRes) : M Fl := trunc (bnd (fCallR pk (fVar 1) (fCons (fLst (fCons (fC .none) (fCons (fC (.bool true)) (fCons (f2 subG (fC (.int 0)) (fC (.int 1))) (fCons (f2 addG (f2 powG (fC (.int 10)) (fC (.int 9))) (fC (.int 1))) (fCons (fC (.str "1")) (fCons (fTup (fCons (fC (.int 1)) fNil)) fNil))))))) fNil)) (asg (setM 9)))
noncomputable def G_law_15 : M Fl := P_law_15 F__law_pick
noncomputable def G_law_16 : M Fl := trunc (bnd (fB (f2 neG (bnd (bnd (bnd (bnd (fCons (fVar 2) (fCons (fVar 9) fNil)) (worksM 2 worksS)) fun r => bnd (bnd (fC (.int 11)) toI) fun i => bnd (bnd (fC (.int 14)) toI) fun j => fnsCut r i j) fnsI) (compMR [20] (setM 20) (ret true) (fCallG F__law_refused (fCons (fVar 20) fNil)))) (bnd (fLst (fCons (fC (.str "hour")) fNil)) fun x => bnd (fC (.int 3)) fun y => repL x y))) fun k => if k = true then (bnd (fC (.bool false)) fun r => ret (.ret r)) else (ret .nx))
noncomputable def P_law_17 (pk : List PyData → List PyData → RRes) : M Fl := trunc (bnd (fCallR pk (fVar 1) (fCons (fLst (fCons (fC .none) (fCons (fTup fNil) (fCons (bnd (fLst (fCons (fC (.int 0)) fNil)) frzR) (fCons (fTup (fCons (fC (.int 4)) fNil)) (fCons (fTup (fCons (fC (.bool true)) fNil)) (fCons (fTup (fCons (f2 subG (fC (.int 0)) (fC (.int 1))) fNil)) (fCons (fTup (fCons (fC (.str "0")) fNil)) (fCons (f2 repTG (fTup (fCons (fC (.int 0)) fNil)) (fC (.int 61))) (fCons dct0 (fCons (fTup (fCons (fC (.int 1)) fNil)) (fCons (fTup (fCons (fC (.int 0)) (fCons (fC (.int 3)) (fCons (fC (.int 0)) (fCons (fC (.int 0)) (fCons (fC (.int 0)) fNil)))))) fNil)))))))))))) fNil)) (asg (setM 10)))
noncomputable def G_law_17 : M Fl := P_law_17 F__law_pick
noncomputable def G_law_18 : M Fl := trunc (bnd (fB (f2 neG (bnd (bnd (bnd (bnd (fCons (fTup (fCons (fC (.int 4)) (fCons (fC (.int 1)) (fCons (fC (.int 3)) (fCons (fC (.int 1)) (fCons (fC (.int 2)) (fCons (fTup fNil) (fCons (fC (.int 3)) fNil)))))))) (fCons (fVar 10) fNil)) (worksM 2 worksS)) fun r => bnd (bnd (fC (.int 14)) toI) fun i => bnd (bnd (fC (.int 16)) toI) fun j => fnsCut r i j) fnsI) (compMR [20] (setM 20) (ret true) (fCallG F__law_refused (fCons (fVar 20) fNil)))) (bnd (fLst (fCons (fC (.str "readings")) fNil)) fun x => bnd (fC (.int 2)) fun y => repL x y))) fun k => if k = true then (bnd (fC (.bool false)) fun r => ret (.ret r)) else (ret .nx))
noncomputable def P_law_19 (pk : List PyData → List PyData → RRes) : M Fl := trunc (bnd (fCallR pk (fVar 1) (fCons (fLst (fCons (fC .none) (fCons (fTup fNil) (fCons (bnd (fLst (fCons (fC (.int 0)) fNil)) frzR) (fCons (fTup (fCons (fC (.int 4)) fNil)) (fCons (fTup (fCons (fC (.int 1)) (fCons (fC (.int 0)) fNil))) (fCons (fTup (fCons (fC (.int 0)) (fCons (fC (.int 0)) fNil))) (fCons (fTup (fCons (fC (.bool true)) fNil)) (fCons (fTup (fCons (f2 subG (fC (.int 0)) (fC (.int 1))) fNil)) (fCons dct0 fNil)))))))))) fNil)) (asg (setM 11)))
noncomputable def G_law_19 : M Fl := P_law_19 F__law_pick
noncomputable def G_law_20 : M Fl := trunc (bnd (fB (f2 neG (fCallG F__law_refused (fCons (bnd (bnd (fCons (fVar 2) (fCons (fVar 11) fNil)) (worksM 2 worksS)) fun r => bnd (fC (.int 16)) fun ri => fnsIx r ri) fNil)) (fC (.str "readings")))) fun k => if k = true then (bnd (fC (.bool false)) fun r => ret (.ret r)) else (ret .nx))
noncomputable def P_law_21 (pk : List PyData → List PyData → RRes) : M Fl := trunc (bnd (fCons (fTup (fCons (fC .none) (fCons (fC .none) (fCons (fTup (fCons (fC (.int 0)) (fCons (fC (.int 0)) fNil))) (fCons (fTup (fCons (fC (.int 1)) (fCons (fC (.int 1)) fNil))) fNil))))) (fCons (fCallR pk (fVar 1) (fCons (fC (.int 2)) fNil)) fNil)) (par2 12 13))
noncomputable def G_law_21 : M Fl := P_law_21 F__law_taken
noncomputable def G_law_22 : M Fl := ((bnd (fLst (fCons (fC .none) (fCons (fTup fNil) (fCons (bnd (fVar 12) fun r => bnd (ret none) fun i => bnd (bnd (fC (.int 3)) toI) fun j => cutM r i j) (fCons (f2 addG (fVar 12) (fTup (fCons (fC .none) fNil))) (fCons (f2 repTG (fTup (fCons (fTup (fCons (fC (.int 2)) (fCons (fC (.int 0)) fNil))) fNil)) (fC (.int 4))) (fCons (f2 repTG (fTup (fCons (fTup (fCons (fC (.int 0)) (fCons (fC (.int 31)) fNil))) fNil)) (fC (.int 4))) (fCons (f2 repTG (fTup (fCons (fTup (fCons (fC (.int 0)) fNil)) fNil)) (fC (.int 4))) (fCons (f2 repTG (fTup (fCons (fTup (fCons (fC (.bool true)) (fCons (fC (.int 0)) fNil))) fNil)) (fC (.int 4))) fNil))))))))) (asg (setM 14))))
noncomputable def G_law_23 : M Fl := trunc (bnd (bnd (fVar 14) fun r => bnd (chkL r) fun _ => bnd (bnd (bnd (fLst (fCons (fC .none) fNil)) fun x => bnd (fC (.int 4)) fun y => repL x y) frzR) fun v => appM r v) fun _ => ret .nx)
noncomputable def P_law_24 (pk : List PyData → List PyData → RRes) : M Fl := trunc (bnd (fTup (fCons (f2 addG (f2 addG (bnd (fTup (fCons (fVar 12) (fCons (fVar 12) fNil))) fun r => bnd (ret none) fun i => bnd (bnd (fVar 13) toI) fun j => cutM r i j) (fTup (fCons (fCallR pk (fVar 1) (fCons (fVar 14) fNil)) fNil))) (bnd (fTup (fCons (fVar 12) (fCons (fVar 12) fNil))) fun r => bnd (bnd (f2 addG (fVar 13) (fC (.int 1))) toI) fun i => bnd (ret none) fun j => cutM r i j)) (fCons (fVar 13) fNil))) (asg (setM 15)))
noncomputable def G_law_24 : M Fl := P_law_24 F__law_pick
noncomputable def P_law_25 (pk : List PyData → List PyData → RRes) : M Fl := trunc (bnd (fCallR pk (fVar 1) (fCons (bnd (fLst (fCons (fTup (fCons (fC .none) (fCons (fC .none) fNil))) (fCons (fTup (fCons (fTup fNil) (fCons (fC .none) fNil))) (fCons (fTup (fCons (bnd (fLst (fCons (fVar 12) fNil)) frzR) (fCons (fC .none) fNil))) fNil)))) fun x => bnd (bnd (fLst (fCons (fVar 15) fNil)) fun x => bnd (fC (.int 4)) fun y => repL x y) fun y => catQ x y) fNil)) (asg (tupleG 2 (gCn (setM 16) (gCn (setM 17) gNl)))))
noncomputable def G_law_25 : M Fl := P_law_25 F__law_pick
noncomputable def G_law_26 : M Fl := trunc (bnd (fB (f2 neG (fCallG F__law_refused (fCons (bnd (bnd (fCons (fVar 2) (fCons (fVar 16) fNil)) (worksM 2 worksS)) fun r => bnd (fC (.int 17)) fun ri => fnsIx r ri) fNil)) (fTup (fCons (fC (.str "table")) (fCons (fVar 17) fNil))))) fun k => if k = true then (bnd (fC (.bool false)) fun r => ret (.ret r)) else (ret .nx))
noncomputable def G_law_27 : M Fl := trunc (bnd (fTup (fCons (fTup (fCons (fC (.int 4)) (fCons (fC (.int 1)) (fCons (fC (.int 1)) (fCons (fC (.int 1)) (fCons (fC (.int 3)) (fCons (fTup fNil) (fCons (fC (.int 3)) fNil)))))))) (fCons (fTup (fCons (fC (.int 9)) (fCons (fC (.int 1)) (fCons (fC (.int 8)) (fCons (fC (.int 1)) (fCons (fC (.int 2)) (fCons (fTup fNil) (fCons (fC (.int 3)) fNil)))))))) fNil))) (asg (tupleG 2 (gCn (setM 18) (gCn (setM 19) gNl)))))
noncomputable def G_law_28 : M Fl := ((bnd (f2 eqG (fLst (fCons (fCallG F__law_refused (fCons (bnd (bnd (fCons (fVar 18) (fCons (fC .none) fNil)) (worksM 2 worksS)) fun r => bnd (fC (.int 5)) fun ri => fnsIx r ri) fNil)) (fCons (fCallG F__law_refused (fCons (bnd (bnd (fCons (fVar 19) (fCons (fC .none) fNil)) (worksM 2 worksS)) fun r => bnd (fC (.int 9)) fun ri => fnsIx r ri) fNil)) fNil))) (fLst (fCons (fC (.str "none")) (fCons (fTup (fCons (fC (.str "many")) (fCons (fC (.int 255)) fNil))) fNil)))) fun r => ret (.ret r)))
/-! law -/
noncomputable def G_law : M Fl := (sq G_law_0
  (sq G_law_1
  (sq G_law_2
  (sq G_law_3
  (sq G_law_4
  (sq G_law_5
  (sq G_law_6
  (sq G_law_7
  (sq G_law_8
  (sq G_law_9
  (sq G_law_10
  (sq G_law_11
  (sq G_law_12
  (sq G_law_13
  (sq G_law_14
  (sq G_law_15
  (sq G_law_16
  (sq G_law_17
  (sq G_law_18
  (sq G_law_19
  (sq G_law_20
  (sq G_law_21
  (sq G_law_22
  (sq G_law_23
  (sq G_law_24
  (sq G_law_25
  (sq G_law_26
  (sq G_law_27
  G_law_28))))))))))))))))))))))))))))
noncomputable def F_law : List Rv → List Oc → GRes := runG 1 21 G_law
structure Fs (K : PySem.W.Frag) (mg : Str → Option Value) (base : Heap) (TT : Tt) where
  fd_BadAlmanac_init : FuncData
  F_BadAlmanac_init : FunD K "__init__" "BadAlmanac.__init__" (defArgs (inClass (top 2) 0)) (defBody (inClass (top 2) 0)) (defScope (inClass (top 2) 0)) [] [] (He.ma K (He.ga K "BadAlmanac") "__init__") fd_BadAlmanac_init
  O_BadAlmanac : OexN K "BadAlmanac" "part"
  fd_BadTable_init : FuncData
  F_BadTable_init : FunD K "__init__" "BadTable.__init__" (defArgs (inClass (top 6) 0)) (defBody (inClass (top 6) 0)) (defScope (inClass (top 6) 0)) [] [] (He.ma K (He.ga K "BadTable") "__init__") fd_BadTable_init
  O_BadTable : OexN K "BadTable" "index"
  fd_TooMany_init : FuncData
  F_TooMany_init : FunD K "__init__" "TooMany.__init__" (defArgs (inClass (top 8) 0)) (defBody (inClass (top 8) 0)) (defScope (inClass (top 8) 0)) [] [] (He.ma K (He.ga K "TooMany") "__init__") fd_TooMany_init
  O_TooMany : OexN K "TooMany" "most"
  E_BadHour : (He.Fa.exc "BadHour").ok K = true
  E_BadReadings : (He.Fa.exc "BadReadings").ok K = true
  E_BadStory : (He.Fa.exc "BadStory").ok K = true
  E_NoKeeper : (He.Fa.exc "NoKeeper").ok K = true
  m_BadAlmanac : mg "BadAlmanac" = some (.ref (He.ga K "BadAlmanac"))
  m_BadHour : mg "BadHour" = some (.ref (He.ga K "BadHour"))
  m_BadReadings : mg "BadReadings" = some (.ref (He.ga K "BadReadings"))
  m_BadStory : mg "BadStory" = some (.ref (He.ga K "BadStory"))
  m_BadTable : mg "BadTable" = some (.ref (He.ga K "BadTable"))
  m_ClockworkError : mg "ClockworkError" = some (.ref (He.ga K "ClockworkError"))
  m_NoKeeper : mg "NoKeeper" = some (.ref (He.ga K "NoKeeper"))
  m_TooMany : mg "TooMany" = some (.ref (He.ga K "TooMany"))
  X_T : exTB K exT = true
  X_F : fldTB K fldT = true
  m_START : mg "START" = some (.ref (He.ga K "START"))
  S_START : ∀ H, SqT K H (He.ga K "START") [.int 0, .int 0, .int 0, .int 0, .int 1, .int 1]
  fd_is_number : FuncData
  F_is_number : FunD K "is_number" "is_number" (defArgs (top 17)) (defBody (top 17)) (defScope (top 17)) [] [] (He.ga K "is_number") fd_is_number
  m_is_number : mg "is_number" = some (.ref (He.ga K "is_number"))
  fd_are_settings : FuncData
  F_are_settings : FunD K "are_settings" "are_settings" (defArgs (top 18)) (defBody (top 18)) (defScope (top 18)) [] [] (He.ga K "are_settings") fd_are_settings
  m_are_settings : mg "are_settings" = some (.ref (He.ga K "are_settings"))
  fd_need_almanac : FuncData
  F_need_almanac : FunD K "need_almanac" "need_almanac" (defArgs (top 19)) (defBody (top 19)) (defScope (top 19)) [] [] (He.ga K "need_almanac") fd_need_almanac
  m_need_almanac : mg "need_almanac" = some (.ref (He.ga K "need_almanac"))
  fd_shut_by : FuncData
  F_shut_by : FunD K "shut_by" "shut_by" (defArgs (top 20)) (defBody (top 20)) (defScope (top 20)) [] [] (He.ga K "shut_by") fd_shut_by
  m_shut_by : mg "shut_by" = some (.ref (He.ga K "shut_by"))
  fd_opened_by : FuncData
  F_opened_by : FunD K "opened_by" "opened_by" (defArgs (top 21)) (defBody (top 21)) (defScope (top 21)) [] [] (He.ga K "opened_by") fd_opened_by
  m_opened_by : mg "opened_by" = some (.ref (He.ga K "opened_by"))
  fd_urgent_at : FuncData
  F_urgent_at : FunD K "urgent_at" "urgent_at" (defArgs (top 22)) (defBody (top 22)) (defScope (top 22)) [] [] (He.ga K "urgent_at") fd_urgent_at
  m_urgent_at : mg "urgent_at" = some (.ref (He.ga K "urgent_at"))
  fd_are_wakings : FuncData
  F_are_wakings : FunD K "are_wakings" "are_wakings" (defArgs (top 23)) (defBody (top 23)) (defScope (top 23)) [] [] (He.ga K "are_wakings") fd_are_wakings
  m_are_wakings : mg "are_wakings" = some (.ref (He.ga K "are_wakings"))
  fd_are_sets : FuncData
  F_are_sets : FunD K "are_sets" "are_sets" (defArgs (top 24)) (defBody (top 24)) (defScope (top 24)) [] [] (He.ga K "are_sets") fd_are_sets
  m_are_sets : mg "are_sets" = some (.ref (He.ga K "are_sets"))
  fd_is_story : FuncData
  F_is_story : FunD K "is_story" "is_story" (defArgs (top 25)) (defBody (top 25)) (defScope (top 25)) [] [] (He.ga K "is_story") fd_is_story
  m_is_story : mg "is_story" = some (.ref (He.ga K "is_story"))
  fd_readings : FuncData
  F_readings : FunD K "readings" "readings" (defArgs (top 27)) (defBody (top 27)) (defScope (top 27)) [] [] (He.ga K "readings") fd_readings
  m_readings : mg "readings" = some (.ref (He.ga K "readings"))
  fd_need_hour : FuncData
  F_need_hour : FunD K "need_hour" "need_hour" (defArgs (top 28)) (defBody (top 28)) (defScope (top 28)) [] [] (He.ga K "need_hour") fd_need_hour
  m_need_hour : mg "need_hour" = some (.ref (He.ga K "need_hour"))
  fd_shut : FuncData
  F_shut : FunD K "shut" "shut" (defArgs (top 29)) (defBody (top 29)) (defScope (top 29)) [] [] (He.ga K "shut") fd_shut
  m_shut : mg "shut" = some (.ref (He.ga K "shut"))
  fd_opened : FuncData
  F_opened : FunD K "opened" "opened" (defArgs (top 30)) (defBody (top 30)) (defScope (top 30)) [] [] (He.ga K "opened") fd_opened
  m_opened : mg "opened" = some (.ref (He.ga K "opened"))
  fd_urgent : FuncData
  F_urgent : FunD K "urgent" "urgent" (defArgs (top 31)) (defBody (top 31)) (defScope (top 31)) [] [] (He.ga K "urgent") fd_urgent
  m_urgent : mg "urgent" = some (.ref (He.ga K "urgent"))
  fd_next_settings : FuncData
  F_next_settings : FunD K "next_settings" "next_settings" (defArgs (top 33)) (defBody (top 33)) (defScope (top 33)) [] [] (He.ga K "next_settings") fd_next_settings
  m_next_settings : mg "next_settings" = some (.ref (He.ga K "next_settings"))
  fd_Steps_init : FuncData
  F_Steps_init : FunD K "__init__" "Steps.__init__" (defArgs (inClass (top 34) 0)) (defBody (inClass (top 34) 0)) (defScope (inClass (top 34) 0)) [] [] (He.ma K (He.ga K "Steps") "__init__") fd_Steps_init
  fd_Steps_behind : FuncData
  F_Steps_behind : FunD K "behind" "Steps.behind" (defArgs (inClass (top 34) 1)) (defBody (inClass (top 34) 1)) (defScope (inClass (top 34) 1)) [] [] (He.ma K (He.ga K "Steps") "behind") fd_Steps_behind
  M_Steps_behind : Meth K (He.ga K "Steps") "behind" (He.ma K (He.ga K "Steps") "behind")
  fd_need_readings : FuncData
  F_need_readings : FunD K "need_readings" "need_readings" (defArgs (top 36)) (defBody (top 36)) (defScope (top 36)) [] [] (He.ga K "need_readings") fd_need_readings
  m_need_readings : mg "need_readings" = some (.ref (He.ga K "need_readings"))
  fd_first_stands : FuncData
  F_first_stands : FunD K "first_stands" "first_stands" (defArgs (top 37)) (defBody (top 37)) (defScope (top 37)) [] [] (He.ga K "first_stands") fd_first_stands
  m_first_stands : mg "first_stands" = some (.ref (He.ga K "first_stands"))
  fd_stands_behind : FuncData
  F_stands_behind : FunD K "stands_behind" "stands_behind" (defArgs (top 38)) (defBody (top 38)) (defScope (top 38)) [] [] (He.ga K "stands_behind") fd_stands_behind
  m_stands_behind : mg "stands_behind" = some (.ref (He.ga K "stands_behind"))
  fd_stands_through : FuncData
  F_stands_through : FunD K "stands_through" "stands_through" (defArgs (top 39)) (defBody (top 39)) (defScope (top 39)) [] [] (He.ga K "stands_through") fd_stands_through
  m_stands_through : mg "stands_through" = some (.ref (He.ga K "stands_through"))
  fd_rule : FuncData
  F_rule : FunD K "rule" "rule" (defArgs (top 40)) (defBody (top 40)) (defScope (top 40)) [] [] (He.ga K "rule") fd_rule
  m_rule : mg "rule" = some (.ref (He.ga K "rule"))
  fd_may_be : FuncData
  F_may_be : FunD K "may_be" "may_be" (defArgs (top 41)) (defBody (top 41)) (defScope (top 41)) [] [] (He.ga K "may_be") fd_may_be
  m_may_be : mg "may_be" = some (.ref (He.ga K "may_be"))
  fd_is_conflict : FuncData
  F_is_conflict : FunD K "is_conflict" "is_conflict" (defArgs (top 45)) (defBody (top 45)) (defScope (top 45)) [] [] (He.ga K "is_conflict") fd_is_conflict
  m_is_conflict : mg "is_conflict" = some (.ref (He.ga K "is_conflict"))
  fd_Twins_init : FuncData
  F_Twins_init : FunD K "__init__" "Twins.__init__" (defArgs (inClass (top 46) 0)) (defBody (inClass (top 46) 0)) (defScope (inClass (top 46) 0)) [] [] (He.ma K (He.ga K "Twins") "__init__") fd_Twins_init
  fd_Twins_search : FuncData
  F_Twins_search : FunD K "search" "Twins.search" (defArgs (inClass (top 46) 2)) (defBody (inClass (top 46) 2)) (defScope (inClass (top 46) 2)) [] [] (He.ma K (He.ga K "Twins") "search") fd_Twins_search
  M_Twins_search : Meth K (He.ga K "Twins") "search" (He.ma K (He.ga K "Twins") "search")
  fd_conflicts : FuncData
  F_conflicts : FunD K "conflicts" "conflicts" (defArgs (top 50)) (defBody (top 50)) (defScope (top 50)) [] [] (He.ga K "conflicts") fd_conflicts
  m_conflicts : mg "conflicts" = some (.ref (He.ga K "conflicts"))
  fd_conflict : FuncData
  F_conflict : FunD K "conflict" "conflict" (defArgs (top 51)) (defBody (top 51)) (defScope (top 51)) [] [] (He.ga K "conflict") fd_conflict
  m_conflict : mg "conflict" = some (.ref (He.ga K "conflict"))
  fd_shows_conflict : FuncData
  F_shows_conflict : FunD K "shows_conflict" "shows_conflict" (defArgs (top 53)) (defBody (top 53)) (defScope (top 53)) [] [] (He.ga K "shows_conflict") fd_shows_conflict
  m_shows_conflict : mg "shows_conflict" = some (.ref (He.ga K "shows_conflict"))
  fd_has_keeper : FuncData
  F_has_keeper : FunD K "has_keeper" "has_keeper" (defArgs (top 54)) (defBody (top 54)) (defScope (top 54)) [] [] (He.ga K "has_keeper") fd_has_keeper
  m_has_keeper : mg "has_keeper" = some (.ref (He.ga K "has_keeper"))
  fd_places : FuncData
  F_places : FunD K "places" "places" (defArgs (top 55)) (defBody (top 55)) (defScope (top 55)) [] [] (He.ga K "places") fd_places
  m_places : mg "places" = some (.ref (He.ga K "places"))
  fd_shows_places : FuncData
  F_shows_places : FunD K "shows_places" "shows_places" (defArgs (top 57)) (defBody (top 57)) (defScope (top 57)) [] [] (He.ga K "shows_places") fd_shows_places
  m_shows_places : mg "shows_places" = some (.ref (He.ga K "shows_places"))
  fd_is_state : FuncData
  F_is_state : FunD K "is_state" "is_state" (defArgs (top 62)) (defBody (top 62)) (defScope (top 62)) [] [] (He.ga K "is_state") fd_is_state
  m_is_state : mg "is_state" = some (.ref (He.ga K "is_state"))
  fd_need_table : FuncData
  F_need_table : FunD K "need_table" "need_table" (defArgs (top 63)) (defBody (top 63)) (defScope (top 63)) [] [] (He.ga K "need_table") fd_need_table
  m_need_table : mg "need_table" = some (.ref (He.ga K "need_table"))
  fd_bad_story : FuncData
  F_bad_story : FunD K "bad_story" "bad_story" (defArgs (top 68)) (defBody (top 68)) (defScope (top 68)) [] [] (He.ga K "bad_story") fd_bad_story
  m_bad_story : mg "bad_story" = some (.ref (He.ga K "bad_story"))
  fd_keeper : FuncData
  F_keeper : FunD K "keeper" "keeper" (defArgs (top 70)) (defBody (top 70)) (defScope (top 70)) [] [] (He.ga K "keeper") fd_keeper
  m_keeper : mg "keeper" = some (.ref (He.ga K "keeper"))
  fd_greatest_late : FuncData
  F_greatest_late : FunD K "greatest_late" "greatest_late" (defArgs (top 72)) (defBody (top 72)) (defScope (top 72)) [] [] (He.ga K "greatest_late") fd_greatest_late
  m_greatest_late : mg "greatest_late" = some (.ref (He.ga K "greatest_late"))
  fd_least_rest : FuncData
  F_least_rest : FunD K "least_rest" "least_rest" (defArgs (top 73)) (defBody (top 73)) (defScope (top 73)) [] [] (He.ga K "least_rest") fd_least_rest
  m_least_rest : mg "least_rest" = some (.ref (He.ga K "least_rest"))
  fd_least_last : FuncData
  F_least_last : FunD K "least_last" "least_last" (defArgs (top 74)) (defBody (top 74)) (defScope (top 74)) [] [] (He.ga K "least_last") fd_least_last
  m_least_last : mg "least_last" = some (.ref (He.ga K "least_last"))
  fd_need_thumb : FuncData
  F_need_thumb : FunD K "need_thumb" "need_thumb" (defArgs (top 76)) (defBody (top 76)) (defScope (top 76)) [] [] (He.ga K "need_thumb") fd_need_thumb
  m_need_thumb : mg "need_thumb" = some (.ref (He.ga K "need_thumb"))
  fd_thumb_fails : FuncData
  F_thumb_fails : FunD K "thumb_fails" "thumb_fails" (defArgs (top 78)) (defBody (top 78)) (defScope (top 78)) [] [] (He.ga K "thumb_fails") fd_thumb_fails
  m_thumb_fails : mg "thumb_fails" = some (.ref (He.ga K "thumb_fails"))
  fd_good_thumbs : FuncData
  F_good_thumbs : FunD K "good_thumbs" "good_thumbs" (defArgs (top 79)) (defBody (top 79)) (defScope (top 79)) [] [] (He.ga K "good_thumbs") fd_good_thumbs
  m_good_thumbs : mg "good_thumbs" = some (.ref (He.ga K "good_thumbs"))
  fd__law_taken : FuncData
  F__law_taken : FunD K "_law_taken" "_law_taken" (defArgs (top 81)) (defBody (top 81)) (defScope (top 81)) [] [] (He.ga K "_law_taken") fd__law_taken
  m__law_taken : mg "_law_taken" = some (.ref (He.ga K "_law_taken"))
  fd__law_pick : FuncData
  F__law_pick : FunD K "_law_pick" "_law_pick" (defArgs (top 82)) (defBody (top 82)) (defScope (top 82)) [] [] (He.ga K "_law_pick") fd__law_pick
  m__law_pick : mg "_law_pick" = some (.ref (He.ga K "_law_pick"))
  fd__law_refused : FuncData
  F__law_refused : FunD K "_law_refused" "_law_refused" (defArgs (top 83)) (defBody (top 83)) (defScope (top 83)) [] [] (He.ga K "_law_refused") fd__law_refused
  m__law_refused : mg "_law_refused" = some (.ref (He.ga K "_law_refused"))
  fd__law_works : FuncData
  F__law_works : FunD K "_law_works" "_law_works" (defArgs (top 84)) (defBody (top 84)) (defScope (top 84)) [] [] (He.ga K "_law_works") fd__law_works
  m__law_works : mg "_law_works" = some (.ref (He.ga K "_law_works"))
  fd_law : FuncData
  F_law : FunD K "law" "law" (defArgs (top 85)) (defBody (top 85)) (defScope (top 85)) [] [] (He.ga K "law") fd_law
  m_law : mg "law" = some (.ref (He.ga K "law"))
  c__law_works : fd__law_works.code = .ref (He.cT K ("_law_works", none)).1
  T__law_works : LamX.TabB base mg (He.cT K ("_law_works", none)).1 (He.cT K ("_law_works", none)).2
  C_Steps : Cls K (He.ga K "Steps")
  K_Steps : Mk K (He.ga K "Steps") (He.ma K (He.ga K "Steps") "__init__")
  m_Steps : mg "Steps" = some (.ref (He.ga K "Steps"))
  C_Twins : Cls K (He.ga K "Twins")
  K_Twins : Mk K (He.ga K "Twins") (He.ma K (He.ga K "Twins") "__init__")
  m_Twins : mg "Twins" = some (.ref (He.ga K "Twins"))
  A_Steps_almanac : NoAttr K (He.ga K "Steps") "almanac"
  A_Steps_costs : NoAttr K (He.ga K "Steps") "costs"
  A_Twins_almanac : NoAttr K (He.ga K "Twins") "almanac"
  A_Twins_steps : NoAttr K (He.ga K "Twins") "steps"
  n_all : mg "all" = none
  n_bool : mg "bool" = none
  n_dict : mg "dict" = none
  n_enumerate : mg "enumerate" = none
  n_int : mg "int" = none
  n_isinstance : mg "isinstance" = none
  n_len : mg "len" = none
  n_list : mg "list" = none
  n_max : mg "max" = none
  n_range : mg "range" = none
  n_set : mg "set" = none
  n_sorted : mg "sorted" = none
  n_tuple : mg "tuple" = none
  n_zip : mg "zip" = none
  i_LEAST_HOURS : ∃ t, mg "LEAST_HOURS" = some (.int 2 t)
  i_MOST_DONE : ∃ t, mg "MOST_DONE" = some (.int 30 t)
  i_MOST_HOUR : ∃ t, mg "MOST_HOUR" = some (.int 1000000000 t)
  i_MOST_HOURS : ∃ t, mg "MOST_HOURS" = some (.int 12 t)
  i_MOST_LATE : ∃ t, mg "MOST_LATE" = some (.int 24 t)
  i_MOST_REST : ∃ t, mg "MOST_REST" = some (.int 12 t)
  i_MOST_SETTINGS : ∃ t, mg "MOST_SETTINGS" = some (.int 4 t)
  i_MOST_STATES : ∃ t, mg "MOST_STATES" = some (.int 4000 t)
  i_MOST_THUMB_HOURS : ∃ t, mg "MOST_THUMB_HOURS" = some (.int 8 t)
  i_MOST_WAKINGS : ∃ t, mg "MOST_WAKINGS" = some (.int 60 t)
  c_are_settings : fd_are_settings.code = .ref (He.cT K ("are_settings", none)).1
  T_are_settings : GxR.TabB base mg (He.cT K ("are_settings", none)).1 (He.cT K ("are_settings", none)).2
  t_are_settings : TT (He.cT K ("are_settings", none)).2
  c_need_readings : fd_need_readings.code = .ref (He.cT K ("need_readings", none)).1
  T_need_readings : GxR.TabB base mg (He.cT K ("need_readings", none)).1 (He.cT K ("need_readings", none)).2
  t_need_readings : TT (He.cT K ("need_readings", none)).2
  c_shows_conflict : fd_shows_conflict.code = .ref (He.cT K ("shows_conflict", none)).1
  T_shows_conflict : GxR.TabB base mg (He.cT K ("shows_conflict", none)).1 (He.cT K ("shows_conflict", none)).2
  t_shows_conflict : TT (He.cT K ("shows_conflict", none)).2
  c_shows_places : fd_shows_places.code = .ref (He.cT K ("shows_places", none)).1
  T_shows_places : GxR.TabB base mg (He.cT K ("shows_places", none)).1 (He.cT K ("shows_places", none)).2
  t_shows_places : TT (He.cT K ("shows_places", none)).2
  c_need_thumb : fd_need_thumb.code = .ref (He.cT K ("need_thumb", none)).1
  T_need_thumb : GxR.TabB base mg (He.cT K ("need_thumb", none)).1 (He.cT K ("need_thumb", none)).2
  t_need_thumb : TT (He.cT K ("need_thumb", none)).2
section
variable {P : Program} {w : World} {K : PySem.W.Frag} {mg : Str → Option Value} {base : Heap} {TT : Tt}
theorem sc_BadAlmanac_init : FnScope ["self", "part"] ["self", "part"] (defScope (inClass (top 2) 0)) := ⟨rfl, rfl, rfl, by decide +kernel, rfl, by decide +kernel, by decide +kernel⟩
theorem b_BadAlmanac_init (Z : Fs K mg base TT) : Binds K Z.fd_BadAlmanac_init ["self", "part"] [] := Z.F_BadAlmanac_init.bindsN fun _ _ _ _ _ _ us hl => match us, hl with | [_, _], _ => rfl
theorem ok_BadAlmanac_init (Z : Fs K mg base TT) : FnOk P w K mg base (CX P w) 1 (He.ma K (He.ga K "BadAlmanac") "__init__") Z.fd_BadAlmanac_init ["self", "part"] (spX K (He.ga K "BadAlmanac") "part") := okX0 (k := 0) Z.F_BadAlmanac_init sc_BadAlmanac_init Z.O_BadAlmanac.c Z.O_BadAlmanac.no
theorem sc_BadTable_init : FnScope ["self", "index"] ["self", "index"] (defScope (inClass (top 6) 0)) := ⟨rfl, rfl, rfl, by decide +kernel, rfl, by decide +kernel, by decide +kernel⟩
theorem b_BadTable_init (Z : Fs K mg base TT) : Binds K Z.fd_BadTable_init ["self", "index"] [] := Z.F_BadTable_init.bindsN fun _ _ _ _ _ _ us hl => match us, hl with | [_, _], _ => rfl
theorem ok_BadTable_init (Z : Fs K mg base TT) : FnOk P w K mg base (CX P w) 1 (He.ma K (He.ga K "BadTable") "__init__") Z.fd_BadTable_init ["self", "index"] (spX K (He.ga K "BadTable") "index") := okX0 (k := 0) Z.F_BadTable_init sc_BadTable_init Z.O_BadTable.c Z.O_BadTable.no
theorem sc_TooMany_init : FnScope ["self", "most"] ["self", "most"] (defScope (inClass (top 8) 0)) := ⟨rfl, rfl, rfl, by decide +kernel, rfl, by decide +kernel, by decide +kernel⟩
theorem b_TooMany_init (Z : Fs K mg base TT) : Binds K Z.fd_TooMany_init ["self", "most"] [] := Z.F_TooMany_init.bindsN fun _ _ _ _ _ _ us hl => match us, hl with | [_, _], _ => rfl
theorem ok_TooMany_init (Z : Fs K mg base TT) : FnOk P w K mg base (CX P w) 1 (He.ma K (He.ga K "TooMany") "__init__") Z.fd_TooMany_init ["self", "most"] (spX K (He.ga K "TooMany") "most") := okX0 (k := 0) Z.F_TooMany_init sc_TooMany_init Z.O_TooMany.c Z.O_TooMany.no
theorem sc_is_number : FnScope ["value", "low", "high"] ["value", "low", "high"] (defScope (top 17)) := ⟨rfl, rfl, rfl, by decide +kernel, rfl, by decide +kernel, by decide +kernel⟩
theorem b_is_number (Z : Fs K mg base TT) : Binds K Z.fd_is_number ["value", "low", "high"] [] := Z.F_is_number.bindsN fun _ _ _ _ _ _ us hl => match us, hl with | [_, _, _], _ => rfl
theorem ok_is_number (Z : Fs K mg base TT) : FnOk P w K mg base (CX P w) 1 (He.ga K "is_number") Z.fd_is_number ["value", "low", "high"] (spD K TT F_is_number) :=
  okD Z.F_is_number sc_is_number fun z E hr hz => (
  (sd_one (sd_ret (pd_and (pd_isi Z.n_isinstance Z.n_int boot_int (pd_var 0)) (pd_and (pd_not (pd_isi Z.n_isinstance Z.n_bool boot_bool (pd_var 0))) (pd_one (pd_chain op_le o_cmp op_le o_cmp (pd_var 1) (pd_var 0) (pd_var 2))))))) : PSsD _ TT _ _ G_is_number)
theorem sc_are_settings : FnScope ["value", "hours"] ["value", "hours"] (defScope (top 18)) := ⟨rfl, rfl, rfl, by decide +kernel, rfl, by decide +kernel, by decide +kernel⟩
theorem b_are_settings (Z : Fs K mg base TT) : Binds K Z.fd_are_settings ["value", "hours"] [] := Z.F_are_settings.bindsN fun _ _ _ _ _ _ us hl => match us, hl with | [_, _], _ => rfl
theorem ok_are_settings (Z : Fs K mg base TT) : FnOk P w K mg base (CX P w) 2 (He.ga K "are_settings") Z.fd_are_settings ["value", "hours"] (spD K TT F_are_settings) :=
  okD Z.F_are_settings sc_are_settings fun z E hr hz => (
  (sd_cons (sd_if (pb_of (pw_o (pb_not (pb_val (pd_isi Z.n_isinstance Z.n_tuple boot_tuple (pd_var 0)))) (pw_o1 (pb_gt (pd_callB call_len n_len Z.n_len boot_len (ad_cons (pd_var 0) ad_nil)) (pd_gintE Z.i_MOST_SETTINGS))))) (sd_one (sd_ret pd_bl)) sd_nil)
  (sd_cons (sd_if (pb_not (pb_val (pd_q1 (q := true) [1] hr Z.n_all Z.T_are_settings (hz.trans Z.c_are_settings) Z.t_are_settings (gs_of (by rfl)) rfl (CapL.cons rfl rfl CapL.nil) (pd_var 0) (el_set Z.F_is_number rfl sc_is_number (b_is_number Z) (by decide +kernel) (by decide +kernel) Z.n_isinstance Z.n_int Z.n_bool hr Z.m_is_number rfl rfl rfl)))) (sd_one (sd_ret pd_bl)) sd_nil)
  (sd_one (sd_ret (pd_q2 (q := true) [] hr Z.n_all Z.n_zip Z.T_are_settings (hz.trans Z.c_are_settings) Z.t_are_settings (gs_of (by rfl)) rfl rfl (by decide) CapL.nil (ad_cons (pd_var 0) (ad_cons (pd_slice (pd_var 0) (od_some pd_int) od_none) ad_nil)) (el_lt rfl rfl)))))) : PSsD _ TT _ _ G_are_settings)
theorem sc_need_almanac : FnScope ["value", "hours", "first", "last", "soon", "late", "settings", "rest"] ["value"] (defScope (top 19)) := ⟨rfl, rfl, rfl, by decide +kernel, rfl, by decide +kernel, by decide +kernel⟩
theorem b_need_almanac (Z : Fs K mg base TT) : Binds K Z.fd_need_almanac ["value"] [] := Z.F_need_almanac.bindsN fun _ _ _ _ _ _ us hl => match us, hl with | [_], _ => rfl
theorem ok_need_almanac (Z : Fs K mg base TT) : FnOk P w K mg base (CX P w) 3 (He.ga K "need_almanac") Z.fd_need_almanac ["value"] (spD K TT F_need_almanac) :=
  okD Z.F_need_almanac sc_need_almanac fun z E hr hz => (
  (sd_cons (sd_if (pb_of (pw_o (pb_not (pb_val (pd_isi Z.n_isinstance Z.n_tuple boot_tuple (pd_var 0)))) (pw_o1 (pb_ne (hu_of hr) (pd_callB call_len n_len Z.n_len boot_len (ad_cons (pd_var 0) ad_nil)) pd_int)))) (sd_one (sd_raiseF rfl (takes_of rfl rfl rfl rfl) Z.O_BadAlmanac.x (ok_BadAlmanac_init Z) (hr.mono (by omega)) Z.m_BadAlmanac (b_BadAlmanac_init Z) pd_str)) sd_nil)
  (sd_cons (sd_asg (pd_var 0) (gd_tup rfl (gsd_cons (gd_name 1 sc_need_almanac.nd) (gsd_cons (gd_name 2 sc_need_almanac.nd) (gsd_cons (gd_name 3 sc_need_almanac.nd) (gsd_cons (gd_name 4 sc_need_almanac.nd) (gsd_cons (gd_name 5 sc_need_almanac.nd) (gsd_cons (gd_name 6 sc_need_almanac.nd) (gsd_cons (gd_name 7 sc_need_almanac.nd) gsd_nil)))))))))
  (sd_cons (sd_if (pb_not (pb_val (pd_call (ok_is_number Z) (hr.mono (by omega)) Z.m_is_number Z.F_is_number.kp (b_is_number Z) (fun σ => passAt (takes_of rfl rfl rfl rfl) σ) (ad_cons (pd_var 1) (ad_cons (pd_gintE Z.i_LEAST_HOURS) (ad_cons (pd_gintE Z.i_MOST_HOURS) ad_nil)))))) (sd_one (sd_raiseF rfl (takes_of rfl rfl rfl rfl) Z.O_BadAlmanac.x (ok_BadAlmanac_init Z) (hr.mono (by omega)) Z.m_BadAlmanac (b_BadAlmanac_init Z) pd_str)) sd_nil)
  (sd_cons (sd_if (pb_not (pb_val (pd_call (ok_is_number Z) (hr.mono (by omega)) Z.m_is_number Z.F_is_number.kp (b_is_number Z) (fun σ => passAt (takes_of rfl rfl rfl rfl) σ) (ad_cons (pd_var 2) (ad_cons pd_int (ad_cons (pd_sub (pd_var 1) pd_int) ad_nil)))))) (sd_one (sd_raiseF rfl (takes_of rfl rfl rfl rfl) Z.O_BadAlmanac.x (ok_BadAlmanac_init Z) (hr.mono (by omega)) Z.m_BadAlmanac (b_BadAlmanac_init Z) pd_str)) sd_nil)
  (sd_cons (sd_if (pb_not (pb_val (pd_call (ok_is_number Z) (hr.mono (by omega)) Z.m_is_number Z.F_is_number.kp (b_is_number Z) (fun σ => passAt (takes_of rfl rfl rfl rfl) σ) (ad_cons (pd_var 3) (ad_cons (pd_var 2) (ad_cons (pd_sub (pd_add (pd_var 2) (pd_var 1)) pd_int) ad_nil)))))) (sd_one (sd_raiseF rfl (takes_of rfl rfl rfl rfl) Z.O_BadAlmanac.x (ok_BadAlmanac_init Z) (hr.mono (by omega)) Z.m_BadAlmanac (b_BadAlmanac_init Z) pd_str)) sd_nil)
  (sd_cons (sd_if (pb_not (pb_val (pd_call (ok_is_number Z) (hr.mono (by omega)) Z.m_is_number Z.F_is_number.kp (b_is_number Z) (fun σ => passAt (takes_of rfl rfl rfl rfl) σ) (ad_cons (pd_var 4) (ad_cons pd_int (ad_cons (pd_gintE Z.i_MOST_LATE) ad_nil)))))) (sd_one (sd_raiseF rfl (takes_of rfl rfl rfl rfl) Z.O_BadAlmanac.x (ok_BadAlmanac_init Z) (hr.mono (by omega)) Z.m_BadAlmanac (b_BadAlmanac_init Z) pd_str)) sd_nil)
  (sd_cons (sd_if (pb_not (pb_val (pd_call (ok_is_number Z) (hr.mono (by omega)) Z.m_is_number Z.F_is_number.kp (b_is_number Z) (fun σ => passAt (takes_of rfl rfl rfl rfl) σ) (ad_cons (pd_var 5) (ad_cons (pd_var 4) (ad_cons (pd_gintE Z.i_MOST_LATE) ad_nil)))))) (sd_one (sd_raiseF rfl (takes_of rfl rfl rfl rfl) Z.O_BadAlmanac.x (ok_BadAlmanac_init Z) (hr.mono (by omega)) Z.m_BadAlmanac (b_BadAlmanac_init Z) pd_str)) sd_nil)
  (sd_cons (sd_if (pb_not (pb_val (pd_call (ok_are_settings Z) (hr.mono (by omega)) Z.m_are_settings Z.F_are_settings.kp (b_are_settings Z) (fun σ => passAt (takes_of rfl rfl rfl rfl) σ) (ad_cons (pd_var 6) (ad_cons (pd_var 1) ad_nil))))) (sd_one (sd_raiseF rfl (takes_of rfl rfl rfl rfl) Z.O_BadAlmanac.x (ok_BadAlmanac_init Z) (hr.mono (by omega)) Z.m_BadAlmanac (b_BadAlmanac_init Z) pd_str)) sd_nil)
  (sd_one (sd_if (pb_not (pb_val (pd_call (ok_is_number Z) (hr.mono (by omega)) Z.m_is_number Z.F_is_number.kp (b_is_number Z) (fun σ => passAt (takes_of rfl rfl rfl rfl) σ) (ad_cons (pd_var 7) (ad_cons pd_int (ad_cons (pd_gintE Z.i_MOST_REST) ad_nil)))))) (sd_one (sd_raiseF rfl (takes_of rfl rfl rfl rfl) Z.O_BadAlmanac.x (ok_BadAlmanac_init Z) (hr.mono (by omega)) Z.m_BadAlmanac (b_BadAlmanac_init Z) pd_str)) sd_nil)))))))))) : PSsD _ TT _ _ G_need_almanac)
theorem sc_shut_by : FnScope ["almanac", "hour"] ["almanac", "hour"] (defScope (top 20)) := ⟨rfl, rfl, rfl, by decide +kernel, rfl, by decide +kernel, by decide +kernel⟩
theorem b_shut_by (Z : Fs K mg base TT) : Binds K Z.fd_shut_by ["almanac", "hour"] [] := Z.F_shut_by.bindsN fun _ _ _ _ _ _ us hl => match us, hl with | [_, _], _ => rfl
theorem ok_shut_by (Z : Fs K mg base TT) : FnOk P w K mg base (CX P w) 1 (He.ga K "shut_by") Z.fd_shut_by ["almanac", "hour"] (spD K TT F_shut_by) :=
  okD Z.F_shut_by sc_shut_by fun z E hr hz => (
  (sd_one (sd_ret (pd_add (pd_div (pd_sub (pd_sub (pd_var 1) pd_int) (pd_ix (pd_var 0) pd_int)) (pd_ix (pd_var 0) pd_int)) pd_int))) : PSsD _ TT _ _ G_shut_by)
theorem sc_opened_by : FnScope ["almanac", "hour"] ["almanac", "hour"] (defScope (top 21)) := ⟨rfl, rfl, rfl, by decide +kernel, rfl, by decide +kernel, by decide +kernel⟩
theorem b_opened_by (Z : Fs K mg base TT) : Binds K Z.fd_opened_by ["almanac", "hour"] [] := Z.F_opened_by.bindsN fun _ _ _ _ _ _ us hl => match us, hl with | [_, _], _ => rfl
theorem ok_opened_by (Z : Fs K mg base TT) : FnOk P w K mg base (CX P w) 1 (He.ga K "opened_by") Z.fd_opened_by ["almanac", "hour"] (spD K TT F_opened_by) :=
  okD Z.F_opened_by sc_opened_by fun z E hr hz => (
  (sd_one (sd_ret (pd_add (pd_div (pd_sub (pd_var 1) (pd_ix (pd_var 0) pd_int)) (pd_ix (pd_var 0) pd_int)) pd_int))) : PSsD _ TT _ _ G_opened_by)
theorem sc_urgent_at : FnScope ["almanac", "hour"] ["almanac", "hour"] (defScope (top 22)) := ⟨rfl, rfl, rfl, by decide +kernel, rfl, by decide +kernel, by decide +kernel⟩
theorem b_urgent_at (Z : Fs K mg base TT) : Binds K Z.fd_urgent_at ["almanac", "hour"] [] := Z.F_urgent_at.bindsN fun _ _ _ _ _ _ us hl => match us, hl with | [_, _], _ => rfl
theorem ok_urgent_at (Z : Fs K mg base TT) : FnOk P w K mg base (CX P w) 2 (He.ga K "urgent_at") Z.fd_urgent_at ["almanac", "hour"] (spD K TT F_urgent_at) :=
  okD Z.F_urgent_at sc_urgent_at fun z E hr hz => (
  (sd_one (sd_ret (pd_call (ok_shut_by Z) (hr.mono (by omega)) Z.m_shut_by Z.F_shut_by.kp (b_shut_by Z) (fun σ => passAt (takes_of rfl rfl rfl rfl) σ) (ad_cons (pd_var 0) (ad_cons (pd_add (pd_var 1) (pd_ix (pd_var 0) pd_int)) ad_nil))))) : PSsD _ TT _ _ G_urgent_at)
theorem sc_are_wakings : FnScope ["almanac", "value", "one", "other"] ["almanac", "value"] (defScope (top 23)) := ⟨rfl, rfl, rfl, by decide +kernel, rfl, by decide +kernel, by decide +kernel⟩
theorem b_are_wakings (Z : Fs K mg base TT) : Binds K Z.fd_are_wakings ["almanac", "value"] [] := Z.F_are_wakings.bindsN fun _ _ _ _ _ _ us hl => match us, hl with | [_, _], _ => rfl
theorem ok_are_wakings (Z : Fs K mg base TT) : FnOk P w K mg base (CX P w) 2 (He.ga K "are_wakings") Z.fd_are_wakings ["almanac", "value"] (spD K TT F_are_wakings) :=
  okD Z.F_are_wakings sc_are_wakings fun z E hr hz => (
  (sd_cons (sd_if (pb_of (pw_o (pb_not (pb_val (pd_isi Z.n_isinstance Z.n_tuple boot_tuple (pd_var 1)))) (pw_o (pb_not (pb_chain op_le o_cmp op_le o_cmp pd_int (pd_callB call_len n_len Z.n_len boot_len (ad_cons (pd_var 1) ad_nil)) (pd_gintE Z.i_MOST_WAKINGS))) (pw_o1 (pb_not (pb_val (pd_call (ok_is_number Z) (hr.mono (by omega)) Z.m_is_number Z.F_is_number.kp (b_is_number Z) (fun σ => passAt (takes_of rfl rfl rfl rfl) σ) (ad_cons (pd_ix (pd_var 1) pd_int) (ad_cons pd_int (ad_cons pd_int ad_nil)))))))))) (sd_one (sd_ret pd_bl)) sd_nil)
  (sd_cons (sd_for (passes_of rfl) rfl (id_zipT Z.n_zip (ad_cons (pd_var 1) (ad_cons (pd_slice (pd_var 1) (od_some pd_int) od_none) ad_nil))) (gd_tup rfl (gsd_cons (gd_name 2 sc_are_wakings.nd) (gsd_cons (gd_name 3 sc_are_wakings.nd) gsd_nil))) (sd_one (sd_if (pb_not (pb_val (pd_call (ok_is_number Z) (hr.mono (by omega)) Z.m_is_number Z.F_is_number.kp (b_is_number Z) (fun σ => passAt (takes_of rfl rfl rfl rfl) σ) (ad_cons (pd_var 3) (ad_cons (pd_add (pd_var 2) (pd_ix (pd_var 0) pd_int)) (ad_cons (pd_add (pd_var 2) (pd_ix (pd_var 0) pd_int)) ad_nil)))))) (sd_one (sd_ret pd_bl)) sd_nil)))
  (sd_one (sd_ret pd_bl)))) : PSsD _ TT _ _ G_are_wakings)
theorem sc_are_sets : FnScope ["almanac", "value", "end", "least", "pair"] ["almanac", "value", "end"] (defScope (top 24)) := ⟨rfl, rfl, rfl, by decide +kernel, rfl, by decide +kernel, by decide +kernel⟩
theorem b_are_sets (Z : Fs K mg base TT) : Binds K Z.fd_are_sets ["almanac", "value", "end"] [] := Z.F_are_sets.bindsN fun _ _ _ _ _ _ us hl => match us, hl with | [_, _, _], _ => rfl
theorem ok_are_sets (Z : Fs K mg base TT) : FnOk P w K mg base (CX P w) 2 (He.ga K "are_sets") Z.fd_are_sets ["almanac", "value", "end"] (spD K TT F_are_sets) :=
  okD Z.F_are_sets sc_are_sets fun z E hr hz => (
  (sd_cons (sd_if (pb_not (pb_val (pd_isi Z.n_isinstance Z.n_tuple boot_tuple (pd_var 1)))) (sd_one (sd_ret pd_bl)) sd_nil)
  (sd_cons (sd_set 3 sc_are_sets.nd pd_int)
  (sd_cons (sd_for (passes_of rfl) rfl (id_tup (pd_var 1)) (gd_name 4 sc_are_sets.nd) (sd_cons (sd_if (pb_of (pw_o (pb_not (pb_val (pd_isi Z.n_isinstance Z.n_tuple boot_tuple (pd_var 4)))) (pw_o (pb_ne (hu_of hr) (pd_callB call_len n_len Z.n_len boot_len (ad_cons (pd_var 4) ad_nil)) pd_int) (pw_o1 (pb_not (pb_val (pd_call (ok_is_number Z) (hr.mono (by omega)) Z.m_is_number Z.F_is_number.kp (b_is_number Z) (fun σ => passAt (takes_of rfl rfl rfl rfl) σ) (ad_cons (pd_ix (pd_var 4) pd_int) (ad_cons (pd_var 3) (ad_cons (pd_var 2) ad_nil)))))))))) (sd_one (sd_ret pd_bl)) sd_nil)
  (sd_cons (sd_if (pb_of (pw_o (pb_val (pd_isi Z.n_isinstance Z.n_bool boot_bool (pd_ix (pd_var 4) pd_int))) (pw_o (pb_not (pb_val (pd_isi Z.n_isinstance Z.n_int boot_int (pd_ix (pd_var 4) pd_int)))) (pw_o1 (pb_nin (pd_ix (pd_var 4) pd_int) (pd_ix (pd_var 0) pd_int)))))) (sd_one (sd_ret pd_bl)) sd_nil)
  (sd_one (sd_set 3 sc_are_sets.nd (pd_add (pd_ix (pd_var 4) pd_int) (pd_ix (pd_var 0) pd_int)))))))
  (sd_one (sd_ret pd_bl))))) : PSsD _ TT _ _ G_are_sets)
theorem sc_is_story : FnScope ["almanac", "value"] ["almanac", "value"] (defScope (top 25)) := ⟨rfl, rfl, rfl, by decide +kernel, rfl, by decide +kernel, by decide +kernel⟩
theorem b_is_story (Z : Fs K mg base TT) : Binds K Z.fd_is_story ["almanac", "value"] [] := Z.F_is_story.bindsN fun _ _ _ _ _ _ us hl => match us, hl with | [_, _], _ => rfl
theorem ok_is_story (Z : Fs K mg base TT) : FnOk P w K mg base (CX P w) 3 (He.ga K "is_story") Z.fd_is_story ["almanac", "value"] (spD K TT F_is_story) :=
  okD Z.F_is_story sc_is_story fun z E hr hz => (
  (sd_cons (sd_if (pb_of (pw_o (pb_not (pb_val (pd_isi Z.n_isinstance Z.n_tuple boot_tuple (pd_var 1)))) (pw_o (pb_ne (hu_of hr) (pd_callB call_len n_len Z.n_len boot_len (ad_cons (pd_var 1) ad_nil)) pd_int) (pw_o1 (pb_not (pb_val (pd_call (ok_are_wakings Z) (hr.mono (by omega)) Z.m_are_wakings Z.F_are_wakings.kp (b_are_wakings Z) (fun σ => passAt (takes_of rfl rfl rfl rfl) σ) (ad_cons (pd_var 0) (ad_cons (pd_ix (pd_var 1) pd_int) ad_nil))))))))) (sd_one (sd_ret pd_bl)) sd_nil)
  (sd_one (sd_ret (pd_call (ok_are_sets Z) (hr.mono (by omega)) Z.m_are_sets Z.F_are_sets.kp (b_are_sets Z) (fun σ => passAt (takes_of rfl rfl rfl rfl) σ) (ad_cons (pd_var 0) (ad_cons (pd_ix (pd_var 1) pd_int) (ad_cons (pd_ix (pd_ix (pd_var 1) pd_int) (pd_neg pd_int)) ad_nil))))))) : PSsD _ TT _ _ G_is_story)
theorem sc_readings : FnScope ["almanac", "story"] ["almanac", "story"] (defScope (top 27)) := ⟨rfl, rfl, rfl, by decide +kernel, rfl, by decide +kernel, by decide +kernel⟩
theorem b_readings (Z : Fs K mg base TT) : Binds K Z.fd_readings ["almanac", "story"] [] := Z.F_readings.bindsN fun _ _ _ _ _ _ us hl => match us, hl with | [_, _], _ => rfl
theorem ok_readings (Z : Fs K mg base TT) : FnOk P w K mg base (CX P w) 4 (He.ga K "readings") Z.fd_readings ["almanac", "story"] (spD K TT F_readings) :=
  okD Z.F_readings sc_readings fun z E hr hz => (
  (sd_cons (sd_expr (pd_call (ok_need_almanac Z) (hr.mono (by omega)) Z.m_need_almanac Z.F_need_almanac.kp (b_need_almanac Z) (fun σ => passAt (takes_of rfl rfl rfl rfl) σ) (ad_cons (pd_var 0) ad_nil)))
  (sd_cons (sd_if (pb_not (pb_val (pd_call (ok_is_story Z) (hr.mono (by omega)) Z.m_is_story Z.F_is_story.kp (b_is_story Z) (fun σ => passAt (takes_of rfl rfl rfl rfl) σ) (ad_cons (pd_var 0) (ad_cons (pd_var 1) ad_nil))))) (sd_one (sd_raise0 rfl (takes_of rfl rfl rfl rfl) Z.E_BadStory Z.m_BadStory)) sd_nil)
  pss_bad)) : PSsD _ TT _ _ G_readings)
theorem sc_need_hour : FnScope ["value"] ["value"] (defScope (top 28)) := ⟨rfl, rfl, rfl, by decide +kernel, rfl, by decide +kernel, by decide +kernel⟩
theorem b_need_hour (Z : Fs K mg base TT) : Binds K Z.fd_need_hour ["value"] [] := Z.F_need_hour.bindsN fun _ _ _ _ _ _ us hl => match us, hl with | [_], _ => rfl
theorem ok_need_hour (Z : Fs K mg base TT) : FnOk P w K mg base (CX P w) 2 (He.ga K "need_hour") Z.fd_need_hour ["value"] (spD K TT F_need_hour) :=
  okD Z.F_need_hour sc_need_hour fun z E hr hz => (
  (sd_one (sd_if (pb_not (pb_val (pd_call (ok_is_number Z) (hr.mono (by omega)) Z.m_is_number Z.F_is_number.kp (b_is_number Z) (fun σ => passAt (takes_of rfl rfl rfl rfl) σ) (ad_cons (pd_var 0) (ad_cons pd_int (ad_cons (pd_gintE Z.i_MOST_HOUR) ad_nil)))))) (sd_one (sd_raise0 rfl (takes_of rfl rfl rfl rfl) Z.E_BadHour Z.m_BadHour)) sd_nil)) : PSsD _ TT _ _ G_need_hour)
theorem sc_shut : FnScope ["almanac", "hour"] ["almanac", "hour"] (defScope (top 29)) := ⟨rfl, rfl, rfl, by decide +kernel, rfl, by decide +kernel, by decide +kernel⟩
theorem b_shut (Z : Fs K mg base TT) : Binds K Z.fd_shut ["almanac", "hour"] [] := Z.F_shut.bindsN fun _ _ _ _ _ _ us hl => match us, hl with | [_, _], _ => rfl
theorem ok_shut (Z : Fs K mg base TT) : FnOk P w K mg base (CX P w) 4 (He.ga K "shut") Z.fd_shut ["almanac", "hour"] (spD K TT F_shut) :=
  okD Z.F_shut sc_shut fun z E hr hz => (
  (sd_cons (sd_expr (pd_call (ok_need_almanac Z) (hr.mono (by omega)) Z.m_need_almanac Z.F_need_almanac.kp (b_need_almanac Z) (fun σ => passAt (takes_of rfl rfl rfl rfl) σ) (ad_cons (pd_var 0) ad_nil)))
  (sd_cons (sd_expr (pd_call (ok_need_hour Z) (hr.mono (by omega)) Z.m_need_hour Z.F_need_hour.kp (b_need_hour Z) (fun σ => passAt (takes_of rfl rfl rfl rfl) σ) (ad_cons (pd_var 1) ad_nil)))
  pss_bad)) : PSsD _ TT _ _ G_shut)
theorem sc_opened : FnScope ["almanac", "hour"] ["almanac", "hour"] (defScope (top 30)) := ⟨rfl, rfl, rfl, by decide +kernel, rfl, by decide +kernel, by decide +kernel⟩
theorem b_opened (Z : Fs K mg base TT) : Binds K Z.fd_opened ["almanac", "hour"] [] := Z.F_opened.bindsN fun _ _ _ _ _ _ us hl => match us, hl with | [_, _], _ => rfl
theorem ok_opened (Z : Fs K mg base TT) : FnOk P w K mg base (CX P w) 4 (He.ga K "opened") Z.fd_opened ["almanac", "hour"] (spD K TT F_opened) :=
  okD Z.F_opened sc_opened fun z E hr hz => (
  (sd_cons (sd_expr (pd_call (ok_need_almanac Z) (hr.mono (by omega)) Z.m_need_almanac Z.F_need_almanac.kp (b_need_almanac Z) (fun σ => passAt (takes_of rfl rfl rfl rfl) σ) (ad_cons (pd_var 0) ad_nil)))
  (sd_cons (sd_expr (pd_call (ok_need_hour Z) (hr.mono (by omega)) Z.m_need_hour Z.F_need_hour.kp (b_need_hour Z) (fun σ => passAt (takes_of rfl rfl rfl rfl) σ) (ad_cons (pd_var 1) ad_nil)))
  pss_bad)) : PSsD _ TT _ _ G_opened)
theorem sc_urgent : FnScope ["almanac", "hour"] ["almanac", "hour"] (defScope (top 31)) := ⟨rfl, rfl, rfl, by decide +kernel, rfl, by decide +kernel, by decide +kernel⟩
theorem b_urgent (Z : Fs K mg base TT) : Binds K Z.fd_urgent ["almanac", "hour"] [] := Z.F_urgent.bindsN fun _ _ _ _ _ _ us hl => match us, hl with | [_, _], _ => rfl
theorem ok_urgent (Z : Fs K mg base TT) : FnOk P w K mg base (CX P w) 4 (He.ga K "urgent") Z.fd_urgent ["almanac", "hour"] (spD K TT F_urgent) :=
  okD Z.F_urgent sc_urgent fun z E hr hz => (
  (sd_cons (sd_expr (pd_call (ok_need_almanac Z) (hr.mono (by omega)) Z.m_need_almanac Z.F_need_almanac.kp (b_need_almanac Z) (fun σ => passAt (takes_of rfl rfl rfl rfl) σ) (ad_cons (pd_var 0) ad_nil)))
  (sd_cons (sd_expr (pd_call (ok_need_hour Z) (hr.mono (by omega)) Z.m_need_hour Z.F_need_hour.kp (b_need_hour Z) (fun σ => passAt (takes_of rfl rfl rfl rfl) σ) (ad_cons (pd_var 1) ad_nil)))
  pss_bad)) : PSsD _ TT _ _ G_urgent)
theorem sc_next_settings : FnScope ["almanac", "wait", "gap", "found", "hour", "later", "total", "least", "sets", "setting", "key"] ["almanac", "wait", "gap"] (defScope (top 33)) := ⟨rfl, rfl, rfl, by decide +kernel, rfl, by decide +kernel, by decide +kernel⟩
theorem b_next_settings (Z : Fs K mg base TT) : Binds K Z.fd_next_settings ["almanac", "wait", "gap"] [] := Z.F_next_settings.bindsN fun _ _ _ _ _ _ us hl => match us, hl with | [_, _, _], _ => rfl
theorem ok_next_settings (Z : Fs K mg base TT) : FnOk P w K mg base (CX P w) 1 (He.ga K "next_settings") Z.fd_next_settings ["almanac", "wait", "gap"] (spG K TT F_next_settings) :=
  okG Z.F_next_settings sc_next_settings fun z E hr hz => (
  (sd_cons (sd_set 3 sc_next_settings.nd (pd_disp1 (hu_of hr) (pd_tup (ad_cons pd_int (ad_cons (pd_var 1) ad_nil))) (pd_tup ad_nil)))
  (sd_cons (sd_for (passes_of rfl) rfl (id_range2 Z.n_range (ad_cons pd_int (ad_cons (pd_add (pd_var 2) pd_int) ad_nil))) (gd_name 4 sc_next_settings.nd) (sd_cons (sd_set 5 sc_next_settings.nd (pd_dictT (hu_of hr) Z.n_dict (pd_var 3)))
  (sd_cons (sd_for (passes_of rfl) rfl (id_itemsT (pd_var 3)) (gd_tup rfl (gsd_cons (gd_tup rfl (gsd_cons (gd_name 6 sc_next_settings.nd) (gsd_cons (gd_name 7 sc_next_settings.nd) gsd_nil))) (gsd_cons (gd_name 8 sc_next_settings.nd) gsd_nil))) (sd_one (sd_if (pb_ge (pd_var 4) (pd_var 7)) (sd_one (sd_for (passes_of rfl) rfl (id_tup (pd_ix (pd_var 0) pd_int)) (gd_name 9 sc_next_settings.nd) (sd_cons (sd_set 10 sc_next_settings.nd (pd_tup (ad_cons (pd_add (pd_var 6) (pd_var 9)) (ad_cons (pd_add (pd_var 4) (pd_ix (pd_var 0) pd_int)) ad_nil))))
  (sd_one (sd_if (pb_din true (hu_of hr) (pd_var 10) (pd_var 5)) (sd_one (sd_dput (hu_of hr) (pd_add (pd_var 8) (pd_tup (ad_cons (pd_tup (ad_cons (pd_var 4) (ad_cons (pd_var 9) ad_nil))) ad_nil))) (pd_var 5) (pd_var 10))) sd_nil))))) sd_nil)))
  (sd_one (sd_set 3 sc_next_settings.nd (pd_var 5))))))
  (sd_one (sd_ret (pd_var 3))))) : PSsD _ TT _ _ G_next_settings)
theorem sc_Steps_init : FnScope ["self", "almanac"] ["self", "almanac"] (defScope (inClass (top 34) 0)) := ⟨rfl, rfl, rfl, by decide +kernel, rfl, by decide +kernel, by decide +kernel⟩
theorem b_Steps_init (Z : Fs K mg base TT) : Binds K Z.fd_Steps_init ["self", "almanac"] [] := Z.F_Steps_init.bindsN fun _ _ _ _ _ _ us hl => match us, hl with | [_, _], _ => rfl
theorem ok_Steps_init (Z : Fs K mg base TT) : FnOk P w K mg base (CX P w) 1 (He.ma K (He.ga K "Steps") "__init__") Z.fd_Steps_init ["self", "almanac"] (spG K TT F_Steps_init) :=
  okG Z.F_Steps_init sc_Steps_init fun z E hr hz => (
  (sd_cons (sd_fld "Steps" "almanac" Z.C_Steps Z.A_Steps_almanac (pd_var 0) (pd_var 1))
  (sd_one (sd_fld "Steps" "costs" Z.C_Steps Z.A_Steps_costs (pd_var 0) pd_dk0))) : PSsD _ TT _ _ G_Steps_init)
theorem sc_Steps_behind : FnScope ["self", "wait", "found", "gap", "total", "least", "sets", "key"] ["self", "wait"] (defScope (inClass (top 34) 1)) := ⟨rfl, rfl, rfl, by decide +kernel, rfl, by decide +kernel, by decide +kernel⟩
theorem b_Steps_behind (Z : Fs K mg base TT) : Binds K Z.fd_Steps_behind ["self", "wait"] [] := Z.F_Steps_behind.bindsN fun _ _ _ _ _ _ us hl => match us, hl with | [_, _], _ => rfl
theorem ok_Steps_behind (Z : Fs K mg base TT) : FnOk P w K mg base (CX P w) 2 (He.ma K (He.ga K "Steps") "behind") Z.fd_Steps_behind ["self", "wait"] (spG K TT F_Steps_behind) :=
  okG Z.F_Steps_behind sc_Steps_behind fun z E hr hz => (
  (sd_cons (sd_if (pb_din true (hu_of hr) (pd_var 1) (pd_fld "Steps" "costs" Z.C_Steps Z.A_Steps_costs (pd_var 0))) (sd_cons (sd_set 2 sc_Steps_behind.nd pd_dt0)
  (sd_cons (sd_for (passes_of rfl) rfl (id_range2 Z.n_range (ad_cons (pd_ix (pd_fld "Steps" "almanac" Z.C_Steps Z.A_Steps_almanac (pd_var 0)) pd_int) (ad_cons (pd_add (pd_ix (pd_fld "Steps" "almanac" Z.C_Steps Z.A_Steps_almanac (pd_var 0)) pd_int) pd_int) ad_nil))) (gd_name 3 sc_Steps_behind.nd) (sd_one (sd_for (passes_of rfl) rfl (id_itemsT (pd_callG (ok_next_settings Z) (hr.mono (by omega)) Z.m_next_settings Z.F_next_settings.kp (b_next_settings Z) (fun σ => passAt (takes_of rfl rfl rfl rfl) σ) (ad_cons (pd_fld "Steps" "almanac" Z.C_Steps Z.A_Steps_almanac (pd_var 0)) (ad_cons (pd_var 1) (ad_cons (pd_var 3) ad_nil))))) (gd_tup rfl (gsd_cons (gd_tup rfl (gsd_cons (gd_name 4 sc_Steps_behind.nd) (gsd_cons (gd_name 5 sc_Steps_behind.nd) gsd_nil))) (gsd_cons (gd_name 6 sc_Steps_behind.nd) gsd_nil))) (sd_cons (sd_set 7 sc_Steps_behind.nd (pd_tup (ad_cons (pd_var 3) (ad_cons (pd_mod (pd_var 4) (pd_ix (pd_fld "Steps" "almanac" Z.C_Steps Z.A_Steps_almanac (pd_var 0)) pd_int)) (ad_cons (pd_callB (call_max2 rfl) n_max Z.n_max boot_max (ad_cons pd_int (ad_cons (pd_sub (pd_var 5) (pd_var 3)) ad_nil))) ad_nil)))))
  (sd_one (sd_if (pb_din true (hu_of hr) (pd_var 7) (pd_var 2)) (sd_one (sd_dput (hu_of hr) (pd_var 6) (pd_var 2) (pd_var 7))) sd_nil))))))
  (sd_one (sd_dput (hu_of hr) (pd_frz (pd_lc ([("key", 7)] : List (Str × Nat)) rfl sc_Steps_behind.nd (id_lst (pd_sortT rfl (hu_of hr) Z.n_sorted (pd_var 2))) (blk_of (by rfl)) (fun z => (gd_name 7 sc_Steps_behind.nd)) (fun z => ts_nil) (fun z => (pd_add (pd_var 7) (pd_tup (ad_cons (pd_dget (hu_of hr) (pd_var 2) (pd_var 7)) ad_nil)))))) (pd_fld "Steps" "costs" Z.C_Steps Z.A_Steps_costs (pd_var 0)) (pd_var 1))))) sd_nil)
  (sd_one (sd_ret (pd_dget (hu_of hr) (pd_fld "Steps" "costs" Z.C_Steps Z.A_Steps_costs (pd_var 0)) (pd_var 1))))) : PSsD _ TT _ _ G_Steps_behind)
theorem sc_need_readings : FnScope ["almanac", "value"] ["almanac", "value"] (defScope (top 36)) := ⟨rfl, rfl, rfl, by decide +kernel, rfl, by decide +kernel, by decide +kernel⟩
theorem b_need_readings (Z : Fs K mg base TT) : Binds K Z.fd_need_readings ["almanac", "value"] [] := Z.F_need_readings.bindsN fun _ _ _ _ _ _ us hl => match us, hl with | [_, _], _ => rfl
theorem ok_need_readings (Z : Fs K mg base TT) : FnOk P w K mg base (CX P w) 2 (He.ga K "need_readings") Z.fd_need_readings ["almanac", "value"] (spD K TT F_need_readings) :=
  okD Z.F_need_readings sc_need_readings fun z E hr hz => (
  (sd_cons (sd_if (pb_of (pw_o (pb_not (pb_val (pd_isi Z.n_isinstance Z.n_tuple boot_tuple (pd_var 1)))) (pw_o1 (pb_not (pb_chain op_le o_cmp op_le o_cmp pd_int (pd_callB call_len n_len Z.n_len boot_len (ad_cons (pd_var 1) ad_nil)) (pd_gintE Z.i_MOST_WAKINGS)))))) (sd_one (sd_raise0 rfl (takes_of rfl rfl rfl rfl) Z.E_BadReadings Z.m_BadReadings)) sd_nil)
  (sd_one (sd_if (pb_not (pb_val (pd_q1 (q := true) [0] hr Z.n_all Z.T_need_readings (hz.trans Z.c_need_readings) Z.t_need_readings (gs_of (by rfl)) rfl (CapL.cons rfl rfl CapL.nil) (pd_var 1) (el_num Z.F_is_number rfl sc_is_number (b_is_number Z) (by decide +kernel) (by decide +kernel) Z.n_isinstance Z.n_int Z.n_bool hr Z.m_is_number rfl rfl rfl)))) (sd_one (sd_raise0 rfl (takes_of rfl rfl rfl rfl) Z.E_BadReadings Z.m_BadReadings)) sd_nil))) : PSsD _ TT _ _ G_need_readings)
theorem sc_first_stands : FnScope ["almanac", "reading"] ["almanac", "reading"] (defScope (top 37)) := ⟨rfl, rfl, rfl, by decide +kernel, rfl, by decide +kernel, by decide +kernel⟩
theorem b_first_stands (Z : Fs K mg base TT) : Binds K Z.fd_first_stands ["almanac", "reading"] [] := Z.F_first_stands.bindsN fun _ _ _ _ _ _ us hl => match us, hl with | [_, _], _ => rfl
theorem ok_first_stands (Z : Fs K mg base TT) : FnOk P w K mg base (CX P w) 1 (He.ga K "first_stands") Z.fd_first_stands ["almanac", "reading"] (spD K TT F_first_stands) :=
  okD Z.F_first_stands sc_first_stands fun z E hr hz => (
  (sd_one (sd_ret (pd_if (pb_eq (hu_of hr) (pd_var 1) pd_int) (pd_lst (ad_cons (pd_tup (ad_cons pd_int (ad_cons pd_int (ad_cons pd_int ad_nil)))) ad_nil)) (pd_lst ad_nil)))) : PSsD _ TT _ _ G_first_stands)
theorem sc_stands_behind : FnScope ["almanac", "steps", "stands", "reading", "found", "hour", "error", "wait", "gap", "change", "later", "_", "turned"] ["almanac", "steps", "stands", "reading"] (defScope (top 38)) := ⟨rfl, rfl, rfl, by decide +kernel, rfl, by decide +kernel, by decide +kernel⟩
theorem b_stands_behind (Z : Fs K mg base TT) : Binds K Z.fd_stands_behind ["almanac", "steps", "stands", "reading"] [] := Z.F_stands_behind.bindsN fun _ _ _ _ _ _ us hl => match us, hl with | [_, _, _, _], _ => rfl
theorem ok_stands_behind (Z : Fs K mg base TT) : FnOk P w K mg base (CX P w) 3 (He.ga K "stands_behind") Z.fd_stands_behind ["almanac", "steps", "stands", "reading"] (spG K TT F_stands_behind) :=
  okG Z.F_stands_behind sc_stands_behind fun z E hr hz => (
  (sd_cons (sd_set 4 sc_stands_behind.nd pd_dt0)
  (sd_cons (sd_for (passes_of rfl) rfl (id_lst (pd_var 2)) (gd_tup rfl (gsd_cons (gd_name 5 sc_stands_behind.nd) (gsd_cons (gd_name 6 sc_stands_behind.nd) (gsd_cons (gd_name 7 sc_stands_behind.nd) gsd_nil)))) (sd_one (sd_for (passes_of rfl) rfl (id_lst (pd_methG Z.C_Steps Z.M_Steps_behind (ok_Steps_behind Z) (hr.mono (by omega)) (b_Steps_behind Z) (pd_var 1) (ad_cons (pd_var 7) ad_nil))) (gd_tup rfl (gsd_cons (gd_name 8 sc_stands_behind.nd) (gsd_cons (gd_name 9 sc_stands_behind.nd) (gsd_cons (gd_name 10 sc_stands_behind.nd) (gsd_cons (gd_name 11 sc_stands_behind.nd) gsd_nil))))) (sd_cons (sd_set 12 sc_stands_behind.nd (pd_mod (pd_add (pd_var 6) (pd_var 9)) (pd_ix (pd_var 0) pd_int)))
  (sd_one (sd_if (pb_eq (hu_of hr) (pd_mod (pd_add (pd_add (pd_var 5) (pd_var 8)) (pd_var 12)) (pd_ix (pd_var 0) pd_int)) (pd_var 3)) (sd_one (sd_dput (hu_of hr) pd_bl (pd_var 4) (pd_tup (ad_cons (pd_add (pd_var 5) (pd_var 8)) (ad_cons (pd_var 12) (ad_cons (pd_var 10) ad_nil)))))) sd_nil))))))
  (sd_one (sd_ret (pd_sortT rfl (hu_of hr) Z.n_sorted (pd_var 4)))))) : PSsD _ TT _ _ G_stands_behind)
theorem sc_stands_through : FnScope ["almanac", "row", "steps", "found", "reading"] ["almanac", "row"] (defScope (top 39)) := ⟨rfl, rfl, rfl, by decide +kernel, rfl, by decide +kernel, by decide +kernel⟩
theorem b_stands_through (Z : Fs K mg base TT) : Binds K Z.fd_stands_through ["almanac", "row"] [] := Z.F_stands_through.bindsN fun _ _ _ _ _ _ us hl => match us, hl with | [_, _], _ => rfl
theorem ok_stands_through (Z : Fs K mg base TT) : FnOk P w K mg base (CX P w) 4 (He.ga K "stands_through") Z.fd_stands_through ["almanac", "row"] (spD K TT F_stands_through) :=
  okD Z.F_stands_through sc_stands_through fun z E hr hz => (
  (sd_cons (sd_set 2 sc_stands_through.nd (pd_make Z.K_Steps (ok_Steps_init Z) (hr.mono (by omega)) Z.m_Steps (b_Steps_init Z) (ad_cons (pd_var 0) ad_nil)))
  (sd_cons (sd_set 3 sc_stands_through.nd (pd_lst (ad_cons (pd_call (ok_first_stands Z) (hr.mono (by omega)) Z.m_first_stands Z.F_first_stands.kp (b_first_stands Z) (fun σ => passAt (takes_of rfl rfl rfl rfl) σ) (ad_cons (pd_var 0) (ad_cons (pd_ix (pd_var 1) pd_int) ad_nil))) ad_nil)))
  (sd_cons (sd_for (passes_of rfl) rfl (id_tup (pd_slice (pd_var 1) (od_some pd_int) od_none)) (gd_name 4 sc_stands_through.nd) (sd_one (sd_expr (pd_append (pd_var 3) (pd_frz (pd_callG (ok_stands_behind Z) (hr.mono (by omega)) Z.m_stands_behind Z.F_stands_behind.kp (b_stands_behind Z) (fun σ => passAt (takes_of rfl rfl rfl rfl) σ) (ad_cons (pd_var 0) (ad_cons (pd_var 2) (ad_cons (pd_ix (pd_var 3) (pd_neg pd_int)) (ad_cons (pd_var 4) ad_nil))))))))))
  (sd_cons (sd_if (pb_not (pb_list (pd_ix (pd_var 3) (pd_neg pd_int)))) (sd_one (sd_raise0 rfl (takes_of rfl rfl rfl rfl) Z.E_BadReadings Z.m_BadReadings)) sd_nil)
  (sd_one (sd_ret (pd_var 3))))))) : PSsD _ TT _ _ G_stands_through)
theorem sc_rule : FnScope ["almanac", "readings", "lots", "stands", "hour", "_"] ["almanac", "readings"] (defScope (top 40)) := ⟨rfl, rfl, rfl, by decide +kernel, rfl, by decide +kernel, by decide +kernel⟩
theorem b_rule (Z : Fs K mg base TT) : Binds K Z.fd_rule ["almanac", "readings"] [] := Z.F_rule.bindsN fun _ _ _ _ _ _ us hl => match us, hl with | [_, _], _ => rfl
theorem ok_rule (Z : Fs K mg base TT) : FnOk P w K mg base (CX P w) 5 (He.ga K "rule") Z.fd_rule ["almanac", "readings"] (spD K TT F_rule) :=
  okD Z.F_rule sc_rule fun z E hr hz => (
  (sd_cons (sd_expr (pd_call (ok_need_almanac Z) (hr.mono (by omega)) Z.m_need_almanac Z.F_need_almanac.kp (b_need_almanac Z) (fun σ => passAt (takes_of rfl rfl rfl rfl) σ) (ad_cons (pd_var 0) ad_nil)))
  (sd_cons (sd_expr (pd_call (ok_need_readings Z) (hr.mono (by omega)) Z.m_need_readings Z.F_need_readings.kp (b_need_readings Z) (fun σ => passAt (takes_of rfl rfl rfl rfl) σ) (ad_cons (pd_var 0) (ad_cons (pd_var 1) ad_nil))))
  (sd_cons (sd_set 2 sc_rule.nd (pd_call (ok_stands_through Z) (hr.mono (by omega)) Z.m_stands_through Z.F_stands_through.kp (b_stands_through Z) (fun σ => passAt (takes_of rfl rfl rfl rfl) σ) (ad_cons (pd_var 0) (ad_cons (pd_var 1) ad_nil))))
  pss_bad))) : PSsD _ TT _ _ G_rule)
theorem sc_may_be : FnScope ["almanac", "readings", "hour", "_"] ["almanac", "readings"] (defScope (top 41)) := ⟨rfl, rfl, rfl, by decide +kernel, rfl, by decide +kernel, by decide +kernel⟩
theorem b_may_be (Z : Fs K mg base TT) : Binds K Z.fd_may_be ["almanac", "readings"] [] := Z.F_may_be.bindsN fun _ _ _ _ _ _ us hl => match us, hl with | [_, _], _ => rfl
theorem ok_may_be (Z : Fs K mg base TT) : FnOk P w K mg base (CX P w) 5 (He.ga K "may_be") Z.fd_may_be ["almanac", "readings"] (spD K TT F_may_be) :=
  okD Z.F_may_be sc_may_be fun z E hr hz => (
  (sd_cons (sd_expr (pd_call (ok_need_almanac Z) (hr.mono (by omega)) Z.m_need_almanac Z.F_need_almanac.kp (b_need_almanac Z) (fun σ => passAt (takes_of rfl rfl rfl rfl) σ) (ad_cons (pd_var 0) ad_nil)))
  (sd_cons (sd_expr (pd_call (ok_need_readings Z) (hr.mono (by omega)) Z.m_need_readings Z.F_need_readings.kp (b_need_readings Z) (fun σ => passAt (takes_of rfl rfl rfl rfl) σ) (ad_cons (pd_var 0) (ad_cons (pd_var 1) ad_nil))))
  (sd_one (sd_ret (pd_callTy call_tuple_of n_tup Z.n_tuple boot_tuple (ad_cons (pd_setsort rfl Z.n_sorted Z.n_set (ad_cons (pd_lc ([("hour", 2), ("_", 3)] : List (Str × Nat)) rfl sc_may_be.nd (id_lst (pd_ix (pd_call (ok_stands_through Z) (hr.mono (by omega)) Z.m_stands_through Z.F_stands_through.kp (b_stands_through Z) (fun σ => passAt (takes_of rfl rfl rfl rfl) σ) (ad_cons (pd_var 0) (ad_cons (pd_var 1) ad_nil))) (pd_neg pd_int))) (blk_of (by rfl)) (fun z => (gd_tup rfl (gsd_cons (gd_name 2 sc_may_be.nd) (gsd_cons (gd_name 3 sc_may_be.nd) (gsd_cons (gd_name 3 sc_may_be.nd) gsd_nil))))) (fun z => ts_nil) (fun z => (pd_var 2))) ad_nil)) ad_nil)))))) : PSsD _ TT _ _ G_may_be)
theorem sc_is_conflict : FnScope ["almanac", "hour", "ahead"] ["almanac", "hour", "ahead"] (defScope (top 45)) := ⟨rfl, rfl, rfl, by decide +kernel, rfl, by decide +kernel, by decide +kernel⟩
theorem b_is_conflict (Z : Fs K mg base TT) : Binds K Z.fd_is_conflict ["almanac", "hour", "ahead"] [] := Z.F_is_conflict.bindsN fun _ _ _ _ _ _ us hl => match us, hl with | [_, _, _], _ => rfl
theorem ok_is_conflict (Z : Fs K mg base TT) : FnOk P w K mg base (CX P w) 3 (He.ga K "is_conflict") Z.fd_is_conflict ["almanac", "hour", "ahead"] (spD K TT F_is_conflict) :=
  okD Z.F_is_conflict sc_is_conflict fun z E hr hz => (
  (sd_one (sd_ret (pd_gt (pd_call (ok_urgent_at Z) (hr.mono (by omega)) Z.m_urgent_at Z.F_urgent_at.kp (b_urgent_at Z) (fun σ => passAt (takes_of rfl rfl rfl rfl) σ) (ad_cons (pd_var 0) (ad_cons (pd_var 1) ad_nil))) (pd_call (ok_opened_by Z) (hr.mono (by omega)) Z.m_opened_by Z.F_opened_by.kp (b_opened_by Z) (fun σ => passAt (takes_of rfl rfl rfl rfl) σ) (ad_cons (pd_var 0) (ad_cons (pd_sub (pd_var 1) (pd_var 2)) ad_nil)))))) : PSsD _ TT _ _ G_is_conflict)
theorem sc_Twins_init : FnScope ["self", "almanac"] ["self", "almanac"] (defScope (inClass (top 46) 0)) := ⟨rfl, rfl, rfl, by decide +kernel, rfl, by decide +kernel, by decide +kernel⟩
theorem b_Twins_init (Z : Fs K mg base TT) : Binds K Z.fd_Twins_init ["self", "almanac"] [] := Z.F_Twins_init.bindsN fun _ _ _ _ _ _ us hl => match us, hl with | [_, _], _ => rfl
theorem ok_Twins_init (Z : Fs K mg base TT) : FnOk P w K mg base (CX P w) 3 (He.ma K (He.ga K "Twins") "__init__") Z.fd_Twins_init ["self", "almanac"] (spG K TT F_Twins_init) :=
  okG Z.F_Twins_init sc_Twins_init fun z E hr hz => (
  (sd_cons (sd_fld "Twins" "almanac" Z.C_Twins Z.A_Twins_almanac (pd_var 0) (pd_var 1))
  (sd_one (sd_fld "Twins" "steps" Z.C_Twins Z.A_Twins_steps (pd_var 0) (pd_make Z.K_Steps (ok_Steps_init Z) (hr.mono (by omega)) Z.m_Steps (b_Steps_init Z) (ad_cons (pd_var 1) ad_nil))))) : PSsD _ TT _ _ G_Twins_init)
theorem sc_Twins_search : FnScope ["self", "found", "layer", "place", "later", "spot", "one", "other"] ["self"] (defScope (inClass (top 46) 2)) := ⟨rfl, rfl, rfl, by decide +kernel, rfl, by decide +kernel, by decide +kernel⟩
theorem b_Twins_search (Z : Fs K mg base TT) : Binds K Z.fd_Twins_search ["self"] [] := Z.F_Twins_search.bindsN fun _ _ _ _ _ _ us hl => match us, hl with | [_], _ => rfl
theorem ok_Twins_search (Z : Fs K mg base TT) : FnOk P w K mg base (CX P w) 4 (He.ma K (He.ga K "Twins") "search") Z.fd_Twins_search ["self"] (spS K TT F_is_conflict) :=
  okc Z.F_Twins_search sc_Twins_search (fun vs H Q E h => by obtain ⟨_, _, _, _, _, _, _, _, rfl, _⟩ := h; rfl) (fun A outer s H vs Q E hr h => ⟨tSearch K TT F_is_conflict (He.ga K "START") (WE (fun cls d _ H => E cls d H)), (
    pss_cons (ps_par rfl sc_Twins_search.nd rfl rfl (by decide) rfl rfl (pa_cons (pe_dispO (hu_of hr) (pe_glob (v := .ref (He.ga K "START")) (by rfl) Z.m_START (by exact rfl)) pe_non) (pa_cons (pe_lst (pa_cons (pe_glob (v := .ref (He.ga K "START")) (by rfl) Z.m_START (by exact rfl)) pa_nil)) pa_nil)) (by rfl) (by rfl))
      (pss_cons (ps_while (passes_of rfl) (pt_truth (pe_var (i := 2) rfl (.inl rfl)) (by intro _; rfl))
        (pss_cons (ps_for (passes_of rfl) rfl (pi_list (pe_var (i := 2) rfl (.inl rfl))) (pg_name (i := 3) sc_Twins_search.nd rfl (.inl rfl))
          (pss_one (ps_if (pt_val (pe_callS (E := WE (fun cls d _ H => E cls d H)) (ok_is_conflict Z) (hr.mono (by omega)) (by rfl) Z.m_is_conflict Z.F_is_conflict.kp (b_is_conflict Z) (fun σ => passAt (takes_of rfl rfl rfl rfl) σ)
            (pa_cons (pe_fld (pe_var (i := 0) rfl (.inl rfl)) (by rfl)) (pa_cons (pe_ix ix_seq (pe_var (i := 3) rfl (.inl rfl)) pe_int (by intro _ _; rfl)) (pa_cons (pe_ix ix_seq (pe_var (i := 3) rfl (.inl rfl)) pe_int (by intro _ _; rfl)) pa_nil)))))
            (pss_one (ps_ret (pe_tup (pa_cons (pe_var (i := 1) rfl (.inl rfl)) (pa_cons (pe_var (i := 3) rfl (.inl rfl)) pa_nil))))) pss_nil))) psS_bad)) psS_bad) : PSs _ _ _), search_ok Z.S_START Z.C_Twins Z.A_Twins_almanac (by decide) h⟩)
theorem sc_conflicts : FnScope ["almanac"] ["almanac"] (defScope (top 50)) := ⟨rfl, rfl, rfl, by decide +kernel, rfl, by decide +kernel, by decide +kernel⟩
theorem b_conflicts (Z : Fs K mg base TT) : Binds K Z.fd_conflicts ["almanac"] [] := Z.F_conflicts.bindsN fun _ _ _ _ _ _ us hl => match us, hl with | [_], _ => rfl
theorem ok_conflicts (Z : Fs K mg base TT) : FnOk P w K mg base (CX P w) 5 (He.ga K "conflicts") Z.fd_conflicts ["almanac"] (spD K TT F_conflicts) :=
  okD Z.F_conflicts sc_conflicts fun z E hr hz => (
  (sd_one (sd_ret (pd_srch Z.C_Twins Z.M_Twins_search (ok_Twins_search Z) (hr.mono (by omega)) (b_Twins_search Z) (fun σ => passAt (takes_of rfl rfl rfl rfl) σ) (pd_make Z.K_Twins (ok_Twins_init Z) (hr.mono (by omega)) Z.m_Twins (b_Twins_init Z) (ad_cons (pd_var 0) ad_nil))))) : PSsD _ TT _ _ G_conflicts)
theorem sc_conflict : FnScope ["almanac"] ["almanac"] (defScope (top 51)) := ⟨rfl, rfl, rfl, by decide +kernel, rfl, by decide +kernel, by decide +kernel⟩
theorem b_conflict (Z : Fs K mg base TT) : Binds K Z.fd_conflict ["almanac"] [] := Z.F_conflict.bindsN fun _ _ _ _ _ _ us hl => match us, hl with | [_], _ => rfl
theorem ok_conflict (Z : Fs K mg base TT) : FnOk P w K mg base (CX P w) 4 (He.ga K "conflict") Z.fd_conflict ["almanac"] (spD K TT F_conflict) :=
  okD Z.F_conflict sc_conflict fun z E hr hz => (
  (sd_cons (sd_expr (pd_call (ok_need_almanac Z) (hr.mono (by omega)) Z.m_need_almanac Z.F_need_almanac.kp (b_need_almanac Z) (fun σ => passAt (takes_of rfl rfl rfl rfl) σ) (ad_cons (pd_var 0) ad_nil)))
  pss_bad) : PSsD _ TT _ _ G_conflict)
theorem sc_shows_conflict : FnScope ["almanac", "value", "due"] ["almanac", "value"] (defScope (top 53)) := ⟨rfl, rfl, rfl, by decide +kernel, rfl, by decide +kernel, by decide +kernel⟩
theorem b_shows_conflict (Z : Fs K mg base TT) : Binds K Z.fd_shows_conflict ["almanac", "value"] [] := Z.F_shows_conflict.bindsN fun _ _ _ _ _ _ us hl => match us, hl with | [_, _], _ => rfl
theorem ok_shows_conflict (Z : Fs K mg base TT) : FnOk P w K mg base (CX P w) 4 (He.ga K "shows_conflict") Z.fd_shows_conflict ["almanac", "value"] (spD K TT F_shows_conflict) :=
  okD Z.F_shows_conflict sc_shows_conflict fun z E hr hz => (
  (sd_cons (sd_expr (pd_call (ok_need_almanac Z) (hr.mono (by omega)) Z.m_need_almanac Z.F_need_almanac.kp (b_need_almanac Z) (fun σ => passAt (takes_of rfl rfl rfl rfl) σ) (ad_cons (pd_var 0) ad_nil)))
  pss_bad) : PSsD _ TT _ _ G_shows_conflict)
theorem sc_has_keeper : FnScope ["almanac"] ["almanac"] (defScope (top 54)) := ⟨rfl, rfl, rfl, by decide +kernel, rfl, by decide +kernel, by decide +kernel⟩
theorem b_has_keeper (Z : Fs K mg base TT) : Binds K Z.fd_has_keeper ["almanac"] [] := Z.F_has_keeper.bindsN fun _ _ _ _ _ _ us hl => match us, hl with | [_], _ => rfl
theorem ok_has_keeper (Z : Fs K mg base TT) : FnOk P w K mg base (CX P w) 6 (He.ga K "has_keeper") Z.fd_has_keeper ["almanac"] (spD K TT F_has_keeper) :=
  okD Z.F_has_keeper sc_has_keeper fun z E hr hz => (
  (sd_cons (sd_expr (pd_call (ok_need_almanac Z) (hr.mono (by omega)) Z.m_need_almanac Z.F_need_almanac.kp (b_need_almanac Z) (fun σ => passAt (takes_of rfl rfl rfl rfl) σ) (ad_cons (pd_var 0) ad_nil)))
  pss_bad) : PSsD _ TT _ _ G_has_keeper)
theorem sc_places : FnScope ["almanac", "found", "place"] ["almanac"] (defScope (top 55)) := ⟨rfl, rfl, rfl, by decide +kernel, rfl, by decide +kernel, by decide +kernel⟩
theorem b_places (Z : Fs K mg base TT) : Binds K Z.fd_places ["almanac"] [] := Z.F_places.bindsN fun _ _ _ _ _ _ us hl => match us, hl with | [_], _ => rfl
theorem ok_places (Z : Fs K mg base TT) : FnOk P w K mg base (CX P w) 5 (He.ga K "places") Z.fd_places ["almanac"] (spD K TT F_places) :=
  okD Z.F_places sc_places fun z E hr hz => (
  (sd_cons (sd_expr (pd_call (ok_need_almanac Z) (hr.mono (by omega)) Z.m_need_almanac Z.F_need_almanac.kp (b_need_almanac Z) (fun σ => passAt (takes_of rfl rfl rfl rfl) σ) (ad_cons (pd_var 0) ad_nil)))
  pss_bad) : PSsD _ TT _ _ G_places)
theorem sc_shows_places : FnScope ["almanac", "value", "there", "twins"] ["almanac", "value"] (defScope (top 57)) := ⟨rfl, rfl, rfl, by decide +kernel, rfl, by decide +kernel, by decide +kernel⟩
theorem b_shows_places (Z : Fs K mg base TT) : Binds K Z.fd_shows_places ["almanac", "value"] [] := Z.F_shows_places.bindsN fun _ _ _ _ _ _ us hl => match us, hl with | [_, _], _ => rfl
theorem ok_shows_places (Z : Fs K mg base TT) : FnOk P w K mg base (CX P w) 5 (He.ga K "shows_places") Z.fd_shows_places ["almanac", "value"] (spD K TT F_shows_places) :=
  okD Z.F_shows_places sc_shows_places fun z E hr hz => (
  (sd_cons (sd_expr (pd_call (ok_need_almanac Z) (hr.mono (by omega)) Z.m_need_almanac Z.F_need_almanac.kp (b_need_almanac Z) (fun σ => passAt (takes_of rfl rfl rfl rfl) σ) (ad_cons (pd_var 0) ad_nil)))
  pss_bad) : PSsD _ TT _ _ G_shows_places)
theorem sc_is_state : FnScope ["almanac", "value", "many", "step"] ["almanac", "value", "many"] (defScope (top 62)) := ⟨rfl, rfl, rfl, by decide +kernel, rfl, by decide +kernel, by decide +kernel⟩
theorem b_is_state (Z : Fs K mg base TT) : Binds K Z.fd_is_state ["almanac", "value", "many"] [] := Z.F_is_state.bindsN fun _ _ _ _ _ _ us hl => match us, hl with | [_, _, _], _ => rfl
theorem ok_is_state (Z : Fs K mg base TT) : FnOk P w K mg base (CX P w) 2 (He.ga K "is_state") Z.fd_is_state ["almanac", "value", "many"] (spD K TT F_is_state) :=
  okD Z.F_is_state sc_is_state fun z E hr hz => (
  (sd_cons (sd_if (pb_of (pw_o (pb_not (pb_val (pd_isi Z.n_isinstance Z.n_tuple boot_tuple (pd_var 1)))) (pw_o1 (pb_ne (hu_of hr) (pd_callB call_len n_len Z.n_len boot_len (ad_cons (pd_var 1) ad_nil)) (pd_ix (pd_var 0) pd_int))))) (sd_one (sd_ret pd_bl)) sd_nil)
  (sd_cons (sd_for (passes_of rfl) rfl (id_tup (pd_var 1)) (gd_name 3 sc_is_state.nd) (sd_one (sd_if (pb_isnN (pd_var 3) pd_non) (sd_cons (sd_if (pb_of (pw_o (pb_not (pb_val (pd_isi Z.n_isinstance Z.n_tuple boot_tuple (pd_var 3)))) (pw_o (pb_ne (hu_of hr) (pd_callB call_len n_len Z.n_len boot_len (ad_cons (pd_var 3) ad_nil)) pd_int) (pw_o1 (pb_not (pb_val (pd_call (ok_is_number Z) (hr.mono (by omega)) Z.m_is_number Z.F_is_number.kp (b_is_number Z) (fun σ => passAt (takes_of rfl rfl rfl rfl) σ) (ad_cons (pd_ix (pd_var 3) pd_int) (ad_cons pd_int (ad_cons (pd_sub (pd_var 2) pd_int) ad_nil)))))))))) (sd_one (sd_ret pd_bl)) sd_nil)
  (sd_one (sd_if (pb_not (pb_val (pd_call (ok_is_number Z) (hr.mono (by omega)) Z.m_is_number Z.F_is_number.kp (b_is_number Z) (fun σ => passAt (takes_of rfl rfl rfl rfl) σ) (ad_cons (pd_ix (pd_var 3) pd_int) (ad_cons pd_int (ad_cons (pd_gintE Z.i_MOST_DONE) ad_nil)))))) (sd_one (sd_ret pd_bl)) sd_nil))) sd_nil)))
  (sd_one (sd_ret pd_bl)))) : PSsD _ TT _ _ G_is_state)
theorem sc_need_table : FnScope ["almanac", "value", "index", "state"] ["almanac", "value"] (defScope (top 63)) := ⟨rfl, rfl, rfl, by decide +kernel, rfl, by decide +kernel, by decide +kernel⟩
theorem b_need_table (Z : Fs K mg base TT) : Binds K Z.fd_need_table ["almanac", "value"] [] := Z.F_need_table.bindsN fun _ _ _ _ _ _ us hl => match us, hl with | [_, _], _ => rfl
theorem ok_need_table (Z : Fs K mg base TT) : FnOk P w K mg base (CX P w) 3 (He.ga K "need_table") Z.fd_need_table ["almanac", "value"] (spD K TT F_need_table) :=
  okD Z.F_need_table sc_need_table fun z E hr hz => (
  (sd_cons (sd_if (pb_of (pw_o (pb_not (pb_val (pd_isi Z.n_isinstance Z.n_tuple boot_tuple (pd_var 1)))) (pw_o1 (pb_not (pb_chain op_le o_cmp op_le o_cmp pd_int (pd_callB call_len n_len Z.n_len boot_len (ad_cons (pd_var 1) ad_nil)) (pd_gintE Z.i_MOST_STATES)))))) (sd_one (sd_raiseF rfl (takes_of rfl rfl rfl rfl) Z.O_BadTable.x (ok_BadTable_init Z) (hr.mono (by omega)) Z.m_BadTable (b_BadTable_init Z) pd_non)) sd_nil)
  (sd_one (sd_for (passes_of rfl) rfl (id_enumT Z.n_enumerate (ad_cons (pd_var 1) ad_nil)) (gd_tup rfl (gsd_cons (gd_name 2 sc_need_table.nd) (gsd_cons (gd_name 3 sc_need_table.nd) gsd_nil))) (sd_one (sd_if (pb_not (pb_val (pd_call (ok_is_state Z) (hr.mono (by omega)) Z.m_is_state Z.F_is_state.kp (b_is_state Z) (fun σ => passAt (takes_of rfl rfl rfl rfl) σ) (ad_cons (pd_var 0) (ad_cons (pd_var 3) (ad_cons (pd_callB call_len n_len Z.n_len boot_len (ad_cons (pd_var 1) ad_nil)) ad_nil)))))) (sd_one (sd_raiseF rfl (takes_of rfl rfl rfl rfl) Z.O_BadTable.x (ok_BadTable_init Z) (hr.mono (by omega)) Z.m_BadTable (b_BadTable_init Z) (pd_var 2))) sd_nil))))) : PSsD _ TT _ _ G_need_table)
theorem sc_bad_story : FnScope ["almanac", "table"] ["almanac", "table"] (defScope (top 68)) := ⟨rfl, rfl, rfl, by decide +kernel, rfl, by decide +kernel, by decide +kernel⟩
theorem b_bad_story (Z : Fs K mg base TT) : Binds K Z.fd_bad_story ["almanac", "table"] [] := Z.F_bad_story.bindsN fun _ _ _ _ _ _ us hl => match us, hl with | [_, _], _ => rfl
theorem ok_bad_story (Z : Fs K mg base TT) : FnOk P w K mg base (CX P w) 4 (He.ga K "bad_story") Z.fd_bad_story ["almanac", "table"] (spD K TT F_bad_story) :=
  okD Z.F_bad_story sc_bad_story fun z E hr hz => (
  (sd_cons (sd_expr (pd_call (ok_need_almanac Z) (hr.mono (by omega)) Z.m_need_almanac Z.F_need_almanac.kp (b_need_almanac Z) (fun σ => passAt (takes_of rfl rfl rfl rfl) σ) (ad_cons (pd_var 0) ad_nil)))
  (sd_cons (sd_expr (pd_call (ok_need_table Z) (hr.mono (by omega)) Z.m_need_table Z.F_need_table.kp (b_need_table Z) (fun σ => passAt (takes_of rfl rfl rfl rfl) σ) (ad_cons (pd_var 0) (ad_cons (pd_var 1) ad_nil))))
  pss_bad)) : PSsD _ TT _ _ G_bad_story)
theorem sc_keeper : FnScope ["almanac", "steps", "day", "numbers", "order", "table", "at", "state", "reading", "stands", "behind", "done"] ["almanac"] (defScope (top 70)) := ⟨rfl, rfl, rfl, by decide +kernel, rfl, by decide +kernel, by decide +kernel⟩
theorem b_keeper (Z : Fs K mg base TT) : Binds K Z.fd_keeper ["almanac"] [] := Z.F_keeper.bindsN fun _ _ _ _ _ _ us hl => match us, hl with | [_], _ => rfl
theorem ok_keeper (Z : Fs K mg base TT) : FnOk P w K mg base (CX P w) 6 (He.ga K "keeper") Z.fd_keeper ["almanac"] (spD K TT F_keeper) :=
  okD Z.F_keeper sc_keeper fun z E hr hz => (
  (sd_cons (sd_expr (pd_call (ok_need_almanac Z) (hr.mono (by omega)) Z.m_need_almanac Z.F_need_almanac.kp (b_need_almanac Z) (fun σ => passAt (takes_of rfl rfl rfl rfl) σ) (ad_cons (pd_var 0) ad_nil)))
  (sd_cons (sd_if (pb_val (pd_call (ok_conflicts Z) (hr.mono (by omega)) Z.m_conflicts Z.F_conflicts.kp (b_conflicts Z) (fun σ => passAt (takes_of rfl rfl rfl rfl) σ) (ad_cons (pd_var 0) ad_nil))) (sd_one (sd_raise0 rfl (takes_of rfl rfl rfl rfl) Z.E_NoKeeper Z.m_NoKeeper)) sd_nil)
  pss_bad)) : PSsD _ TT _ _ G_keeper)
theorem sc_greatest_late : FnScope ["almanac", "found", "late"] ["almanac"] (defScope (top 72)) := ⟨rfl, rfl, rfl, by decide +kernel, rfl, by decide +kernel, by decide +kernel⟩
theorem b_greatest_late (Z : Fs K mg base TT) : Binds K Z.fd_greatest_late ["almanac"] [] := Z.F_greatest_late.bindsN fun _ _ _ _ _ _ us hl => match us, hl with | [_], _ => rfl
theorem ok_greatest_late (Z : Fs K mg base TT) : FnOk P w K mg base (CX P w) 6 (He.ga K "greatest_late") Z.fd_greatest_late ["almanac"] (spD K TT F_greatest_late) :=
  okD Z.F_greatest_late sc_greatest_late fun z E hr hz => (
  (sd_cons (sd_expr (pd_call (ok_need_almanac Z) (hr.mono (by omega)) Z.m_need_almanac Z.F_need_almanac.kp (b_need_almanac Z) (fun σ => passAt (takes_of rfl rfl rfl rfl) σ) (ad_cons (pd_var 0) ad_nil)))
  pss_bad) : PSsD _ TT _ _ G_greatest_late)
theorem sc_least_rest : FnScope ["almanac", "rest"] ["almanac"] (defScope (top 73)) := ⟨rfl, rfl, rfl, by decide +kernel, rfl, by decide +kernel, by decide +kernel⟩
theorem b_least_rest (Z : Fs K mg base TT) : Binds K Z.fd_least_rest ["almanac"] [] := Z.F_least_rest.bindsN fun _ _ _ _ _ _ us hl => match us, hl with | [_], _ => rfl
theorem ok_least_rest (Z : Fs K mg base TT) : FnOk P w K mg base (CX P w) 6 (He.ga K "least_rest") Z.fd_least_rest ["almanac"] (spD K TT F_least_rest) :=
  okD Z.F_least_rest sc_least_rest fun z E hr hz => (
  (sd_cons (sd_expr (pd_call (ok_need_almanac Z) (hr.mono (by omega)) Z.m_need_almanac Z.F_need_almanac.kp (b_need_almanac Z) (fun σ => passAt (takes_of rfl rfl rfl rfl) σ) (ad_cons (pd_var 0) ad_nil)))
  pss_bad) : PSsD _ TT _ _ G_least_rest)
theorem sc_least_last : FnScope ["almanac", "last"] ["almanac"] (defScope (top 74)) := ⟨rfl, rfl, rfl, by decide +kernel, rfl, by decide +kernel, by decide +kernel⟩
theorem b_least_last (Z : Fs K mg base TT) : Binds K Z.fd_least_last ["almanac"] [] := Z.F_least_last.bindsN fun _ _ _ _ _ _ us hl => match us, hl with | [_], _ => rfl
theorem ok_least_last (Z : Fs K mg base TT) : FnOk P w K mg base (CX P w) 6 (He.ga K "least_last") Z.fd_least_last ["almanac"] (spD K TT F_least_last) :=
  okD Z.F_least_last sc_least_last fun z E hr hz => (
  (sd_cons (sd_expr (pd_call (ok_need_almanac Z) (hr.mono (by omega)) Z.m_need_almanac Z.F_need_almanac.kp (b_need_almanac Z) (fun σ => passAt (takes_of rfl rfl rfl rfl) σ) (ad_cons (pd_var 0) ad_nil)))
  pss_bad) : PSsD _ TT _ _ G_least_last)
theorem sc_need_thumb : FnScope ["almanac", "value"] ["almanac", "value"] (defScope (top 76)) := ⟨rfl, rfl, rfl, by decide +kernel, rfl, by decide +kernel, by decide +kernel⟩
theorem b_need_thumb (Z : Fs K mg base TT) : Binds K Z.fd_need_thumb ["almanac", "value"] [] := Z.F_need_thumb.bindsN fun _ _ _ _ _ _ us hl => match us, hl with | [_, _], _ => rfl
theorem ok_need_thumb (Z : Fs K mg base TT) : FnOk P w K mg base (CX P w) 2 (He.ga K "need_thumb") Z.fd_need_thumb ["almanac", "value"] (spD K TT F_need_thumb) :=
  okD Z.F_need_thumb sc_need_thumb fun z E hr hz => (
  (sd_cons (sd_if (pb_of (pw_o (pb_not (pb_val (pd_isi Z.n_isinstance Z.n_tuple boot_tuple (pd_var 1)))) (pw_o1 (pb_not (pb_list (pd_var 1)))))) (sd_one (sd_raise0 rfl (takes_of rfl rfl rfl rfl) Z.E_BadReadings Z.m_BadReadings)) sd_nil)
  (sd_cons (sd_if (pb_not (pb_val (pd_q1 (q := true) [0] hr Z.n_all Z.T_need_thumb (hz.trans Z.c_need_thumb) Z.t_need_thumb (gs_of (by rfl)) rfl (CapL.cons rfl rfl CapL.nil) (pd_var 1) (el_num Z.F_is_number rfl sc_is_number (b_is_number Z) (by decide +kernel) (by decide +kernel) Z.n_isinstance Z.n_int Z.n_bool hr Z.m_is_number rfl rfl rfl)))) (sd_one (sd_raise0 rfl (takes_of rfl rfl rfl rfl) Z.E_BadReadings Z.m_BadReadings)) sd_nil)
  (sd_one (sd_if (pb_not (pb_val (pd_q2 (q := true) [] hr Z.n_all Z.n_zip Z.T_need_thumb (hz.trans Z.c_need_thumb) Z.t_need_thumb (gs_of (by rfl)) rfl rfl (by decide) CapL.nil (ad_cons (pd_var 1) (ad_cons (pd_slice (pd_var 1) (od_some pd_int) od_none) ad_nil)) (el_lt rfl rfl)))) (sd_one (sd_raise0 rfl (takes_of rfl rfl rfl rfl) Z.E_BadReadings Z.m_BadReadings)) sd_nil)))) : PSsD _ TT _ _ G_need_thumb)
theorem sc_thumb_fails : FnScope ["almanac", "thumb"] ["almanac", "thumb"] (defScope (top 78)) := ⟨rfl, rfl, rfl, by decide +kernel, rfl, by decide +kernel, by decide +kernel⟩
theorem b_thumb_fails (Z : Fs K mg base TT) : Binds K Z.fd_thumb_fails ["almanac", "thumb"] [] := Z.F_thumb_fails.bindsN fun _ _ _ _ _ _ us hl => match us, hl with | [_, _], _ => rfl
theorem ok_thumb_fails (Z : Fs K mg base TT) : FnOk P w K mg base (CX P w) 4 (He.ga K "thumb_fails") Z.fd_thumb_fails ["almanac", "thumb"] (spD K TT F_thumb_fails) :=
  okD Z.F_thumb_fails sc_thumb_fails fun z E hr hz => (
  (sd_cons (sd_expr (pd_call (ok_need_almanac Z) (hr.mono (by omega)) Z.m_need_almanac Z.F_need_almanac.kp (b_need_almanac Z) (fun σ => passAt (takes_of rfl rfl rfl rfl) σ) (ad_cons (pd_var 0) ad_nil)))
  (sd_cons (sd_expr (pd_call (ok_need_thumb Z) (hr.mono (by omega)) Z.m_need_thumb Z.F_need_thumb.kp (b_need_thumb Z) (fun σ => passAt (takes_of rfl rfl rfl rfl) σ) (ad_cons (pd_var 0) (ad_cons (pd_var 1) ad_nil))))
  pss_bad)) : PSsD _ TT _ _ G_thumb_fails)
theorem sc_good_thumbs : FnScope ["almanac", "thumbs", "reading", "thumb"] ["almanac"] (defScope (top 79)) := ⟨rfl, rfl, rfl, by decide +kernel, rfl, by decide +kernel, by decide +kernel⟩
theorem b_good_thumbs (Z : Fs K mg base TT) : Binds K Z.fd_good_thumbs ["almanac"] [] := Z.F_good_thumbs.bindsN fun _ _ _ _ _ _ us hl => match us, hl with | [_], _ => rfl
theorem ok_good_thumbs (Z : Fs K mg base TT) : FnOk P w K mg base (CX P w) 4 (He.ga K "good_thumbs") Z.fd_good_thumbs ["almanac"] (spD K TT F_good_thumbs) :=
  okD Z.F_good_thumbs sc_good_thumbs fun z E hr hz => (
  (sd_cons (sd_expr (pd_call (ok_need_almanac Z) (hr.mono (by omega)) Z.m_need_almanac Z.F_need_almanac.kp (b_need_almanac Z) (fun σ => passAt (takes_of rfl rfl rfl rfl) σ) (ad_cons (pd_var 0) ad_nil)))
  (sd_cons (sd_if (pb_gt (pd_ix (pd_var 0) pd_int) (pd_gintE Z.i_MOST_THUMB_HOURS)) (sd_one (sd_raiseF rfl (takes_of rfl rfl rfl rfl) Z.O_TooMany.x (ok_TooMany_init Z) (hr.mono (by omega)) Z.m_TooMany (b_TooMany_init Z) pd_int)) sd_nil)
  pss_bad)) : PSsD _ TT _ _ G_good_thumbs)
theorem sc__law_taken : FnScope ["_law_row", "_law_many", "_law_found", "_law_cell"] ["_law_row", "_law_many"] (defScope (top 81)) := ⟨rfl, rfl, rfl, by decide +kernel, rfl, by decide +kernel, by decide +kernel⟩
theorem b__law_taken (Z : Fs K mg base TT) : Binds K Z.fd__law_taken ["_law_row", "_law_many"] [] := Z.F__law_taken.bindsN fun _ _ _ _ _ _ us hl => match us, hl with | [_, _], _ => rfl
theorem ok__law_taken (Z : Fs K mg base TT) : FnOk P w K mg base (CX P w) 1 (He.ga K "_law_taken") Z.fd__law_taken ["_law_row", "_law_many"] (spR K TT F__law_taken) :=
  okR Z.F__law_taken sc__law_taken fun z E hr hz => (
  (sd_cons (sd_if (pb_gt (pd_ix (pd_var 0) pd_int) pd_int) (sd_cons (sd_set 2 sc__law_taken.nd (pd_mod (pd_callTy call_int1 n_int Z.n_int boot_int (ad_cons (pd_ix (pd_var 0) pd_int) ad_nil)) (pd_var 1)))
  (sd_cons (sd_setIx (pd_div (pd_ix (pd_var 0) pd_int) (pd_var 1)) (pd_var 0) pd_int)
  (sd_one (sd_ret (pd_var 2))))) sd_nil)
  (sd_cons (sd_setIx (pd_add (pd_ix (pd_var 0) pd_int) pd_int) (pd_var 0) pd_int)
  (sd_cons (sd_if (pb_gt (pd_ix (pd_var 0) pd_int) (pd_callB call_len n_len Z.n_len boot_len (ad_cons (pd_ix (pd_var 0) pd_int) ad_nil))) (sd_cons (sd_setIx (pd_mod (pd_callTy call_int1 n_int Z.n_int boot_int (ad_cons (pd_add (pd_mul (pd_ix (pd_var 0) pd_int) pd_int) pd_int) ad_nil)) pd_int) (pd_var 0) pd_int)
  (sd_one (sd_ret (pd_mod (pd_callTy call_int1 n_int Z.n_int boot_int (ad_cons (pd_div (pd_ix (pd_var 0) pd_int) pd_int) ad_nil)) (pd_var 1))))) sd_nil)
  (sd_cons (sd_set 3 sc__law_taken.nd (pd_ix (pd_ix (pd_var 0) pd_int) (pd_sub (pd_ix (pd_var 0) pd_int) pd_int)))
  (sd_cons (sd_setIx (pd_mod (pd_callTy call_int1 n_int Z.n_int boot_int (ad_cons (pd_add (pd_add (pd_mul (pd_ix (pd_var 0) pd_int) pd_int) (pd_var 3)) pd_int) ad_nil)) pd_int) (pd_var 0) pd_int)
  (sd_cons (sd_if (pb_ge (pd_var 3) (pd_pow pd_int pd_int)) (sd_one (sd_setIx (pd_div (pd_var 3) (pd_var 1)) (pd_var 0) pd_int)) sd_nil)
  (sd_one (sd_ret (pd_mod (pd_callTy call_int1 n_int Z.n_int boot_int (ad_cons (pd_var 3) ad_nil)) (pd_var 1)))))))))) : PSsD _ TT _ _ G__law_taken)
theorem sc__law_pick : FnScope ["_law_row", "_law_things"] ["_law_row", "_law_things"] (defScope (top 82)) := ⟨rfl, rfl, rfl, by decide +kernel, rfl, by decide +kernel, by decide +kernel⟩
theorem b__law_pick (Z : Fs K mg base TT) : Binds K Z.fd__law_pick ["_law_row", "_law_things"] [] := Z.F__law_pick.bindsN fun _ _ _ _ _ _ us hl => match us, hl with | [_, _], _ => rfl
theorem ok__law_pick (Z : Fs K mg base TT) : FnOk P w K mg base (CX P w) 2 (He.ga K "_law_pick") Z.fd__law_pick ["_law_row", "_law_things"] (spR K TT F__law_pick) :=
  okR Z.F__law_pick sc__law_pick fun z E hr hz => (
  (sd_one (sd_ret (pd_ix (pd_var 1) (pd_callR (ok__law_taken Z) (hr.mono (by omega)) Z.m__law_taken Z.F__law_taken.kp (b__law_taken Z) (fun σ => passAt (takes_of rfl rfl rfl rfl) σ) (pd_var 0) (ad_cons (pd_callB call_len n_len Z.n_len boot_len (ad_cons (pd_var 1) ad_nil)) ad_nil))))) : PSsD _ TT _ _ G__law_pick)
theorem sc__law_works : FnScope ["_law_one", "_law_other", "_law_works_here"] ["_law_one", "_law_other"] (defScope (top 84)) := ⟨rfl, rfl, rfl, by decide +kernel, rfl, by decide +kernel, by decide +kernel⟩
theorem b__law_works (Z : Fs K mg base TT) : Binds K Z.fd__law_works ["_law_one", "_law_other"] [] := Z.F__law_works.bindsN fun _ _ _ _ _ _ us hl => match us, hl with | [_, _], _ => rfl
theorem ok__law_works (Z : Fs K mg base TT) : FnOk P w K mg base (CX P w) 1 (He.ga K "_law_works") Z.fd__law_works ["_law_one", "_law_other"] (spW K TT (He.cT K Lams.wd).2 2 worksS) :=
  okW (k := 0) (i := 2) (sel := worksS) Z.F__law_works sc__law_works (by decide) (by decide) lams_ok (by decide) (by decide +kernel) (by decide +kernel) (by decide +kernel) (by decide) (fun cells => (List.forall_mem_cons.mpr ⟨rfl, (List.forall_mem_cons.mpr ⟨rfl, (List.forall_mem_cons.mpr ⟨rfl, (List.forall_mem_cons.mpr ⟨rfl, (List.forall_mem_cons.mpr ⟨rfl, (List.forall_mem_cons.mpr ⟨rfl, (List.forall_mem_cons.mpr ⟨rfl, (List.forall_mem_cons.mpr ⟨rfl, (List.forall_mem_cons.mpr ⟨rfl, (List.forall_mem_cons.mpr ⟨rfl, (List.forall_mem_cons.mpr ⟨rfl, (List.forall_mem_cons.mpr ⟨rfl, (List.forall_mem_cons.mpr ⟨rfl, (List.forall_mem_cons.mpr ⟨rfl, (List.forall_mem_cons.mpr ⟨rfl, (List.forall_mem_cons.mpr ⟨rfl, (List.forall_mem_cons.mpr ⟨rfl, (List.forall_mem_cons.mpr ⟨rfl, (fun _ h => by cases h)⟩)⟩)⟩)⟩)⟩)⟩)⟩)⟩)⟩)⟩)⟩)⟩)⟩)⟩)⟩)⟩)⟩)⟩)) (fun z E hr hz => (rr_works0
  (rr_app (L := Lams.of 0) (pe_lamF (L := Lams.of 0) Z.T__law_works (hz.trans Z.c__law_works) (by rfl) (by rfl) lamfr_0 (by rfl))
  (rr_app (L := Lams.of 1) (pe_lamF (L := Lams.of 1) Z.T__law_works (hz.trans Z.c__law_works) (by rfl) (by rfl) lamfr_1 (by rfl))
  (rr_app (L := Lams.of 2) (pe_lamF (L := Lams.of 2) Z.T__law_works (hz.trans Z.c__law_works) (by rfl) (by rfl) lamfr_2 (by rfl))
  (rr_app (L := Lams.of 3) (pe_lamF (L := Lams.of 3) Z.T__law_works (hz.trans Z.c__law_works) (by rfl) (by rfl) lamfr_3 (by rfl))
  (rr_app (L := Lams.of 4) (pe_lamF (L := Lams.of 4) Z.T__law_works (hz.trans Z.c__law_works) (by rfl) (by rfl) lamfr_4 (by rfl))
  (rr_app (L := Lams.of 5) (pe_lamF (L := Lams.of 5) Z.T__law_works (hz.trans Z.c__law_works) (by rfl) (by rfl) lamfr_5 (by rfl))
  (rr_app (L := Lams.of 6) (pe_lamF (L := Lams.of 6) Z.T__law_works (hz.trans Z.c__law_works) (by rfl) (by rfl) lamfr_6 (by rfl))
  (rr_app (L := Lams.of 7) (pe_lamF (L := Lams.of 7) Z.T__law_works (hz.trans Z.c__law_works) (by rfl) (by rfl) lamfr_7 (by rfl))
  (rr_app (L := Lams.of 8) (pe_lamF (L := Lams.of 8) Z.T__law_works (hz.trans Z.c__law_works) (by rfl) (by rfl) lamfr_8 (by rfl))
  (rr_app (L := Lams.of 9) (pe_lamF (L := Lams.of 9) Z.T__law_works (hz.trans Z.c__law_works) (by rfl) (by rfl) lamfr_9 (by rfl))
  (rr_app (L := Lams.of 10) (pe_lamF (L := Lams.of 10) Z.T__law_works (hz.trans Z.c__law_works) (by rfl) (by rfl) lamfr_10 (by rfl))
  (rr_app (L := Lams.of 11) (pe_lamF (L := Lams.of 11) Z.T__law_works (hz.trans Z.c__law_works) (by rfl) (by rfl) lamfr_11 (by rfl))
  (rr_app (L := Lams.of 12) (pe_lamF (L := Lams.of 12) Z.T__law_works (hz.trans Z.c__law_works) (by rfl) (by rfl) lamfr_12 (by rfl))
  (rr_app (L := Lams.of 13) (pe_lamF (L := Lams.of 13) Z.T__law_works (hz.trans Z.c__law_works) (by rfl) (by rfl) lamfr_13 (by rfl))
  (rr_app (L := Lams.of 14) (pe_lamF (L := Lams.of 14) Z.T__law_works (hz.trans Z.c__law_works) (by rfl) (by rfl) lamfr_14 (by rfl))
  (rr_app (L := Lams.of 15) (pe_lamF (L := Lams.of 15) Z.T__law_works (hz.trans Z.c__law_works) (by rfl) (by rfl) lamfr_15 (by rfl))
  (rr_app (L := Lams.of 16) (pe_lamF (L := Lams.of 16) Z.T__law_works (hz.trans Z.c__law_works) (by rfl) (by rfl) lamfr_16 (by rfl))
  (rr_app (L := Lams.of 17) (pe_lamF (L := Lams.of 17) Z.T__law_works (hz.trans Z.c__law_works) (by rfl) (by rfl) lamfr_17 (by rfl))
  (rr_apps0 rfl (Or.inl rfl)) rfl (Or.inl rfl)) rfl (Or.inl rfl)) rfl (Or.inl rfl)) rfl (Or.inl rfl)) rfl (Or.inl rfl)) rfl (Or.inl rfl)) rfl (Or.inl rfl)) rfl (Or.inl rfl)) rfl (Or.inl rfl)) rfl (Or.inl rfl)) rfl (Or.inl rfl)) rfl (Or.inl rfl)) rfl (Or.inl rfl)) rfl (Or.inl rfl)) rfl (Or.inl rfl)) rfl (Or.inl rfl)) rfl (Or.inl rfl)) rfl (Or.inl rfl)) sc__law_works.nd rfl (.inl rfl) (.inl rfl)))
theorem lam_body (Z : Fs K mg base TT) {A : Around} {outer : List Env} : ∀ (j : Nat) (s : Shared) (H : Hp) (E : XK) (f c2 : Addr) (clo : List (Str × Addr)), Room 6 (A.deeper (lamEv (Lams.of j) s.heap.objs.size f c2 clo)) → PD (lamCy P w K mg base A outer s H E (Lams.of j) f c2 clo) TT (fun cls d _ H => E cls d H) (Lams.of j).body (lamF j)
  | 0, s, H, E, f, c2, clo, hr => ((pd_call (ok_conflict Z) (hr.mono (by omega)) Z.m_conflict Z.F_conflict.kp (b_conflict Z) (fun σ => passAt takes_lam σ) (ad_cons (pd_var 0) ad_nil)) : PD _ TT _ _ (lamF 0))
  | 1, s, H, E, f, c2, clo, hr => ((pd_call (ok_has_keeper Z) (hr.mono (by omega)) Z.m_has_keeper Z.F_has_keeper.kp (b_has_keeper Z) (fun σ => passAt takes_lam σ) (ad_cons (pd_var 0) ad_nil)) : PD _ TT _ _ (lamF 1))
  | 2, s, H, E, f, c2, clo, hr => ((pd_call (ok_places Z) (hr.mono (by omega)) Z.m_places Z.F_places.kp (b_places Z) (fun σ => passAt takes_lam σ) (ad_cons (pd_var 0) ad_nil)) : PD _ TT _ _ (lamF 2))
  | 3, s, H, E, f, c2, clo, hr => ((pd_call (ok_shows_conflict Z) (hr.mono (by omega)) Z.m_shows_conflict Z.F_shows_conflict.kp (b_shows_conflict Z) (fun σ => passAt takes_lam σ) (ad_cons (pd_var 0) (ad_cons pd_non ad_nil))) : PD _ TT _ _ (lamF 3))
  | 4, s, H, E, f, c2, clo, hr => ((pd_call (ok_shows_places Z) (hr.mono (by omega)) Z.m_shows_places Z.F_shows_places.kp (b_shows_places Z) (fun σ => passAt takes_lam σ) (ad_cons (pd_var 0) (ad_cons pd_non ad_nil))) : PD _ TT _ _ (lamF 4))
  | 5, s, H, E, f, c2, clo, hr => ((pd_call (ok_keeper Z) (hr.mono (by omega)) Z.m_keeper Z.F_keeper.kp (b_keeper Z) (fun σ => passAt takes_lam σ) (ad_cons (pd_var 0) ad_nil)) : PD _ TT _ _ (lamF 5))
  | 6, s, H, E, f, c2, clo, hr => ((pd_call (ok_greatest_late Z) (hr.mono (by omega)) Z.m_greatest_late Z.F_greatest_late.kp (b_greatest_late Z) (fun σ => passAt takes_lam σ) (ad_cons (pd_var 0) ad_nil)) : PD _ TT _ _ (lamF 6))
  | 7, s, H, E, f, c2, clo, hr => ((pd_call (ok_least_rest Z) (hr.mono (by omega)) Z.m_least_rest Z.F_least_rest.kp (b_least_rest Z) (fun σ => passAt takes_lam σ) (ad_cons (pd_var 0) ad_nil)) : PD _ TT _ _ (lamF 7))
  | 8, s, H, E, f, c2, clo, hr => ((pd_call (ok_least_last Z) (hr.mono (by omega)) Z.m_least_last Z.F_least_last.kp (b_least_last Z) (fun σ => passAt takes_lam σ) (ad_cons (pd_var 0) ad_nil)) : PD _ TT _ _ (lamF 8))
  | 9, s, H, E, f, c2, clo, hr => ((pd_call (ok_good_thumbs Z) (hr.mono (by omega)) Z.m_good_thumbs Z.F_good_thumbs.kp (b_good_thumbs Z) (fun σ => passAt takes_lam σ) (ad_cons (pd_var 0) ad_nil)) : PD _ TT _ _ (lamF 9))
  | 10, s, H, E, f, c2, clo, hr => ((pd_call (ok_readings Z) (hr.mono (by omega)) Z.m_readings Z.F_readings.kp (b_readings Z) (fun σ => passAt takes_lam σ) (ad_cons (pd_var 1) (ad_cons (pd_var 0) ad_nil))) : PD _ TT _ _ (lamF 10))
  | 11, s, H, E, f, c2, clo, hr => ((pd_call (ok_shut Z) (hr.mono (by omega)) Z.m_shut Z.F_shut.kp (b_shut Z) (fun σ => passAt takes_lam σ) (ad_cons (pd_var 1) (ad_cons (pd_var 0) ad_nil))) : PD _ TT _ _ (lamF 11))
  | 12, s, H, E, f, c2, clo, hr => ((pd_call (ok_opened Z) (hr.mono (by omega)) Z.m_opened Z.F_opened.kp (b_opened Z) (fun σ => passAt takes_lam σ) (ad_cons (pd_var 1) (ad_cons (pd_var 0) ad_nil))) : PD _ TT _ _ (lamF 12))
  | 13, s, H, E, f, c2, clo, hr => ((pd_call (ok_urgent Z) (hr.mono (by omega)) Z.m_urgent Z.F_urgent.kp (b_urgent Z) (fun σ => passAt takes_lam σ) (ad_cons (pd_var 1) (ad_cons (pd_var 0) ad_nil))) : PD _ TT _ _ (lamF 13))
  | 14, s, H, E, f, c2, clo, hr => ((pd_call (ok_rule Z) (hr.mono (by omega)) Z.m_rule Z.F_rule.kp (b_rule Z) (fun σ => passAt takes_lam σ) (ad_cons (pd_var 1) (ad_cons (pd_var 0) ad_nil))) : PD _ TT _ _ (lamF 14))
  | 15, s, H, E, f, c2, clo, hr => ((pd_call (ok_may_be Z) (hr.mono (by omega)) Z.m_may_be Z.F_may_be.kp (b_may_be Z) (fun σ => passAt takes_lam σ) (ad_cons (pd_var 1) (ad_cons (pd_var 0) ad_nil))) : PD _ TT _ _ (lamF 15))
  | 16, s, H, E, f, c2, clo, hr => ((pd_call (ok_thumb_fails Z) (hr.mono (by omega)) Z.m_thumb_fails Z.F_thumb_fails.kp (b_thumb_fails Z) (fun σ => passAt takes_lam σ) (ad_cons (pd_var 1) (ad_cons (pd_var 0) ad_nil))) : PD _ TT _ _ (lamF 16))
  | 17, s, H, E, f, c2, clo, hr => ((pd_call (ok_bad_story Z) (hr.mono (by omega)) Z.m_bad_story Z.F_bad_story.kp (b_bad_story Z) (fun σ => passAt takes_lam σ) (ad_cons (pd_var 1) (ad_cons (pd_var 0) ad_nil))) : PD _ TT _ _ (lamF 17))
  | _ + 18, s, H, E, f, c2, clo, hr => pd_bad
theorem sc__law_refused : FnScope ["_law_work", "_law_found", "e", "_law_kinds", "_law_names"] ["_law_work"] (defScope (top 83)) := ⟨rfl, rfl, rfl, by decide +kernel, rfl, by decide +kernel, by decide +kernel⟩
theorem b__law_refused (Z : Fs K mg base TT) : Binds K Z.fd__law_refused ["_law_work"] [] := Z.F__law_refused.bindsN fun _ _ _ _ _ _ us hl => match us, hl with | [_], _ => rfl
theorem ok__law_refused (Z : Fs K mg base TT) : FnOk P w K mg base (CX P w) 8 (He.ga K "_law_refused") Z.fd__law_refused ["_law_work"] (spG K TT F__law_refused) :=
  okG Z.F__law_refused sc__law_refused fun z E hr hz => have hu := hu_of hr; (
  (sd_cons (sd_set 1 sc__law_refused.nd pd_non)
  (sd_cons (sd_try_as (by rfl) (by rfl) sc__law_refused.nd (by rfl) (by rfl) (by rfl) (by decide) Z.m_ClockworkError (takes_of rfl rfl rfl rfl) (exT_tst Z.X_T "ClockworkError") (fun W2 pn xe tk po => (sd_one (sd_expr (pd_fn (k := 6) (hr.mono (by omega)) (fun σ => passAt tk σ) lams_ok (fun j s H E f c2 clo h => lam_body Z j s H E f c2 clo h))))) (fun a oe cls d pn ex hz hf => (sd_cons (sd_set 3 sc__law_refused.nd (pd_lst ad_nil))
  (sd_cons (sd_expr (pd_append (pd_var 3) (pd_isE hz hf (exT_kst Z.X_T "BadAlmanac" ex.cls) Z.n_isinstance Z.m_BadAlmanac)))
  (sd_cons (sd_expr (pd_append (pd_var 3) (pd_isE hz hf (exT_kst Z.X_T "BadHour" ex.cls) Z.n_isinstance Z.m_BadHour)))
  (sd_cons (sd_expr (pd_append (pd_var 3) (pd_isE hz hf (exT_kst Z.X_T "BadStory" ex.cls) Z.n_isinstance Z.m_BadStory)))
  (sd_cons (sd_expr (pd_append (pd_var 3) (pd_isE hz hf (exT_kst Z.X_T "BadReadings" ex.cls) Z.n_isinstance Z.m_BadReadings)))
  (sd_cons (sd_expr (pd_append (pd_var 3) (pd_isE hz hf (exT_kst Z.X_T "BadTable" ex.cls) Z.n_isinstance Z.m_BadTable)))
  (sd_cons (sd_expr (pd_append (pd_var 3) (pd_isE hz hf (exT_kst Z.X_T "NoKeeper" ex.cls) Z.n_isinstance Z.m_NoKeeper)))
  (sd_cons (sd_expr (pd_append (pd_var 3) (pd_isE hz hf (exT_kst Z.X_T "TooMany" ex.cls) Z.n_isinstance Z.m_TooMany)))
  (sd_cons (sd_set 4 sc__law_refused.nd (pd_lst (ad_cons pd_str (ad_cons pd_str (ad_cons pd_str (ad_cons pd_str (ad_cons pd_str (ad_cons pd_str (ad_cons pd_str ad_nil)))))))))
  (sd_cons (sd_set 1 sc__law_refused.nd (pd_if (pb_eq hu (pd_countB (pd_var 3) pd_bl) pd_int) (pd_ix (pd_var 4) (pd_indexB (pd_var 3) pd_bl)) pd_str))
  (sd_cons (sd_set 1 sc__law_refused.nd (pd_if (pb_eq hu (pd_var 1) pd_str) (pd_tup (ad_cons pd_str (ad_cons (pd_fldE2 hz hf Z.X_F) ad_nil))) (pd_var 1)))
  (sd_cons (sd_set 1 sc__law_refused.nd (pd_if (pb_eq hu (pd_var 1) pd_str) (pd_tup (ad_cons pd_str (ad_cons (pd_fldE2 hz hf Z.X_F) ad_nil))) (pd_var 1)))
  (sd_one (sd_set 1 sc__law_refused.nd (pd_if (pb_eq hu (pd_var 1) pd_str) (pd_tup (ad_cons pd_str (ad_cons (pd_fldE2 hz hf Z.X_F) ad_nil))) (pd_var 1))))))))))))))))))
  (sd_one (sd_ret (pd_var 1))))) : PSsD _ TT _ _ G__law_refused)
theorem sc_law : FnScope ["_law_script", "_law_row", "_law_almanac", "_law_words", "_law_lots", "_law_at", "_law_bent", "_law_word", "_law_stories", "_law_hour", "_law_row_of", "_law_thumb", "_law_state", "_law_index", "_law_odd", "_law_table", "_law_value", "_law_spot", "_law_hard", "_law_wide", "_law_work"] ["_law_script"] (defScope (top 85)) := ⟨rfl, rfl, rfl, by decide +kernel, rfl, by decide +kernel, by decide +kernel⟩
theorem b_law (Z : Fs K mg base TT) : Binds K Z.fd_law ["_law_script"] [] := Z.F_law.bindsN fun _ _ _ _ _ _ us hl => match us, hl with | [_], _ => rfl
theorem ok_law (Z : Fs K mg base TT) : FnOk P w K mg base (CX P w) 9 (He.ga K "law") Z.fd_law ["_law_script"] (spG K TT F_law) :=
  okG Z.F_law sc_law fun z E hr hz => (
  (sd_cons (sd_set 1 sc_law.nd (pd_lst (ad_cons (pd_var 0) (ad_cons pd_int (ad_cons pd_int (ad_cons pd_int ad_nil))))))
  (sd_cons (sd_trunc (sd_set 2 sc_law.nd (pd_tup (ad_cons pd_int (ad_cons pd_int (ad_cons pd_int (ad_cons pd_int (ad_cons pd_int (ad_cons (pd_tup (ad_cons (pd_sub pd_int pd_int) (ad_cons pd_int ad_nil))) (ad_cons pd_int ad_nil))))))))))
  (sd_cons (sd_set 3 sc_law.nd (pd_lst (ad_cons pd_str (ad_cons pd_str (ad_cons pd_str (ad_cons pd_str (ad_cons pd_str (ad_cons pd_str (ad_cons pd_str ad_nil)))))))))
  (sd_cons (sd_set 4 sc_law.nd (pd_lst (ad_cons (pd_frz (pd_lst (ad_cons pd_int (ad_cons pd_int (ad_cons pd_non (ad_cons pd_bl (ad_cons pd_str ad_nil))))))) (ad_cons (pd_frz (pd_lst (ad_cons (pd_sub pd_int pd_int) (ad_cons pd_int (ad_cons pd_non (ad_cons pd_bl ad_nil)))))) (ad_cons (pd_frz (pd_lst (ad_cons pd_int (ad_cons pd_int (ad_cons pd_non (ad_cons pd_bl ad_nil)))))) ad_nil)))))
  (sd_cons (sd_set 4 sc_law.nd (pd_catQ (pd_var 4) (pd_lst (ad_cons (pd_frz (pd_lst (ad_cons pd_int (ad_cons pd_int (ad_cons pd_non (ad_cons pd_bl ad_nil)))))) (ad_cons (pd_frz (pd_lst (ad_cons pd_int (ad_cons pd_int (ad_cons pd_non (ad_cons pd_bl ad_nil)))))) ad_nil)))))
  (sd_cons (sd_trunc (sd_expr (pd_append (pd_var 4) (pd_frz (pd_lst (ad_cons pd_non (ad_cons (pd_frz (pd_lst (ad_cons pd_int ad_nil))) (ad_cons (pd_tup (ad_cons pd_int ad_nil)) (ad_cons (pd_tup (ad_cons pd_int ad_nil)) (ad_cons (pd_tup (ad_cons pd_int (ad_cons (pd_sub pd_int pd_int) ad_nil))) (ad_cons (pd_tup (ad_cons pd_int (ad_cons pd_int ad_nil))) (ad_cons (pd_tup (ad_cons pd_bl ad_nil)) (ad_cons (pd_tup (ad_cons pd_int (ad_cons pd_int (ad_cons pd_int (ad_cons (pd_sub pd_int pd_int) (ad_cons (pd_sub pd_int pd_int) ad_nil)))))) (ad_cons pd_dct0 (ad_cons (pd_tup (ad_cons pd_str ad_nil)) ad_nil)))))))))))))))
  (sd_cons (sd_trunc (sd_expr (pd_append (pd_var 4) (pd_frz (pd_lst (ad_cons pd_int (ad_cons pd_int (ad_cons pd_non (ad_cons pd_bl (ad_cons pd_str ad_nil))))))))))
  (sd_cons (sd_trunc (sd_set 5 sc_law.nd (pd_callR (ok__law_taken Z) (hr.mono (by omega)) Z.m__law_taken Z.F__law_taken.kp (b__law_taken Z) (fun σ => passAt (takes_of rfl rfl rfl rfl) σ) (pd_var 1) (ad_cons pd_int ad_nil))))
  (sd_cons (sd_trunc (sd_par 6 7 rfl sc_law.nd (ad_cons (pd_callR (ok__law_pick Z) (hr.mono (by omega)) Z.m__law_pick Z.F__law_pick.kp (b__law_pick Z) (fun σ => passAt (takes_of rfl rfl rfl rfl) σ) (pd_var 1) (ad_cons (pd_lst (ad_cons pd_non (ad_cons (pd_frz (pd_callTyL call_list_of l_lst Z.n_list boot_list (ad_cons (pd_var 2) ad_nil))) (ad_cons (pd_slice (pd_var 2) od_none (od_some pd_int)) (ad_cons (pd_add (pd_var 2) (pd_tup (ad_cons pd_int ad_nil))) (ad_cons pd_dct0 (ad_cons pd_str ad_nil))))))) ad_nil)) (ad_cons pd_str ad_nil))))
  (sd_cons (sd_trunc (sd_if (pb_lt (pd_var 5) pd_int) (sd_one (sd_par 6 7 rfl sc_law.nd (ad_cons (pd_add (pd_add (pd_slice (pd_var 2) od_none (od_some (pd_var 5))) (pd_tup (ad_cons (pd_callR (ok__law_pick Z) (hr.mono (by omega)) Z.m__law_pick Z.F__law_pick.kp (b__law_pick Z) (fun σ => passAt (takes_of rfl rfl rfl rfl) σ) (pd_var 1) (ad_cons (pd_ix (pd_var 4) (pd_var 5)) ad_nil)) ad_nil))) (pd_slice (pd_var 2) (od_some (pd_add (pd_var 5) pd_int)) od_none)) (ad_cons (pd_ix (pd_var 3) (pd_var 5)) ad_nil)))) sd_nil))
  (sd_cons (sd_trunc (sd_if (pb_ne (hu_of hr) (pd_lcR ([("_law_work", 20)] : List (Str × Nat)) rfl sc_law.nd (id_fns (pd_works (ok__law_works Z) (hr.mono (by omega)) Z.m__law_works Z.F__law_works.kp (b__law_works Z) (fun σ => passAt (takes_of rfl rfl rfl rfl) σ) (ad_cons (pd_var 6) (ad_cons pd_non ad_nil)))) (blk_of (by rfl)) (fun z => (gd_name 20 sc_law.nd)) (fun z => ts_nil) (fun z => (pd_callG (ok__law_refused Z) (hr.mono (by omega)) Z.m__law_refused Z.F__law_refused.kp (b__law_refused Z) hx0 (ad_cons (pd_var 20) ad_nil)))) (pd_rep (pd_lst (ad_cons (pd_tup (ad_cons pd_str (ad_cons (pd_var 7) ad_nil))) ad_nil)) pd_int)) (sd_one (sd_ret pd_bl)) sd_nil))
  (sd_cons (sd_set 8 sc_law.nd (pd_lst (ad_cons pd_non (ad_cons (pd_tup (ad_cons (pd_tup (ad_cons pd_int ad_nil)) ad_nil)) (ad_cons (pd_tup (ad_cons (pd_tup ad_nil) (ad_cons (pd_tup ad_nil) ad_nil))) (ad_cons (pd_tup (ad_cons (pd_tup (ad_cons pd_int ad_nil)) (ad_cons (pd_tup ad_nil) ad_nil))) (ad_cons (pd_tup (ad_cons (pd_tup (ad_cons pd_int (ad_cons pd_int ad_nil))) (ad_cons (pd_tup ad_nil) ad_nil))) (ad_cons (pd_tup (ad_cons (pd_tup (ad_cons pd_int (ad_cons pd_int (ad_cons pd_int ad_nil)))) (ad_cons (pd_tup ad_nil) ad_nil))) (ad_cons (pd_tup (ad_cons (pd_frz (pd_lst (ad_cons pd_int ad_nil))) (ad_cons (pd_tup ad_nil) ad_nil))) (ad_cons (pd_tup (ad_cons (pd_tup (ad_cons pd_int ad_nil)) (ad_cons (pd_frz (pd_lst ad_nil)) ad_nil))) ad_nil))))))))))
  (sd_cons (sd_set 8 sc_law.nd (pd_catQ (pd_var 8) (pd_lst (ad_cons (pd_tup (ad_cons (pd_tup (ad_cons pd_int (ad_cons pd_int ad_nil))) (ad_cons (pd_tup (ad_cons (pd_tup (ad_cons pd_int (ad_cons pd_int ad_nil))) ad_nil)) ad_nil))) (ad_cons (pd_tup (ad_cons (pd_tup (ad_cons pd_int (ad_cons pd_int ad_nil))) (ad_cons (pd_tup (ad_cons (pd_tup (ad_cons pd_int (ad_cons pd_int ad_nil))) ad_nil)) ad_nil))) (ad_cons (pd_tup (ad_cons (pd_tup (ad_cons pd_int (ad_cons pd_int ad_nil))) (ad_cons (pd_tup (ad_cons (pd_tup (ad_cons pd_int (ad_cons pd_int ad_nil))) (ad_cons (pd_tup (ad_cons pd_int (ad_cons pd_int ad_nil))) ad_nil))) ad_nil))) (ad_cons (pd_tup (ad_cons (pd_tup (ad_cons pd_bl ad_nil)) (ad_cons (pd_tup ad_nil) ad_nil))) ad_nil)))))))
  (sd_cons (sd_set 8 sc_law.nd (pd_catQ (pd_var 8) (pd_lst (ad_cons (pd_tup (ad_cons (pd_tup (ad_cons pd_int (ad_cons pd_int ad_nil))) (ad_cons (pd_tup (ad_cons (pd_tup (ad_cons pd_int (ad_cons pd_int ad_nil))) ad_nil)) ad_nil))) (ad_cons (pd_tup (ad_cons (pd_tup (ad_cons pd_int (ad_cons pd_int ad_nil))) (ad_cons (pd_tup (ad_cons (pd_tup (ad_cons pd_int (ad_cons pd_bl ad_nil))) ad_nil)) ad_nil))) ad_nil)))))
  (sd_cons (sd_trunc (sd_if (pb_ne (hu_of hr) (pd_callG (ok__law_refused Z) (hr.mono (by omega)) Z.m__law_refused Z.F__law_refused.kp (b__law_refused Z) (fun σ => passAt (takes_of rfl rfl rfl rfl) σ) (ad_cons (pd_fnsIx (pd_works (ok__law_works Z) (hr.mono (by omega)) Z.m__law_works Z.F__law_works.kp (b__law_works Z) (fun σ => passAt (takes_of rfl rfl rfl rfl) σ) (ad_cons (pd_var 2) (ad_cons (pd_callR (ok__law_pick Z) (hr.mono (by omega)) Z.m__law_pick Z.F__law_pick.kp (b__law_pick Z) (fun σ => passAt (takes_of rfl rfl rfl rfl) σ) (pd_var 1) (ad_cons (pd_catQ (pd_var 8) (pd_lst (ad_cons (pd_tup (ad_cons (pd_tup (ad_cons pd_int (ad_cons pd_int ad_nil))) (ad_cons (pd_tup (ad_cons (pd_tup (ad_cons pd_int ad_nil)) ad_nil)) ad_nil))) (ad_cons pd_dct0 ad_nil)))) ad_nil)) ad_nil))) pd_int) ad_nil)) pd_str) (sd_one (sd_ret pd_bl)) sd_nil))
  (sd_cons (sd_trunc (sd_set 9 sc_law.nd (pd_callR (ok__law_pick Z) (hr.mono (by omega)) Z.m__law_pick Z.F__law_pick.kp (b__law_pick Z) (fun σ => passAt (takes_of rfl rfl rfl rfl) σ) (pd_var 1) (ad_cons (pd_lst (ad_cons pd_non (ad_cons pd_bl (ad_cons (pd_sub pd_int pd_int) (ad_cons (pd_add (pd_pow pd_int pd_int) pd_int) (ad_cons pd_str (ad_cons (pd_tup (ad_cons pd_int ad_nil)) ad_nil))))))) ad_nil))))
  (sd_cons (sd_trunc (sd_if (pb_ne (hu_of hr) (pd_lcR ([("_law_work", 20)] : List (Str × Nat)) rfl sc_law.nd (id_fns (pd_fnsCut (pd_works (ok__law_works Z) (hr.mono (by omega)) Z.m__law_works Z.F__law_works.kp (b__law_works Z) (fun σ => passAt (takes_of rfl rfl rfl rfl) σ) (ad_cons (pd_var 2) (ad_cons (pd_var 9) ad_nil))) (od_some pd_int) (od_some pd_int))) (blk_of (by rfl)) (fun z => (gd_name 20 sc_law.nd)) (fun z => ts_nil) (fun z => (pd_callG (ok__law_refused Z) (hr.mono (by omega)) Z.m__law_refused Z.F__law_refused.kp (b__law_refused Z) hx0 (ad_cons (pd_var 20) ad_nil)))) (pd_rep (pd_lst (ad_cons pd_str ad_nil)) pd_int)) (sd_one (sd_ret pd_bl)) sd_nil))
  (sd_cons (sd_trunc (sd_set 10 sc_law.nd (pd_callR (ok__law_pick Z) (hr.mono (by omega)) Z.m__law_pick Z.F__law_pick.kp (b__law_pick Z) (fun σ => passAt (takes_of rfl rfl rfl rfl) σ) (pd_var 1) (ad_cons (pd_lst (ad_cons pd_non (ad_cons (pd_tup ad_nil) (ad_cons (pd_frz (pd_lst (ad_cons pd_int ad_nil))) (ad_cons (pd_tup (ad_cons pd_int ad_nil)) (ad_cons (pd_tup (ad_cons pd_bl ad_nil)) (ad_cons (pd_tup (ad_cons (pd_sub pd_int pd_int) ad_nil)) (ad_cons (pd_tup (ad_cons pd_str ad_nil)) (ad_cons (pd_repT (pd_tup (ad_cons pd_int ad_nil)) pd_int) (ad_cons pd_dct0 (ad_cons (pd_tup (ad_cons pd_int ad_nil)) (ad_cons (pd_tup (ad_cons pd_int (ad_cons pd_int (ad_cons pd_int (ad_cons pd_int (ad_cons pd_int ad_nil)))))) ad_nil)))))))))))) ad_nil))))
  (sd_cons (sd_trunc (sd_if (pb_ne (hu_of hr) (pd_lcR ([("_law_work", 20)] : List (Str × Nat)) rfl sc_law.nd (id_fns (pd_fnsCut (pd_works (ok__law_works Z) (hr.mono (by omega)) Z.m__law_works Z.F__law_works.kp (b__law_works Z) (fun σ => passAt (takes_of rfl rfl rfl rfl) σ) (ad_cons (pd_tup (ad_cons pd_int (ad_cons pd_int (ad_cons pd_int (ad_cons pd_int (ad_cons pd_int (ad_cons (pd_tup ad_nil) (ad_cons pd_int ad_nil)))))))) (ad_cons (pd_var 10) ad_nil))) (od_some pd_int) (od_some pd_int))) (blk_of (by rfl)) (fun z => (gd_name 20 sc_law.nd)) (fun z => ts_nil) (fun z => (pd_callG (ok__law_refused Z) (hr.mono (by omega)) Z.m__law_refused Z.F__law_refused.kp (b__law_refused Z) hx0 (ad_cons (pd_var 20) ad_nil)))) (pd_rep (pd_lst (ad_cons pd_str ad_nil)) pd_int)) (sd_one (sd_ret pd_bl)) sd_nil))
  (sd_cons (sd_trunc (sd_set 11 sc_law.nd (pd_callR (ok__law_pick Z) (hr.mono (by omega)) Z.m__law_pick Z.F__law_pick.kp (b__law_pick Z) (fun σ => passAt (takes_of rfl rfl rfl rfl) σ) (pd_var 1) (ad_cons (pd_lst (ad_cons pd_non (ad_cons (pd_tup ad_nil) (ad_cons (pd_frz (pd_lst (ad_cons pd_int ad_nil))) (ad_cons (pd_tup (ad_cons pd_int ad_nil)) (ad_cons (pd_tup (ad_cons pd_int (ad_cons pd_int ad_nil))) (ad_cons (pd_tup (ad_cons pd_int (ad_cons pd_int ad_nil))) (ad_cons (pd_tup (ad_cons pd_bl ad_nil)) (ad_cons (pd_tup (ad_cons (pd_sub pd_int pd_int) ad_nil)) (ad_cons pd_dct0 ad_nil)))))))))) ad_nil))))
  (sd_cons (sd_trunc (sd_if (pb_ne (hu_of hr) (pd_callG (ok__law_refused Z) (hr.mono (by omega)) Z.m__law_refused Z.F__law_refused.kp (b__law_refused Z) (fun σ => passAt (takes_of rfl rfl rfl rfl) σ) (ad_cons (pd_fnsIx (pd_works (ok__law_works Z) (hr.mono (by omega)) Z.m__law_works Z.F__law_works.kp (b__law_works Z) (fun σ => passAt (takes_of rfl rfl rfl rfl) σ) (ad_cons (pd_var 2) (ad_cons (pd_var 11) ad_nil))) pd_int) ad_nil)) pd_str) (sd_one (sd_ret pd_bl)) sd_nil))
  (sd_cons (sd_trunc (sd_par 12 13 rfl sc_law.nd (ad_cons (pd_tup (ad_cons pd_non (ad_cons pd_non (ad_cons (pd_tup (ad_cons pd_int (ad_cons pd_int ad_nil))) (ad_cons (pd_tup (ad_cons pd_int (ad_cons pd_int ad_nil))) ad_nil))))) (ad_cons (pd_callR (ok__law_taken Z) (hr.mono (by omega)) Z.m__law_taken Z.F__law_taken.kp (b__law_taken Z) (fun σ => passAt (takes_of rfl rfl rfl rfl) σ) (pd_var 1) (ad_cons pd_int ad_nil)) ad_nil))))
  (sd_cons (sd_set 14 sc_law.nd (pd_lst (ad_cons pd_non (ad_cons (pd_tup ad_nil) (ad_cons (pd_slice (pd_var 12) od_none (od_some pd_int)) (ad_cons (pd_add (pd_var 12) (pd_tup (ad_cons pd_non ad_nil))) (ad_cons (pd_repT (pd_tup (ad_cons (pd_tup (ad_cons pd_int (ad_cons pd_int ad_nil))) ad_nil)) pd_int) (ad_cons (pd_repT (pd_tup (ad_cons (pd_tup (ad_cons pd_int (ad_cons pd_int ad_nil))) ad_nil)) pd_int) (ad_cons (pd_repT (pd_tup (ad_cons (pd_tup (ad_cons pd_int ad_nil)) ad_nil)) pd_int) (ad_cons (pd_repT (pd_tup (ad_cons (pd_tup (ad_cons pd_bl (ad_cons pd_int ad_nil))) ad_nil)) pd_int) ad_nil))))))))))
  (sd_cons (sd_trunc (sd_expr (pd_append (pd_var 14) (pd_frz (pd_rep (pd_lst (ad_cons pd_non ad_nil)) pd_int)))))
  (sd_cons (sd_trunc (sd_set 15 sc_law.nd (pd_tup (ad_cons (pd_add (pd_add (pd_slice (pd_tup (ad_cons (pd_var 12) (ad_cons (pd_var 12) ad_nil))) od_none (od_some (pd_var 13))) (pd_tup (ad_cons (pd_callR (ok__law_pick Z) (hr.mono (by omega)) Z.m__law_pick Z.F__law_pick.kp (b__law_pick Z) (fun σ => passAt (takes_of rfl rfl rfl rfl) σ) (pd_var 1) (ad_cons (pd_var 14) ad_nil)) ad_nil))) (pd_slice (pd_tup (ad_cons (pd_var 12) (ad_cons (pd_var 12) ad_nil))) (od_some (pd_add (pd_var 13) pd_int)) od_none)) (ad_cons (pd_var 13) ad_nil)))))
  (sd_cons (sd_trunc (sd_asg (pd_callR (ok__law_pick Z) (hr.mono (by omega)) Z.m__law_pick Z.F__law_pick.kp (b__law_pick Z) (fun σ => passAt (takes_of rfl rfl rfl rfl) σ) (pd_var 1) (ad_cons (pd_catQ (pd_lst (ad_cons (pd_tup (ad_cons pd_non (ad_cons pd_non ad_nil))) (ad_cons (pd_tup (ad_cons (pd_tup ad_nil) (ad_cons pd_non ad_nil))) (ad_cons (pd_tup (ad_cons (pd_frz (pd_lst (ad_cons (pd_var 12) ad_nil))) (ad_cons pd_non ad_nil))) ad_nil)))) (pd_rep (pd_lst (ad_cons (pd_var 15) ad_nil)) pd_int)) ad_nil)) (gd_tup rfl (gsd_cons (gd_name 16 sc_law.nd) (gsd_cons (gd_name 17 sc_law.nd) gsd_nil)))))
  (sd_cons (sd_trunc (sd_if (pb_ne (hu_of hr) (pd_callG (ok__law_refused Z) (hr.mono (by omega)) Z.m__law_refused Z.F__law_refused.kp (b__law_refused Z) (fun σ => passAt (takes_of rfl rfl rfl rfl) σ) (ad_cons (pd_fnsIx (pd_works (ok__law_works Z) (hr.mono (by omega)) Z.m__law_works Z.F__law_works.kp (b__law_works Z) (fun σ => passAt (takes_of rfl rfl rfl rfl) σ) (ad_cons (pd_var 2) (ad_cons (pd_var 16) ad_nil))) pd_int) ad_nil)) (pd_tup (ad_cons pd_str (ad_cons (pd_var 17) ad_nil)))) (sd_one (sd_ret pd_bl)) sd_nil))
  (sd_cons (sd_trunc (sd_asg (pd_tup (ad_cons (pd_tup (ad_cons pd_int (ad_cons pd_int (ad_cons pd_int (ad_cons pd_int (ad_cons pd_int (ad_cons (pd_tup ad_nil) (ad_cons pd_int ad_nil)))))))) (ad_cons (pd_tup (ad_cons pd_int (ad_cons pd_int (ad_cons pd_int (ad_cons pd_int (ad_cons pd_int (ad_cons (pd_tup ad_nil) (ad_cons pd_int ad_nil)))))))) ad_nil))) (gd_tup rfl (gsd_cons (gd_name 18 sc_law.nd) (gsd_cons (gd_name 19 sc_law.nd) gsd_nil)))))
  (sd_one (sd_ret (pd_eq (hu_of hr) (pd_lst (ad_cons (pd_callG (ok__law_refused Z) (hr.mono (by omega)) Z.m__law_refused Z.F__law_refused.kp (b__law_refused Z) (fun σ => passAt (takes_of rfl rfl rfl rfl) σ) (ad_cons (pd_fnsIx (pd_works (ok__law_works Z) (hr.mono (by omega)) Z.m__law_works Z.F__law_works.kp (b__law_works Z) (fun σ => passAt (takes_of rfl rfl rfl rfl) σ) (ad_cons (pd_var 18) (ad_cons pd_non ad_nil))) pd_int) ad_nil)) (ad_cons (pd_callG (ok__law_refused Z) (hr.mono (by omega)) Z.m__law_refused Z.F__law_refused.kp (b__law_refused Z) (fun σ => passAt (takes_of rfl rfl rfl rfl) σ) (ad_cons (pd_fnsIx (pd_works (ok__law_works Z) (hr.mono (by omega)) Z.m__law_works Z.F__law_works.kp (b__law_works Z) (fun σ => passAt (takes_of rfl rfl rfl rfl) σ) (ad_cons (pd_var 19) (ad_cons pd_non ad_nil))) pd_int) ad_nil)) ad_nil))) (pd_lst (ad_cons pd_str (ad_cons (pd_tup (ad_cons pd_str (ad_cons pd_int ad_nil))) ad_nil)))))))))))))))))))))))))))))))))) : PSsD _ TT _ _ G_law)
end
end Pd

namespace Pd
open PySem PySem.Spec PyProof.Rows L2
/-! ## the draws -/
structure Rw where
  ns : List Int
  p : Int
  s : Int
  r : Int
def Rw.l (w : Rw) : List PyData := [.list (w.ns.map PyData.int), .int w.p, .int w.s, .int w.r]
theorem dats4 (w : Rw) : dats [Rv.dat (PyData.list (List.map PyData.int w.ns)), Rv.dat (PyData.int w.p), Rv.dat (PyData.int w.s), Rv.dat (PyData.int w.r)] = some w.l := rfl
theorem taken_ok (w : Rw) (hp : 0 ≤ w.p) (m : Int) (h0 : 0 < m) (h1 : m < 1073741824) : ∃ (v : Int) (w' : Rw), F__law_taken w.l [.int m] = .ok (.int v) w'.l ∧ 0 ≤ v ∧ v < m ∧ 0 ≤ w'.p := by
  obtain ⟨ns, p, s, r⟩ := w
  simp only at hp
  by_cases hr : 0 < r
  · refine ⟨r % m, ⟨ns, p, s, r / m⟩, ?_, Int.emod_nonneg _ (by omega), Int.emod_lt_of_pos _ h0, hp⟩
    simp [F__law_taken, G__law_taken, Rw.l, -List.map_map, -List.map_take, runR, runD, sq, bnd, fB, f2, fVar, fC, ret, app2, app1, peek, ixG, atI, ixN, cmpG, toB, dats, dats_map, slots0, List.replicate, fN, fCons, fNil, appN, peeks, intG, modG, divG, asg, setM, setIx, frz, rowOf, addG, addI, subG, mul_c, powG, lenG, fCallR, frzAll, callRM, fCall, callM, fAnd, fOr, fNot, vAnd, vOr, vNot, fCh, isiG, tyN, fTup, tupM, fLst, lstM, newL, fL, appL, lstG, tupG, maxG, tupleG, gCn, gNl, cutM, toI, negM, par2, tupI, rng1I, rng2I, q_int, q_bool, q_nint, q_nbool, kb_ii, kb_ib, kb_bi, kb_bb, kb_ni, kb_nb, kb_si, kb_sb, k_nt, k_nl, k_ns, k_bt, k_bl, k_bs, k_it, k_il, k_is, k_st, k_sl, k_ss, k_tt, k_tl, k_ts, k_ti, k_tb, k_lt, k_ll, k_ls, k_li, k_lb, hr, h0, h1]
  · by_cases hl : (ns.length : Int) < p + 1
    · refine ⟨((s * 48271 + 11) % 2147483647 / 7) % m, ⟨ns, p + 1, (s * 48271 + 11) % 2147483647, r⟩, ?_, Int.emod_nonneg _ (by omega), Int.emod_lt_of_pos _ h0, by show 0 ≤ p + 1; omega⟩
      simp [F__law_taken, G__law_taken, Rw.l, -List.map_map, -List.map_take, runR, runD, sq, bnd, fB, f2, fVar, fC, ret, app2, app1, peek, ixG, atI, ixN, cmpG, toB, dats, dats_map, slots0, List.replicate, fN, fCons, fNil, appN, peeks, intG, modG, divG, asg, setM, setIx, frz, rowOf, addG, addI, subG, mul_c, powG, lenG, fCallR, frzAll, callRM, fCall, callM, fAnd, fOr, fNot, vAnd, vOr, vNot, fCh, isiG, tyN, fTup, tupM, fLst, lstM, newL, fL, appL, lstG, tupG, maxG, tupleG, gCn, gNl, cutM, toI, negM, par2, tupI, rng1I, rng2I, q_int, q_bool, q_nint, q_nbool, kb_ii, kb_ib, kb_bi, kb_bb, kb_ni, kb_nb, kb_si, kb_sb, k_nt, k_nl, k_ns, k_bt, k_bl, k_bs, k_it, k_il, k_is, k_st, k_sl, k_ss, k_tt, k_tl, k_ts, k_ti, k_tb, k_lt, k_ll, k_ls, k_li, k_lb, hr, h0, h1, hl]
    · obtain ⟨q, rfl⟩ := Int.eq_ofNat_of_zero_le hp
      have hq : q < ns.length := by omega
      have e1 : (0 : Int) ≤ (q : Int) := by omega
      have e2 : (q : Int) < (ns.length : Int) := by omega
      by_cases hc : 1000000000000000000 ≤ ns[q]
      · refine ⟨ns[q] % m, ⟨ns, q + 1, (s * 48271 + ns[q] + 11) % 2147483647, ns[q] / m⟩, ?_, Int.emod_nonneg _ (by omega), Int.emod_lt_of_pos _ h0, by show 0 ≤ (q : Int) + 1; omega⟩
        simp [F__law_taken, G__law_taken, Rw.l, -List.map_map, -List.map_take, runR, runD, sq, bnd, fB, f2, fVar, fC, ret, app2, app1, peek, ixG, atI, ixN, cmpG, toB, dats, dats_map, slots0, List.replicate, fN, fCons, fNil, appN, peeks, intG, modG, divG, asg, setM, setIx, frz, rowOf, addG, addI, subG, mul_c, powG, lenG, fCallR, frzAll, callRM, fCall, callM, fAnd, fOr, fNot, vAnd, vOr, vNot, fCh, isiG, tyN, fTup, tupM, fLst, lstM, newL, fL, appL, lstG, tupG, maxG, tupleG, gCn, gNl, cutM, toI, negM, par2, tupI, rng1I, rng2I, q_int, q_bool, q_nint, q_nbool, kb_ii, kb_ib, kb_bi, kb_bb, kb_ni, kb_nb, kb_si, kb_sb, k_nt, k_nl, k_ns, k_bt, k_bl, k_bs, k_it, k_il, k_is, k_st, k_sl, k_ss, k_tt, k_tl, k_ts, k_ti, k_tb, k_lt, k_ll, k_ls, k_li, k_lb, hr, h0, h1, hl, Int.add_sub_cancel, hq, hc]
      · refine ⟨ns[q] % m, ⟨ns, q + 1, (s * 48271 + ns[q] + 11) % 2147483647, r⟩, ?_, Int.emod_nonneg _ (by omega), Int.emod_lt_of_pos _ h0, by show 0 ≤ (q : Int) + 1; omega⟩
        simp [F__law_taken, G__law_taken, Rw.l, -List.map_map, -List.map_take, runR, runD, sq, bnd, fB, f2, fVar, fC, ret, app2, app1, peek, ixG, atI, ixN, cmpG, toB, dats, dats_map, slots0, List.replicate, fN, fCons, fNil, appN, peeks, intG, modG, divG, asg, setM, setIx, frz, rowOf, addG, addI, subG, mul_c, powG, lenG, fCallR, frzAll, callRM, fCall, callM, fAnd, fOr, fNot, vAnd, vOr, vNot, fCh, isiG, tyN, fTup, tupM, fLst, lstM, newL, fL, appL, lstG, tupG, maxG, tupleG, gCn, gNl, cutM, toI, negM, par2, tupI, rng1I, rng2I, q_int, q_bool, q_nint, q_nbool, kb_ii, kb_ib, kb_bi, kb_bb, kb_ni, kb_nb, kb_si, kb_sb, k_nt, k_nl, k_ns, k_bt, k_bl, k_bs, k_it, k_il, k_is, k_st, k_sl, k_ss, k_tt, k_tl, k_ts, k_ti, k_tb, k_lt, k_ll, k_ls, k_li, k_lb, hr, h0, h1, hl, Int.add_sub_cancel, hq, hc]
theorem at_list {l : List PyData} {q : Nat} (h : q < l.length) : ixG (.list l) (.int (q : Int)) = some l[q] := by
  have h2 : (q : Int) < (l.length : Int) := by omega
  simp [ixG, atI, ixN, h, h2]
theorem pick_ok (w : Rw) (hp : 0 ≤ w.p) (l : List PyData) (h0 : 0 < l.length) (h1 : l.length < 1000) : ∃ (v : PyData) (w' : Rw), F__law_pick w.l [.list l] = .ok v w'.l ∧ v ∈ l ∧ 0 ≤ w'.p := by
  obtain ⟨v, w', e, g0, g1, g2⟩ := taken_ok w hp (l.length : Int) (by omega) (by omega)
  obtain ⟨q, rfl⟩ := Int.eq_ofNat_of_zero_le g0
  have hq : q < l.length := by omega
  refine ⟨l[q], w', ?_, List.getElem_mem hq, g2⟩
  have e2 : ixG (.list l) (.int (q : Int)) = some l[q] := at_list hq
  refine runR_ok rfl (e := ⟨[some (.own 0), some (.dat (.list l))], [.lst (w'.l.map Rv.dat)]⟩) ?_ (by simp [rowOf, dats_map, -List.map_map])
  unfold G__law_pick
  refine bnd_to (.dat l[q]) _ ?_ rfl
  unfold f2
  refine bnd_to (.dat (.list l)) _ rfl ?_
  refine bnd_to (.dat (.int (q : Int))) ⟨[some (.own 0), some (.dat (.list l))], [.lst (w'.l.map Rv.dat)]⟩ (by simp [-List.map_map, -List.map_take, runR, runD, sq, bnd, fB, f2, fVar, fC, ret, app2, app1, peek, ixG, atI, ixN, cmpG, toB, dats, dats_map, slots0, List.replicate, fN, fCons, fNil, appN, peeks, intG, modG, divG, asg, setM, setIx, frz, rowOf, addG, addI, subG, mul_c, powG, lenG, fCallR, frzAll, callRM, fCall, callM, fAnd, fOr, fNot, vAnd, vOr, vNot, fCh, isiG, tyN, fTup, tupM, fLst, lstM, newL, fL, appL, lstG, tupG, maxG, tupleG, gCn, gNl, cutM, toI, negM, par2, tupI, rng1I, rng2I, q_int, q_bool, q_nint, q_nbool, kb_ii, kb_ib, kb_bi, kb_bb, kb_ni, kb_nb, kb_si, kb_sb, k_nt, k_nl, k_ns, k_bt, k_bl, k_bs, k_it, k_il, k_is, k_st, k_sl, k_ss, k_tt, k_tl, k_ts, k_ti, k_tb, k_lt, k_ll, k_ls, k_li, k_lb, e]) ?_
  simp [app2, peek, e2]
theorem pick_step {P : (List PyData → List PyData → RRes) → M Fl} {s : En} {w : Rw} {T : List PyData} (hp : 0 ≤ w.p) (h0 : 0 < T.length) (h1 : T.length < 1000) (hs : ∀ pk, P pk s = P (fun _ _ => pk w.l [.list T]) s) :
    ∃ (v : PyData) (w2 : Rw), 0 ≤ w2.p ∧ v ∈ T ∧ P F__law_pick s = P (fun _ _ => .ok v w2.l) s := by
  obtain ⟨v, w2, e, h2, h3⟩ := pick_ok w hp T h0 h1
  exact ⟨v, w2, h3, h2, by rw [hs F__law_pick, e]⟩
def outE (o : Out Fl) : En := match o with
  | .ok _ e => e
  | _ => ⟨[], []⟩
/-! ## the states -/
structure D where
  sc : PyData
  t : PyData
  b : PyData
  wd : PyData
  h : PyData
  r : PyData
  th : PyData
  i : PyData
  tb : PyData
  va : PyData
  sp : PyData
def nxE (o : Out Fl) : En := match o with
  | .ok .nx e => e
  | _ => ⟨[], []⟩
def setSl (k : Nat) (v : PyData) (s : En) : En := { s with sl := s.sl.set k (some (.dat v)) }
def okP (v : PyData) (w : Rw) : List PyData → List PyData → RRes := fun _ _ => .ok v w.l
def T8 : List PyData := [.none, (.list [(.int 4), (.int 1), (.int 3), (.int 1), (.int 2), (.tuple [(.int (-1)), (.int 1)]), (.int 3)]), (.tuple [(.int 4), (.int 1), (.int 3), (.int 1), (.int 2), (.tuple [(.int (-1)), (.int 1)])]), (.tuple [(.int 4), (.int 1), (.int 3), (.int 1), (.int 2), (.tuple [(.int (-1)), (.int 1)]), (.int 3), (.int 1)]), (.dict []), (.str "almanac")]
def STO : List PyData := [.none, (.tuple [(.tuple [(.int 0)])]), (.tuple [(.tuple []), (.tuple [])]), (.tuple [(.tuple [(.int 1)]), (.tuple [])]), (.tuple [(.tuple [(.int 0), (.int 3)]), (.tuple [])]), (.tuple [(.tuple [(.int 0), (.int 1), (.int 1)]), (.tuple [])]), (.tuple [(.list [(.int 0)]), (.tuple [])]), (.tuple [(.tuple [(.int 0)]), (.list [])]), (.tuple [(.tuple [(.int 0), (.int 2)]), (.tuple [(.tuple [(.int 1), (.int 2)])])]), (.tuple [(.tuple [(.int 0), (.int 2)]), (.tuple [(.tuple [(.int 3), (.int 1)])])]), (.tuple [(.tuple [(.int 0), (.int 2)]), (.tuple [(.tuple [(.int 1), (.int 1)]), (.tuple [(.int 2), (.int 1)])])]), (.tuple [(.tuple [(.bool false)]), (.tuple [])]), (.tuple [(.tuple [(.int 0), (.int 2)]), (.tuple [(.tuple [(.int 0), (.int 1)])])]), (.tuple [(.tuple [(.int 0), (.int 2)]), (.tuple [(.tuple [(.int 1), (.bool true)])])]), (.tuple [(.tuple [(.int 0), (.int 2)]), (.tuple [(.tuple [(.int 1)])])]), (.dict [])]
def HOU : List PyData := [.none, (.bool true), (.int (-1)), (.int 1000000001), (.str "1"), (.tuple [(.int 1)])]
def ROWS : List PyData := [.none, (.tuple []), (.list [(.int 0)]), (.tuple [(.int 4)]), (.tuple [(.bool true)]), (.tuple [(.int (-1))]), (.tuple [(.str "0")]), (.tuple [(.int 0), (.int 0), (.int 0), (.int 0), (.int 0), (.int 0), (.int 0), (.int 0), (.int 0), (.int 0), (.int 0), (.int 0), (.int 0), (.int 0), (.int 0), (.int 0), (.int 0), (.int 0), (.int 0), (.int 0), (.int 0), (.int 0), (.int 0), (.int 0), (.int 0), (.int 0), (.int 0), (.int 0), (.int 0), (.int 0), (.int 0), (.int 0), (.int 0), (.int 0), (.int 0), (.int 0), (.int 0), (.int 0), (.int 0), (.int 0), (.int 0), (.int 0), (.int 0), (.int 0), (.int 0), (.int 0), (.int 0), (.int 0), (.int 0), (.int 0), (.int 0), (.int 0), (.int 0), (.int 0), (.int 0), (.int 0), (.int 0), (.int 0), (.int 0), (.int 0), (.int 0)]), (.dict []), (.tuple [(.int 1)]), (.tuple [(.int 0), (.int 3), (.int 0), (.int 0), (.int 0)])]
def THU : List PyData := [.none, (.tuple []), (.list [(.int 0)]), (.tuple [(.int 4)]), (.tuple [(.int 1), (.int 0)]), (.tuple [(.int 0), (.int 0)]), (.tuple [(.bool true)]), (.tuple [(.int (-1))]), (.dict [])]
def ODD : List PyData := [.none, (.tuple []), (.tuple [.none, .none, (.tuple [(.int 0), (.int 0)])]), (.tuple [.none, .none, (.tuple [(.int 0), (.int 0)]), (.tuple [(.int 1), (.int 1)]), .none]), (.tuple [(.tuple [(.int 2), (.int 0)]), (.tuple [(.int 2), (.int 0)]), (.tuple [(.int 2), (.int 0)]), (.tuple [(.int 2), (.int 0)])]), (.tuple [(.tuple [(.int 0), (.int 31)]), (.tuple [(.int 0), (.int 31)]), (.tuple [(.int 0), (.int 31)]), (.tuple [(.int 0), (.int 31)])]), (.tuple [(.tuple [(.int 0)]), (.tuple [(.int 0)]), (.tuple [(.int 0)]), (.tuple [(.int 0)])]), (.tuple [(.tuple [(.bool true), (.int 0)]), (.tuple [(.bool true), (.int 0)]), (.tuple [(.bool true), (.int 0)]), (.tuple [(.bool true), (.int 0)])]), (.list [.none, .none, .none, .none])]
def LOT0 : List PyData := [(.int 1), (.int 13), .none, (.bool true), (.str "4")]
def LOT1 : List PyData := [(.int (-1)), (.int 4), .none, (.bool true)]
def LOT2 : List PyData := [(.int 0), (.int 5), .none, (.bool true)]
def LOT3 : List PyData := [(.int 0), (.int 25), .none, (.bool true)]
def LOT4 : List PyData := [(.int 0), (.int 25), .none, (.bool true)]
def LOT5 : List PyData := [.none, (.list [(.int 1)]), (.tuple [(.int 0)]), (.tuple [(.int 4)]), (.tuple [(.int 1), (.int (-1))]), (.tuple [(.int 1), (.int 1)]), (.tuple [(.bool true)]), (.tuple [(.int 1), (.int 2), (.int 3), (.int (-1)), (.int (-2))]), (.dict []), (.tuple [(.str "1")])]
def LOT6 : List PyData := [(.int 0), (.int 13), .none, (.bool true), (.str "3")]
def TST : PyData := (.tuple [.none, .none, (.tuple [(.int 0), (.int 0)]), (.tuple [(.int 1), (.int 1)])])
def T25 (d : D) : List PyData := [.tuple [.none, .none], .tuple [.tuple [], .none], .tuple [.list [TST], .none], d.tb, d.tb, d.tb, d.tb]
noncomputable def s1 (d : D) (w : Rw) : En := ⟨some (.dat d.sc) :: some (.own 1) :: List.replicate 19 none, [.ltab, .lst (w.l.map Rv.dat)]⟩
noncomputable def s2 (d : D) (w : Rw) : En := nxE (G_law_1 (s1 d w))
noncomputable def s3 (d : D) (w : Rw) : En := nxE (G_law_2 (s2 d w))
noncomputable def s4 (d : D) (w : Rw) : En := nxE (G_law_3 (s3 d w))
noncomputable def s5 (d : D) (w : Rw) : En := nxE (G_law_4 (s4 d w))
noncomputable def s6 (d : D) (w : Rw) : En := nxE (G_law_5 (s5 d w))
noncomputable def s7 (d : D) (w : Rw) : En := nxE (G_law_6 (s6 d w))
noncomputable def s8 (d : D) (w : Rw) : En := nxE (P_law_7 (okP d.t w) (s7 d w))
noncomputable def s9 (d : D) (w : Rw) : En := nxE (P_law_8 (okP d.b w) (s8 d w))
noncomputable def s10 (d : D) (w : Rw) : En := setSl 7 d.wd (s9 d w)
noncomputable def s11 (d : D) (w : Rw) : En := s10 d w
noncomputable def s12 (d : D) (w : Rw) : En := nxE (G_law_11 (s11 d w))
noncomputable def s13 (d : D) (w : Rw) : En := nxE (G_law_12 (s12 d w))
noncomputable def s14 (d : D) (w : Rw) : En := nxE (G_law_13 (s13 d w))
noncomputable def s15 (d : D) (w : Rw) : En := s14 d w
noncomputable def s16 (d : D) (w : Rw) : En := nxE (P_law_15 (okP d.h w) (s15 d w))
noncomputable def s17 (d : D) (w : Rw) : En := s16 d w
noncomputable def s18 (d : D) (w : Rw) : En := nxE (P_law_17 (okP d.r w) (s17 d w))
noncomputable def s19 (d : D) (w : Rw) : En := s18 d w
noncomputable def s20 (d : D) (w : Rw) : En := nxE (P_law_19 (okP d.th w) (s19 d w))
noncomputable def s21 (d : D) (w : Rw) : En := s20 d w
noncomputable def s22 (d : D) (w : Rw) : En := nxE (P_law_21 (okP d.i w) (s21 d w))
noncomputable def s23 (d : D) (w : Rw) : En := nxE (G_law_22 (s22 d w))
noncomputable def s24 (d : D) (w : Rw) : En := nxE (G_law_23 (s23 d w))
noncomputable def s25 (d : D) (w : Rw) : En := setSl 13 d.i (setSl 15 d.tb (nxE (P_law_24 (okP .none w) (s24 { d with i := .int 0 } w))))
noncomputable def s26 (d : D) (w : Rw) : En := nxE (P_law_25 (okP (.tuple [d.va, d.sp]) w) (s25 d w))
noncomputable def s27 (d : D) (w : Rw) : En := s26 d w
noncomputable def s28 (d : D) (w : Rw) : En := nxE (G_law_27 (s27 d w))
/-! ## the plain statements -/
theorem p0 (ns : List Int) (d : D) : G_law_0 ⟨slotsG 21 [.dat (.list (ns.map PyData.int))], [.ltab]⟩ = .ok .nx (s1 { d with sc := .list (ns.map PyData.int) } ⟨ns, 0, 3002, 0⟩) := by kernel_rfl
theorem p1 (d : D) (w : Rw) : G_law_1 (s1 d w) = .ok .nx (s2 d w) := by kernel_rfl
theorem p2 (d : D) (w : Rw) : G_law_2 (s2 d w) = .ok .nx (s3 d w) := by kernel_rfl
theorem p3 (d : D) (w : Rw) : G_law_3 (s3 d w) = .ok .nx (s4 d w) := by kernel_rfl
theorem p4 (d : D) (w : Rw) : G_law_4 (s4 d w) = .ok .nx (s5 d w) := by kernel_rfl
theorem p5 (d : D) (w : Rw) : G_law_5 (s5 d w) = .ok .nx (s6 d w) := by kernel_rfl
theorem p6 (d : D) (w : Rw) : G_law_6 (s6 d w) = .ok .nx (s7 d w) := by kernel_rfl
theorem p11 (d : D) (w : Rw) : G_law_11 (s11 d w) = .ok .nx (s12 d w) := by kernel_rfl
theorem p12 (d : D) (w : Rw) : G_law_12 (s12 d w) = .ok .nx (s13 d w) := by kernel_rfl
theorem p13 (d : D) (w : Rw) : G_law_13 (s13 d w) = .ok .nx (s14 d w) := by kernel_rfl
theorem p22 (d : D) (w : Rw) : G_law_22 (s22 d w) = .ok .nx (s23 d w) := by kernel_rfl
theorem p23 (d : D) (w : Rw) : G_law_23 (s23 d w) = .ok .nx (s24 d w) := by kernel_rfl
theorem p27 (d : D) (w : Rw) : G_law_27 (s27 d w) = .ok .nx (s28 d w) := by kernel_rfl
/-! ## the draws -/
theorem p7 (d : D) (w : Rw) (hp : 0 ≤ w.p) : ∃ (w2 : Rw) (j : Nat), 0 ≤ w2.p ∧ j < 8 ∧ G_law_7 (s7 d w) = .ok .nx (s8 { d with t := .int (j : Int) } w2) := by
  obtain ⟨v, w2, h1, h2, h3, h4⟩ := taken_ok w hp 8 (by decide) (by decide)
  have sw : ∀ pk, P_law_7 pk (s7 d w) = P_law_7 (fun _ _ => pk w.l [.int 8]) (s7 d w) := fun pk => by kernel_rfl
  obtain ⟨j, rfl⟩ := Int.eq_ofNat_of_zero_le h2
  refine ⟨w2, j, h4, by omega, (sw F__law_taken).trans ?_⟩
  rw [h1]
  kernel_rfl
theorem b8 (d : D) (v : PyData) (w w2 : Rw) : P_law_8 (okP v w2) (s8 d w) = .ok .nx (s9 { d with b := v } w2) := by kernel_rfl
theorem p8 (d : D) (w : Rw) (hp : 0 ≤ w.p) : ∃ (v : PyData) (w2 : Rw), 0 ≤ w2.p ∧ v ∈ T8 ∧ G_law_8 (s8 d w) = .ok .nx (s9 { d with b := v } w2) := by
  obtain ⟨v, w2, h1, h2, h3⟩ := pick_step (P := P_law_8) (s := s8 d w) (w := w) (T := T8) hp (by decide) (by decide) (fun pk => by kernel_rfl)
  exact ⟨v, w2, h1, h2, h3.trans (b8 d v w w2)⟩
theorem b9_0 (sc h r th i tb va sp : PyData) (b v : PyData) (w w2 : Rw) : P_law_9 (okP v w2) (s9 ⟨sc, (.int 0), b, (.str "almanac"), h, r, th, i, tb, va, sp⟩ w) = .ok .nx (s10 ⟨sc, (.int 0), (.tuple [v, (.int 1), (.int 3), (.int 1), (.int 2), (.tuple [(.int (-1)), (.int 1)]), (.int 3)]), (.str "hours"), h, r, th, i, tb, va, sp⟩ w2) := by kernel_rfl
theorem q9_0 (sc h r th i tb va sp : PyData) (b : PyData) (w : Rw) (pk : List PyData → List PyData → RRes) : P_law_9 pk (s9 ⟨sc, (.int 0), b, (.str "almanac"), h, r, th, i, tb, va, sp⟩ w) = P_law_9 (fun _ _ => pk w.l [.list LOT0]) (s9 ⟨sc, (.int 0), b, (.str "almanac"), h, r, th, i, tb, va, sp⟩ w) := by kernel_rfl
theorem b9_1 (sc h r th i tb va sp : PyData) (b v : PyData) (w w2 : Rw) : P_law_9 (okP v w2) (s9 ⟨sc, (.int 1), b, (.str "almanac"), h, r, th, i, tb, va, sp⟩ w) = .ok .nx (s10 ⟨sc, (.int 1), (.tuple [(.int 4), v, (.int 3), (.int 1), (.int 2), (.tuple [(.int (-1)), (.int 1)]), (.int 3)]), (.str "first"), h, r, th, i, tb, va, sp⟩ w2) := by kernel_rfl
theorem q9_1 (sc h r th i tb va sp : PyData) (b : PyData) (w : Rw) (pk : List PyData → List PyData → RRes) : P_law_9 pk (s9 ⟨sc, (.int 1), b, (.str "almanac"), h, r, th, i, tb, va, sp⟩ w) = P_law_9 (fun _ _ => pk w.l [.list LOT1]) (s9 ⟨sc, (.int 1), b, (.str "almanac"), h, r, th, i, tb, va, sp⟩ w) := by kernel_rfl
theorem b9_2 (sc h r th i tb va sp : PyData) (b v : PyData) (w w2 : Rw) : P_law_9 (okP v w2) (s9 ⟨sc, (.int 2), b, (.str "almanac"), h, r, th, i, tb, va, sp⟩ w) = .ok .nx (s10 ⟨sc, (.int 2), (.tuple [(.int 4), (.int 1), v, (.int 1), (.int 2), (.tuple [(.int (-1)), (.int 1)]), (.int 3)]), (.str "last"), h, r, th, i, tb, va, sp⟩ w2) := by kernel_rfl
theorem q9_2 (sc h r th i tb va sp : PyData) (b : PyData) (w : Rw) (pk : List PyData → List PyData → RRes) : P_law_9 pk (s9 ⟨sc, (.int 2), b, (.str "almanac"), h, r, th, i, tb, va, sp⟩ w) = P_law_9 (fun _ _ => pk w.l [.list LOT2]) (s9 ⟨sc, (.int 2), b, (.str "almanac"), h, r, th, i, tb, va, sp⟩ w) := by kernel_rfl
theorem b9_3 (sc h r th i tb va sp : PyData) (b v : PyData) (w w2 : Rw) : P_law_9 (okP v w2) (s9 ⟨sc, (.int 3), b, (.str "almanac"), h, r, th, i, tb, va, sp⟩ w) = .ok .nx (s10 ⟨sc, (.int 3), (.tuple [(.int 4), (.int 1), (.int 3), v, (.int 2), (.tuple [(.int (-1)), (.int 1)]), (.int 3)]), (.str "soon"), h, r, th, i, tb, va, sp⟩ w2) := by kernel_rfl
theorem q9_3 (sc h r th i tb va sp : PyData) (b : PyData) (w : Rw) (pk : List PyData → List PyData → RRes) : P_law_9 pk (s9 ⟨sc, (.int 3), b, (.str "almanac"), h, r, th, i, tb, va, sp⟩ w) = P_law_9 (fun _ _ => pk w.l [.list LOT3]) (s9 ⟨sc, (.int 3), b, (.str "almanac"), h, r, th, i, tb, va, sp⟩ w) := by kernel_rfl
theorem b9_4 (sc h r th i tb va sp : PyData) (b v : PyData) (w w2 : Rw) : P_law_9 (okP v w2) (s9 ⟨sc, (.int 4), b, (.str "almanac"), h, r, th, i, tb, va, sp⟩ w) = .ok .nx (s10 ⟨sc, (.int 4), (.tuple [(.int 4), (.int 1), (.int 3), (.int 1), v, (.tuple [(.int (-1)), (.int 1)]), (.int 3)]), (.str "late"), h, r, th, i, tb, va, sp⟩ w2) := by kernel_rfl
theorem q9_4 (sc h r th i tb va sp : PyData) (b : PyData) (w : Rw) (pk : List PyData → List PyData → RRes) : P_law_9 pk (s9 ⟨sc, (.int 4), b, (.str "almanac"), h, r, th, i, tb, va, sp⟩ w) = P_law_9 (fun _ _ => pk w.l [.list LOT4]) (s9 ⟨sc, (.int 4), b, (.str "almanac"), h, r, th, i, tb, va, sp⟩ w) := by kernel_rfl
theorem b9_5 (sc h r th i tb va sp : PyData) (b v : PyData) (w w2 : Rw) : P_law_9 (okP v w2) (s9 ⟨sc, (.int 5), b, (.str "almanac"), h, r, th, i, tb, va, sp⟩ w) = .ok .nx (s10 ⟨sc, (.int 5), (.tuple [(.int 4), (.int 1), (.int 3), (.int 1), (.int 2), v, (.int 3)]), (.str "settings"), h, r, th, i, tb, va, sp⟩ w2) := by kernel_rfl
theorem q9_5 (sc h r th i tb va sp : PyData) (b : PyData) (w : Rw) (pk : List PyData → List PyData → RRes) : P_law_9 pk (s9 ⟨sc, (.int 5), b, (.str "almanac"), h, r, th, i, tb, va, sp⟩ w) = P_law_9 (fun _ _ => pk w.l [.list LOT5]) (s9 ⟨sc, (.int 5), b, (.str "almanac"), h, r, th, i, tb, va, sp⟩ w) := by kernel_rfl
theorem b9_6 (sc h r th i tb va sp : PyData) (b v : PyData) (w w2 : Rw) : P_law_9 (okP v w2) (s9 ⟨sc, (.int 6), b, (.str "almanac"), h, r, th, i, tb, va, sp⟩ w) = .ok .nx (s10 ⟨sc, (.int 6), (.tuple [(.int 4), (.int 1), (.int 3), (.int 1), (.int 2), (.tuple [(.int (-1)), (.int 1)]), v]), (.str "rest"), h, r, th, i, tb, va, sp⟩ w2) := by kernel_rfl
theorem q9_6 (sc h r th i tb va sp : PyData) (b : PyData) (w : Rw) (pk : List PyData → List PyData → RRes) : P_law_9 pk (s9 ⟨sc, (.int 6), b, (.str "almanac"), h, r, th, i, tb, va, sp⟩ w) = P_law_9 (fun _ _ => pk w.l [.list LOT6]) (s9 ⟨sc, (.int 6), b, (.str "almanac"), h, r, th, i, tb, va, sp⟩ w) := by kernel_rfl
theorem b9_7 (sc b h r th i tb va sp : PyData) (w : Rw) : G_law_9 (s9 ⟨sc, (.int 7), b, (.str "almanac"), h, r, th, i, tb, va, sp⟩ w) = .ok .nx (s10 ⟨sc, (.int 7), b, (.str "almanac"), h, r, th, i, tb, va, sp⟩ w) := by kernel_rfl
def Bent (d : D) : Prop := (d.wd = .str "almanac" ∧ d.b ∈ T8) ∨ (∃ v ∈ LOT0, d.b = (.tuple [v, (.int 1), (.int 3), (.int 1), (.int 2), (.tuple [(.int (-1)), (.int 1)]), (.int 3)]) ∧ d.wd = .str "hours") ∨ (∃ v ∈ LOT1, d.b = (.tuple [(.int 4), v, (.int 3), (.int 1), (.int 2), (.tuple [(.int (-1)), (.int 1)]), (.int 3)]) ∧ d.wd = .str "first") ∨ (∃ v ∈ LOT2, d.b = (.tuple [(.int 4), (.int 1), v, (.int 1), (.int 2), (.tuple [(.int (-1)), (.int 1)]), (.int 3)]) ∧ d.wd = .str "last") ∨ (∃ v ∈ LOT3, d.b = (.tuple [(.int 4), (.int 1), (.int 3), v, (.int 2), (.tuple [(.int (-1)), (.int 1)]), (.int 3)]) ∧ d.wd = .str "soon") ∨ (∃ v ∈ LOT4, d.b = (.tuple [(.int 4), (.int 1), (.int 3), (.int 1), v, (.tuple [(.int (-1)), (.int 1)]), (.int 3)]) ∧ d.wd = .str "late") ∨ (∃ v ∈ LOT5, d.b = (.tuple [(.int 4), (.int 1), (.int 3), (.int 1), (.int 2), v, (.int 3)]) ∧ d.wd = .str "settings") ∨ (∃ v ∈ LOT6, d.b = (.tuple [(.int 4), (.int 1), (.int 3), (.int 1), (.int 2), (.tuple [(.int (-1)), (.int 1)]), v]) ∧ d.wd = .str "rest")
theorem p9 (d : D) (w : Rw) (hp : 0 ≤ w.p) (j : Nat) (hj : j < 8) (ht : d.t = .int (j : Int)) (hb : d.b ∈ T8) : ∃ (d2 : D) (w2 : Rw), 0 ≤ w2.p ∧ Bent d2 ∧ G_law_9 (s9 { d with wd := .str "almanac" } w) = .ok .nx (s10 d2 w2) := by
  obtain ⟨sc, t, b, wd, h, r, th, i, tb, va, sp⟩ := d
  have hj2 : j = 0 ∨ j = 1 ∨ j = 2 ∨ j = 3 ∨ j = 4 ∨ j = 5 ∨ j = 6 ∨ j = 7 := by omega
  rcases hj2 with rfl | rfl | rfl | rfl | rfl | rfl | rfl | rfl
  · cases ht
    obtain ⟨v, w2, h1, h2, h3⟩ := pick_step (P := P_law_9) (s := s9 ⟨sc, (.int 0), b, (.str "almanac"), h, r, th, i, tb, va, sp⟩ w) (w := w) (T := LOT0) hp (by decide) (by decide) (fun pk => q9_0 sc h r th i tb va sp b w pk)
    exact ⟨_, w2, h1, .inr (.inl ⟨v, h2, rfl, rfl⟩), h3.trans (b9_0 sc h r th i tb va sp b v w w2)⟩
  · cases ht
    obtain ⟨v, w2, h1, h2, h3⟩ := pick_step (P := P_law_9) (s := s9 ⟨sc, (.int 1), b, (.str "almanac"), h, r, th, i, tb, va, sp⟩ w) (w := w) (T := LOT1) hp (by decide) (by decide) (fun pk => q9_1 sc h r th i tb va sp b w pk)
    exact ⟨_, w2, h1, .inr (.inr (.inl ⟨v, h2, rfl, rfl⟩)), h3.trans (b9_1 sc h r th i tb va sp b v w w2)⟩
  · cases ht
    obtain ⟨v, w2, h1, h2, h3⟩ := pick_step (P := P_law_9) (s := s9 ⟨sc, (.int 2), b, (.str "almanac"), h, r, th, i, tb, va, sp⟩ w) (w := w) (T := LOT2) hp (by decide) (by decide) (fun pk => q9_2 sc h r th i tb va sp b w pk)
    exact ⟨_, w2, h1, .inr (.inr (.inr (.inl ⟨v, h2, rfl, rfl⟩))), h3.trans (b9_2 sc h r th i tb va sp b v w w2)⟩
  · cases ht
    obtain ⟨v, w2, h1, h2, h3⟩ := pick_step (P := P_law_9) (s := s9 ⟨sc, (.int 3), b, (.str "almanac"), h, r, th, i, tb, va, sp⟩ w) (w := w) (T := LOT3) hp (by decide) (by decide) (fun pk => q9_3 sc h r th i tb va sp b w pk)
    exact ⟨_, w2, h1, .inr (.inr (.inr (.inr (.inl ⟨v, h2, rfl, rfl⟩)))), h3.trans (b9_3 sc h r th i tb va sp b v w w2)⟩
  · cases ht
    obtain ⟨v, w2, h1, h2, h3⟩ := pick_step (P := P_law_9) (s := s9 ⟨sc, (.int 4), b, (.str "almanac"), h, r, th, i, tb, va, sp⟩ w) (w := w) (T := LOT4) hp (by decide) (by decide) (fun pk => q9_4 sc h r th i tb va sp b w pk)
    exact ⟨_, w2, h1, .inr (.inr (.inr (.inr (.inr (.inl ⟨v, h2, rfl, rfl⟩))))), h3.trans (b9_4 sc h r th i tb va sp b v w w2)⟩
  · cases ht
    obtain ⟨v, w2, h1, h2, h3⟩ := pick_step (P := P_law_9) (s := s9 ⟨sc, (.int 5), b, (.str "almanac"), h, r, th, i, tb, va, sp⟩ w) (w := w) (T := LOT5) hp (by decide) (by decide) (fun pk => q9_5 sc h r th i tb va sp b w pk)
    exact ⟨_, w2, h1, .inr (.inr (.inr (.inr (.inr (.inr (.inl ⟨v, h2, rfl, rfl⟩)))))), h3.trans (b9_5 sc h r th i tb va sp b v w w2)⟩
  · cases ht
    obtain ⟨v, w2, h1, h2, h3⟩ := pick_step (P := P_law_9) (s := s9 ⟨sc, (.int 6), b, (.str "almanac"), h, r, th, i, tb, va, sp⟩ w) (w := w) (T := LOT6) hp (by decide) (by decide) (fun pk => q9_6 sc h r th i tb va sp b w pk)
    exact ⟨_, w2, h1, .inr (.inr (.inr (.inr (.inr (.inr (.inr (⟨v, h2, rfl, rfl⟩))))))), h3.trans (b9_6 sc h r th i tb va sp b v w w2)⟩
  · cases ht
    exact ⟨⟨sc, (.int 7), b, (.str "almanac"), h, r, th, i, tb, va, sp⟩, w, hp, .inl ⟨rfl, hb⟩, b9_7 sc b h r th i tb va sp w⟩
theorem c14_0 (d : D) (w w2 : Rw) : P_law_14 (okP .none w2) (s14 d w) = .ok .nx (s15 d w2) := by kernel_rfl
theorem c14_1 (d : D) (w w2 : Rw) : P_law_14 (okP (.tuple [(.tuple [(.int 0)])]) w2) (s14 d w) = .ok .nx (s15 d w2) := by kernel_rfl
theorem c14_2 (d : D) (w w2 : Rw) : P_law_14 (okP (.tuple [(.tuple []), (.tuple [])]) w2) (s14 d w) = .ok .nx (s15 d w2) := by kernel_rfl
theorem c14_3 (d : D) (w w2 : Rw) : P_law_14 (okP (.tuple [(.tuple [(.int 1)]), (.tuple [])]) w2) (s14 d w) = .ok .nx (s15 d w2) := by kernel_rfl
theorem c14_4 (d : D) (w w2 : Rw) : P_law_14 (okP (.tuple [(.tuple [(.int 0), (.int 3)]), (.tuple [])]) w2) (s14 d w) = .ok .nx (s15 d w2) := by kernel_rfl
theorem c14_5 (d : D) (w w2 : Rw) : P_law_14 (okP (.tuple [(.tuple [(.int 0), (.int 1), (.int 1)]), (.tuple [])]) w2) (s14 d w) = .ok .nx (s15 d w2) := by kernel_rfl
theorem c14_6 (d : D) (w w2 : Rw) : P_law_14 (okP (.tuple [(.list [(.int 0)]), (.tuple [])]) w2) (s14 d w) = .ok .nx (s15 d w2) := by kernel_rfl
theorem c14_7 (d : D) (w w2 : Rw) : P_law_14 (okP (.tuple [(.tuple [(.int 0)]), (.list [])]) w2) (s14 d w) = .ok .nx (s15 d w2) := by kernel_rfl
theorem c14_8 (d : D) (w w2 : Rw) : P_law_14 (okP (.tuple [(.tuple [(.int 0), (.int 2)]), (.tuple [(.tuple [(.int 1), (.int 2)])])]) w2) (s14 d w) = .ok .nx (s15 d w2) := by kernel_rfl
theorem c14_9 (d : D) (w w2 : Rw) : P_law_14 (okP (.tuple [(.tuple [(.int 0), (.int 2)]), (.tuple [(.tuple [(.int 3), (.int 1)])])]) w2) (s14 d w) = .ok .nx (s15 d w2) := by kernel_rfl
theorem c14_10 (d : D) (w w2 : Rw) : P_law_14 (okP (.tuple [(.tuple [(.int 0), (.int 2)]), (.tuple [(.tuple [(.int 1), (.int 1)]), (.tuple [(.int 2), (.int 1)])])]) w2) (s14 d w) = .ok .nx (s15 d w2) := by kernel_rfl
theorem c14_11 (d : D) (w w2 : Rw) : P_law_14 (okP (.tuple [(.tuple [(.bool false)]), (.tuple [])]) w2) (s14 d w) = .ok .nx (s15 d w2) := by kernel_rfl
theorem c14_12 (d : D) (w w2 : Rw) : P_law_14 (okP (.tuple [(.tuple [(.int 0), (.int 2)]), (.tuple [(.tuple [(.int 0), (.int 1)])])]) w2) (s14 d w) = .ok .nx (s15 d w2) := by kernel_rfl
theorem c14_13 (d : D) (w w2 : Rw) : P_law_14 (okP (.tuple [(.tuple [(.int 0), (.int 2)]), (.tuple [(.tuple [(.int 1), (.bool true)])])]) w2) (s14 d w) = .ok .nx (s15 d w2) := by kernel_rfl
theorem c14_14 (d : D) (w w2 : Rw) : P_law_14 (okP (.tuple [(.tuple [(.int 0), (.int 2)]), (.tuple [(.tuple [(.int 1)])])]) w2) (s14 d w) = .ok .nx (s15 d w2) := by kernel_rfl
theorem c14_15 (d : D) (w w2 : Rw) : P_law_14 (okP (.dict []) w2) (s14 d w) = .ok .nx (s15 d w2) := by kernel_rfl
theorem p14 (d : D) (w : Rw) (hp : 0 ≤ w.p) : ∃ w2 : Rw, 0 ≤ w2.p ∧ G_law_14 (s14 d w) = .ok .nx (s15 d w2) := by
  obtain ⟨v, w2, h1, h2, h3⟩ := pick_step (P := P_law_14) (s := s14 d w) (w := w) (T := STO) hp (by decide) (by decide) (fun pk => by kernel_rfl)
  refine ⟨w2, h1, h3.trans ?_⟩
  simp only [STO, List.mem_cons, List.not_mem_nil, or_false] at h2
  rcases h2 with rfl | rfl | rfl | rfl | rfl | rfl | rfl | rfl | rfl | rfl | rfl | rfl | rfl | rfl | rfl | rfl
  · exact c14_0 d w w2
  · exact c14_1 d w w2
  · exact c14_2 d w w2
  · exact c14_3 d w w2
  · exact c14_4 d w w2
  · exact c14_5 d w w2
  · exact c14_6 d w w2
  · exact c14_7 d w w2
  · exact c14_8 d w w2
  · exact c14_9 d w w2
  · exact c14_10 d w w2
  · exact c14_11 d w w2
  · exact c14_12 d w w2
  · exact c14_13 d w w2
  · exact c14_14 d w w2
  · exact c14_15 d w w2
theorem b15 (d : D) (v : PyData) (w w2 : Rw) : P_law_15 (okP v w2) (s15 d w) = .ok .nx (s16 { d with h := v } w2) := by kernel_rfl
theorem p15 (d : D) (w : Rw) (hp : 0 ≤ w.p) : ∃ (v : PyData) (w2 : Rw), 0 ≤ w2.p ∧ v ∈ HOU ∧ G_law_15 (s15 d w) = .ok .nx (s16 { d with h := v } w2) := by
  obtain ⟨v, w2, h1, h2, h3⟩ := pick_step (P := P_law_15) (s := s15 d w) (w := w) (T := HOU) hp (by decide) (by decide) (fun pk => by kernel_rfl)
  exact ⟨v, w2, h1, h2, h3.trans (b15 d v w w2)⟩
theorem b17 (d : D) (v : PyData) (w w2 : Rw) : P_law_17 (okP v w2) (s17 d w) = .ok .nx (s18 { d with r := v } w2) := by kernel_rfl
theorem p17 (d : D) (w : Rw) (hp : 0 ≤ w.p) : ∃ (v : PyData) (w2 : Rw), 0 ≤ w2.p ∧ v ∈ ROWS ∧ G_law_17 (s17 d w) = .ok .nx (s18 { d with r := v } w2) := by
  obtain ⟨v, w2, h1, h2, h3⟩ := pick_step (P := P_law_17) (s := s17 d w) (w := w) (T := ROWS) hp (by decide) (by decide) (fun pk => by kernel_rfl)
  exact ⟨v, w2, h1, h2, h3.trans (b17 d v w w2)⟩
theorem b19 (d : D) (v : PyData) (w w2 : Rw) : P_law_19 (okP v w2) (s19 d w) = .ok .nx (s20 { d with th := v } w2) := by kernel_rfl
theorem p19 (d : D) (w : Rw) (hp : 0 ≤ w.p) : ∃ (v : PyData) (w2 : Rw), 0 ≤ w2.p ∧ v ∈ THU ∧ G_law_19 (s19 d w) = .ok .nx (s20 { d with th := v } w2) := by
  obtain ⟨v, w2, h1, h2, h3⟩ := pick_step (P := P_law_19) (s := s19 d w) (w := w) (T := THU) hp (by decide) (by decide) (fun pk => by kernel_rfl)
  exact ⟨v, w2, h1, h2, h3.trans (b19 d v w w2)⟩
theorem p21 (d : D) (w : Rw) (hp : 0 ≤ w.p) : ∃ (w2 : Rw) (v : PyData), 0 ≤ w2.p ∧ (v = .int 0 ∨ v = .int 1) ∧ G_law_21 (s21 d w) = .ok .nx (s22 { d with i := v } w2) := by
  obtain ⟨v, w2, h1, h2, h3, h4⟩ := taken_ok w hp 2 (by decide) (by decide)
  have sw : ∀ pk, P_law_21 pk (s21 d w) = P_law_21 (fun _ _ => pk w.l [.int 2]) (s21 d w) := fun pk => by kernel_rfl
  refine ⟨w2, .int v, h4, ?_, (sw F__law_taken).trans ?_⟩
  · rcases (show v = 0 ∨ v = 1 by omega) with e | e
    · exact .inl (by rw [e])
    · exact .inr (by rw [e])
  · rw [h1]
    kernel_rfl
theorem b24_0 (sc t b wd h r th tb va sp : PyData) (v : PyData) (w w2 : Rw) : P_law_24 (okP v w2) (s24 ⟨sc, t, b, wd, h, r, th, (.int 0), tb, va, sp⟩ w) = .ok .nx (s25 ⟨sc, t, b, wd, h, r, th, (.int 0), (.tuple [.tuple [v, TST], .int 0]), va, sp⟩ w2) := by kernel_rfl
theorem q24_0 (sc t b wd h r th tb va sp : PyData) (w : Rw) (pk : List PyData → List PyData → RRes) : P_law_24 pk (s24 ⟨sc, t, b, wd, h, r, th, (.int 0), tb, va, sp⟩ w) = P_law_24 (fun _ _ => pk w.l [.list ODD]) (s24 ⟨sc, t, b, wd, h, r, th, (.int 0), tb, va, sp⟩ w) := by kernel_rfl
theorem b24_1 (sc t b wd h r th tb va sp : PyData) (v : PyData) (w w2 : Rw) : P_law_24 (okP v w2) (s24 ⟨sc, t, b, wd, h, r, th, (.int 1), tb, va, sp⟩ w) = .ok .nx (s25 ⟨sc, t, b, wd, h, r, th, (.int 1), (.tuple [.tuple [TST, v], .int 1]), va, sp⟩ w2) := by kernel_rfl
theorem q24_1 (sc t b wd h r th tb va sp : PyData) (w : Rw) (pk : List PyData → List PyData → RRes) : P_law_24 pk (s24 ⟨sc, t, b, wd, h, r, th, (.int 1), tb, va, sp⟩ w) = P_law_24 (fun _ _ => pk w.l [.list ODD]) (s24 ⟨sc, t, b, wd, h, r, th, (.int 1), tb, va, sp⟩ w) := by kernel_rfl
def Tab (d : D) : Prop := ∃ v ∈ ODD, d.tb = (.tuple [.tuple [v, TST], .int 0]) ∨ d.tb = (.tuple [.tuple [TST, v], .int 1])
theorem p24 (d : D) (w : Rw) (hp : 0 ≤ w.p) (hi : d.i = .int 0 ∨ d.i = .int 1) : ∃ (d2 : D) (w2 : Rw), 0 ≤ w2.p ∧ Tab d2 ∧ G_law_24 (s24 d w) = .ok .nx (s25 d2 w2) := by
  obtain ⟨sc, t, b, wd, h, r, th, i, tb, va, sp⟩ := d
  rcases hi with e | e
  · cases e
    obtain ⟨v, w2, h1, h2, h3⟩ := pick_step (P := P_law_24) (s := s24 ⟨sc, t, b, wd, h, r, th, (.int 0), tb, va, sp⟩ w) (w := w) (T := ODD) hp (by decide) (by decide) (fun pk => q24_0 sc t b wd h r th tb va sp w pk)
    exact ⟨_, w2, h1, ⟨v, h2, .inl rfl⟩, h3.trans (b24_0 sc t b wd h r th tb va sp v w w2)⟩
  · cases e
    obtain ⟨v, w2, h1, h2, h3⟩ := pick_step (P := P_law_24) (s := s24 ⟨sc, t, b, wd, h, r, th, (.int 1), tb, va, sp⟩ w) (w := w) (T := ODD) hp (by decide) (by decide) (fun pk => q24_1 sc t b wd h r th tb va sp w pk)
    exact ⟨_, w2, h1, ⟨v, h2, .inr rfl⟩, h3.trans (b24_1 sc t b wd h r th tb va sp v w w2)⟩
theorem b25 (d : D) (a c : PyData) (w w2 : Rw) : P_law_25 (okP (.tuple [a, c]) w2) (s25 d w) = .ok .nx (s26 { d with va := a, sp := c } w2) := by kernel_rfl
theorem p25 (d : D) (w : Rw) (hp : 0 ≤ w.p) (ht : Tab d) : ∃ (a c : PyData) (w2 : Rw), 0 ≤ w2.p ∧ (.tuple [a, c] : PyData) ∈ T25 d ∧ G_law_25 (s25 d w) = .ok .nx (s26 { d with va := a, sp := c } w2) := by
  obtain ⟨v, w2, h1, h2, h3⟩ := pick_step (P := P_law_25) (s := s25 d w) (w := w) (T := T25 d) hp (by show (0 : Nat) < 7; decide) (by show (7 : Nat) < 1000; decide) (fun pk => by kernel_rfl)
  have ht2 : ∃ a c, d.tb = .tuple [a, c] := by
    obtain ⟨v, _, e | e⟩ := ht <;> exact ⟨_, _, e⟩
  obtain ⟨ta, tc, et⟩ := ht2
  have hv : ∃ a c, v = .tuple [a, c] := by
    simp only [T25, List.mem_cons, List.not_mem_nil, or_false] at h2
    rcases h2 with e | e | e | e | e | e | e
    · exact ⟨_, _, e⟩
    · exact ⟨_, _, e⟩
    · exact ⟨_, _, e⟩
    · exact ⟨_, _, e.trans et⟩
    · exact ⟨_, _, e.trans et⟩
    · exact ⟨_, _, e.trans et⟩
    · exact ⟨_, _, e.trans et⟩
  obtain ⟨a, c, rfl⟩ := hv
  exact ⟨a, c, w2, h1, h2, h3.trans (b25 d a c w w2)⟩
/-! ## the tests -/
theorem c10_7_0 (sc t h r th i tb va sp : PyData) (w : Rw) : G_law_10 (s10 ⟨sc, t, .none, (.str "almanac"), h, r, th, i, tb, va, sp⟩ w) = .ok .nx (s11 ⟨sc, t, .none, (.str "almanac"), h, r, th, i, tb, va, sp⟩ w) := by kernel_rfl
theorem c10_7_1 (sc t h r th i tb va sp : PyData) (w : Rw) : G_law_10 (s10 ⟨sc, t, (.list [(.int 4), (.int 1), (.int 3), (.int 1), (.int 2), (.tuple [(.int (-1)), (.int 1)]), (.int 3)]), (.str "almanac"), h, r, th, i, tb, va, sp⟩ w) = .ok .nx (s11 ⟨sc, t, (.list [(.int 4), (.int 1), (.int 3), (.int 1), (.int 2), (.tuple [(.int (-1)), (.int 1)]), (.int 3)]), (.str "almanac"), h, r, th, i, tb, va, sp⟩ w) := by kernel_rfl
theorem c10_7_2 (sc t h r th i tb va sp : PyData) (w : Rw) : G_law_10 (s10 ⟨sc, t, (.tuple [(.int 4), (.int 1), (.int 3), (.int 1), (.int 2), (.tuple [(.int (-1)), (.int 1)])]), (.str "almanac"), h, r, th, i, tb, va, sp⟩ w) = .ok .nx (s11 ⟨sc, t, (.tuple [(.int 4), (.int 1), (.int 3), (.int 1), (.int 2), (.tuple [(.int (-1)), (.int 1)])]), (.str "almanac"), h, r, th, i, tb, va, sp⟩ w) := by kernel_rfl
theorem c10_7_3 (sc t h r th i tb va sp : PyData) (w : Rw) : G_law_10 (s10 ⟨sc, t, (.tuple [(.int 4), (.int 1), (.int 3), (.int 1), (.int 2), (.tuple [(.int (-1)), (.int 1)]), (.int 3), (.int 1)]), (.str "almanac"), h, r, th, i, tb, va, sp⟩ w) = .ok .nx (s11 ⟨sc, t, (.tuple [(.int 4), (.int 1), (.int 3), (.int 1), (.int 2), (.tuple [(.int (-1)), (.int 1)]), (.int 3), (.int 1)]), (.str "almanac"), h, r, th, i, tb, va, sp⟩ w) := by kernel_rfl
theorem c10_7_4 (sc t h r th i tb va sp : PyData) (w : Rw) : G_law_10 (s10 ⟨sc, t, (.dict []), (.str "almanac"), h, r, th, i, tb, va, sp⟩ w) = .ok .nx (s11 ⟨sc, t, (.dict []), (.str "almanac"), h, r, th, i, tb, va, sp⟩ w) := by kernel_rfl
theorem c10_7_5 (sc t h r th i tb va sp : PyData) (w : Rw) : G_law_10 (s10 ⟨sc, t, (.str "almanac"), (.str "almanac"), h, r, th, i, tb, va, sp⟩ w) = .ok .nx (s11 ⟨sc, t, (.str "almanac"), (.str "almanac"), h, r, th, i, tb, va, sp⟩ w) := by kernel_rfl
theorem c10_0_0 (sc t h r th i tb va sp : PyData) (w : Rw) : G_law_10 (s10 ⟨sc, t, (.tuple [(.int 1), (.int 1), (.int 3), (.int 1), (.int 2), (.tuple [(.int (-1)), (.int 1)]), (.int 3)]), (.str "hours"), h, r, th, i, tb, va, sp⟩ w) = .ok .nx (s11 ⟨sc, t, (.tuple [(.int 1), (.int 1), (.int 3), (.int 1), (.int 2), (.tuple [(.int (-1)), (.int 1)]), (.int 3)]), (.str "hours"), h, r, th, i, tb, va, sp⟩ w) := by kernel_rfl
theorem c10_0_1 (sc t h r th i tb va sp : PyData) (w : Rw) : G_law_10 (s10 ⟨sc, t, (.tuple [(.int 13), (.int 1), (.int 3), (.int 1), (.int 2), (.tuple [(.int (-1)), (.int 1)]), (.int 3)]), (.str "hours"), h, r, th, i, tb, va, sp⟩ w) = .ok .nx (s11 ⟨sc, t, (.tuple [(.int 13), (.int 1), (.int 3), (.int 1), (.int 2), (.tuple [(.int (-1)), (.int 1)]), (.int 3)]), (.str "hours"), h, r, th, i, tb, va, sp⟩ w) := by kernel_rfl
theorem c10_0_2 (sc t h r th i tb va sp : PyData) (w : Rw) : G_law_10 (s10 ⟨sc, t, (.tuple [.none, (.int 1), (.int 3), (.int 1), (.int 2), (.tuple [(.int (-1)), (.int 1)]), (.int 3)]), (.str "hours"), h, r, th, i, tb, va, sp⟩ w) = .ok .nx (s11 ⟨sc, t, (.tuple [.none, (.int 1), (.int 3), (.int 1), (.int 2), (.tuple [(.int (-1)), (.int 1)]), (.int 3)]), (.str "hours"), h, r, th, i, tb, va, sp⟩ w) := by kernel_rfl
theorem c10_0_3 (sc t h r th i tb va sp : PyData) (w : Rw) : G_law_10 (s10 ⟨sc, t, (.tuple [(.bool true), (.int 1), (.int 3), (.int 1), (.int 2), (.tuple [(.int (-1)), (.int 1)]), (.int 3)]), (.str "hours"), h, r, th, i, tb, va, sp⟩ w) = .ok .nx (s11 ⟨sc, t, (.tuple [(.bool true), (.int 1), (.int 3), (.int 1), (.int 2), (.tuple [(.int (-1)), (.int 1)]), (.int 3)]), (.str "hours"), h, r, th, i, tb, va, sp⟩ w) := by kernel_rfl
theorem c10_0_4 (sc t h r th i tb va sp : PyData) (w : Rw) : G_law_10 (s10 ⟨sc, t, (.tuple [(.str "4"), (.int 1), (.int 3), (.int 1), (.int 2), (.tuple [(.int (-1)), (.int 1)]), (.int 3)]), (.str "hours"), h, r, th, i, tb, va, sp⟩ w) = .ok .nx (s11 ⟨sc, t, (.tuple [(.str "4"), (.int 1), (.int 3), (.int 1), (.int 2), (.tuple [(.int (-1)), (.int 1)]), (.int 3)]), (.str "hours"), h, r, th, i, tb, va, sp⟩ w) := by kernel_rfl
theorem c10_1_0 (sc t h r th i tb va sp : PyData) (w : Rw) : G_law_10 (s10 ⟨sc, t, (.tuple [(.int 4), (.int (-1)), (.int 3), (.int 1), (.int 2), (.tuple [(.int (-1)), (.int 1)]), (.int 3)]), (.str "first"), h, r, th, i, tb, va, sp⟩ w) = .ok .nx (s11 ⟨sc, t, (.tuple [(.int 4), (.int (-1)), (.int 3), (.int 1), (.int 2), (.tuple [(.int (-1)), (.int 1)]), (.int 3)]), (.str "first"), h, r, th, i, tb, va, sp⟩ w) := by kernel_rfl
theorem c10_1_1 (sc t h r th i tb va sp : PyData) (w : Rw) : G_law_10 (s10 ⟨sc, t, (.tuple [(.int 4), (.int 4), (.int 3), (.int 1), (.int 2), (.tuple [(.int (-1)), (.int 1)]), (.int 3)]), (.str "first"), h, r, th, i, tb, va, sp⟩ w) = .ok .nx (s11 ⟨sc, t, (.tuple [(.int 4), (.int 4), (.int 3), (.int 1), (.int 2), (.tuple [(.int (-1)), (.int 1)]), (.int 3)]), (.str "first"), h, r, th, i, tb, va, sp⟩ w) := by kernel_rfl
theorem c10_1_2 (sc t h r th i tb va sp : PyData) (w : Rw) : G_law_10 (s10 ⟨sc, t, (.tuple [(.int 4), .none, (.int 3), (.int 1), (.int 2), (.tuple [(.int (-1)), (.int 1)]), (.int 3)]), (.str "first"), h, r, th, i, tb, va, sp⟩ w) = .ok .nx (s11 ⟨sc, t, (.tuple [(.int 4), .none, (.int 3), (.int 1), (.int 2), (.tuple [(.int (-1)), (.int 1)]), (.int 3)]), (.str "first"), h, r, th, i, tb, va, sp⟩ w) := by kernel_rfl
theorem c10_1_3 (sc t h r th i tb va sp : PyData) (w : Rw) : G_law_10 (s10 ⟨sc, t, (.tuple [(.int 4), (.bool true), (.int 3), (.int 1), (.int 2), (.tuple [(.int (-1)), (.int 1)]), (.int 3)]), (.str "first"), h, r, th, i, tb, va, sp⟩ w) = .ok .nx (s11 ⟨sc, t, (.tuple [(.int 4), (.bool true), (.int 3), (.int 1), (.int 2), (.tuple [(.int (-1)), (.int 1)]), (.int 3)]), (.str "first"), h, r, th, i, tb, va, sp⟩ w) := by kernel_rfl
theorem c10_2_0 (sc t h r th i tb va sp : PyData) (w : Rw) : G_law_10 (s10 ⟨sc, t, (.tuple [(.int 4), (.int 1), (.int 0), (.int 1), (.int 2), (.tuple [(.int (-1)), (.int 1)]), (.int 3)]), (.str "last"), h, r, th, i, tb, va, sp⟩ w) = .ok .nx (s11 ⟨sc, t, (.tuple [(.int 4), (.int 1), (.int 0), (.int 1), (.int 2), (.tuple [(.int (-1)), (.int 1)]), (.int 3)]), (.str "last"), h, r, th, i, tb, va, sp⟩ w) := by kernel_rfl
theorem c10_2_1 (sc t h r th i tb va sp : PyData) (w : Rw) : G_law_10 (s10 ⟨sc, t, (.tuple [(.int 4), (.int 1), (.int 5), (.int 1), (.int 2), (.tuple [(.int (-1)), (.int 1)]), (.int 3)]), (.str "last"), h, r, th, i, tb, va, sp⟩ w) = .ok .nx (s11 ⟨sc, t, (.tuple [(.int 4), (.int 1), (.int 5), (.int 1), (.int 2), (.tuple [(.int (-1)), (.int 1)]), (.int 3)]), (.str "last"), h, r, th, i, tb, va, sp⟩ w) := by kernel_rfl
theorem c10_2_2 (sc t h r th i tb va sp : PyData) (w : Rw) : G_law_10 (s10 ⟨sc, t, (.tuple [(.int 4), (.int 1), .none, (.int 1), (.int 2), (.tuple [(.int (-1)), (.int 1)]), (.int 3)]), (.str "last"), h, r, th, i, tb, va, sp⟩ w) = .ok .nx (s11 ⟨sc, t, (.tuple [(.int 4), (.int 1), .none, (.int 1), (.int 2), (.tuple [(.int (-1)), (.int 1)]), (.int 3)]), (.str "last"), h, r, th, i, tb, va, sp⟩ w) := by kernel_rfl
theorem c10_2_3 (sc t h r th i tb va sp : PyData) (w : Rw) : G_law_10 (s10 ⟨sc, t, (.tuple [(.int 4), (.int 1), (.bool true), (.int 1), (.int 2), (.tuple [(.int (-1)), (.int 1)]), (.int 3)]), (.str "last"), h, r, th, i, tb, va, sp⟩ w) = .ok .nx (s11 ⟨sc, t, (.tuple [(.int 4), (.int 1), (.bool true), (.int 1), (.int 2), (.tuple [(.int (-1)), (.int 1)]), (.int 3)]), (.str "last"), h, r, th, i, tb, va, sp⟩ w) := by kernel_rfl
theorem c10_3_0 (sc t h r th i tb va sp : PyData) (w : Rw) : G_law_10 (s10 ⟨sc, t, (.tuple [(.int 4), (.int 1), (.int 3), (.int 0), (.int 2), (.tuple [(.int (-1)), (.int 1)]), (.int 3)]), (.str "soon"), h, r, th, i, tb, va, sp⟩ w) = .ok .nx (s11 ⟨sc, t, (.tuple [(.int 4), (.int 1), (.int 3), (.int 0), (.int 2), (.tuple [(.int (-1)), (.int 1)]), (.int 3)]), (.str "soon"), h, r, th, i, tb, va, sp⟩ w) := by kernel_rfl
theorem c10_3_1 (sc t h r th i tb va sp : PyData) (w : Rw) : G_law_10 (s10 ⟨sc, t, (.tuple [(.int 4), (.int 1), (.int 3), (.int 25), (.int 2), (.tuple [(.int (-1)), (.int 1)]), (.int 3)]), (.str "soon"), h, r, th, i, tb, va, sp⟩ w) = .ok .nx (s11 ⟨sc, t, (.tuple [(.int 4), (.int 1), (.int 3), (.int 25), (.int 2), (.tuple [(.int (-1)), (.int 1)]), (.int 3)]), (.str "soon"), h, r, th, i, tb, va, sp⟩ w) := by kernel_rfl
theorem c10_3_2 (sc t h r th i tb va sp : PyData) (w : Rw) : G_law_10 (s10 ⟨sc, t, (.tuple [(.int 4), (.int 1), (.int 3), .none, (.int 2), (.tuple [(.int (-1)), (.int 1)]), (.int 3)]), (.str "soon"), h, r, th, i, tb, va, sp⟩ w) = .ok .nx (s11 ⟨sc, t, (.tuple [(.int 4), (.int 1), (.int 3), .none, (.int 2), (.tuple [(.int (-1)), (.int 1)]), (.int 3)]), (.str "soon"), h, r, th, i, tb, va, sp⟩ w) := by kernel_rfl
theorem c10_3_3 (sc t h r th i tb va sp : PyData) (w : Rw) : G_law_10 (s10 ⟨sc, t, (.tuple [(.int 4), (.int 1), (.int 3), (.bool true), (.int 2), (.tuple [(.int (-1)), (.int 1)]), (.int 3)]), (.str "soon"), h, r, th, i, tb, va, sp⟩ w) = .ok .nx (s11 ⟨sc, t, (.tuple [(.int 4), (.int 1), (.int 3), (.bool true), (.int 2), (.tuple [(.int (-1)), (.int 1)]), (.int 3)]), (.str "soon"), h, r, th, i, tb, va, sp⟩ w) := by kernel_rfl
theorem c10_4_0 (sc t h r th i tb va sp : PyData) (w : Rw) : G_law_10 (s10 ⟨sc, t, (.tuple [(.int 4), (.int 1), (.int 3), (.int 1), (.int 0), (.tuple [(.int (-1)), (.int 1)]), (.int 3)]), (.str "late"), h, r, th, i, tb, va, sp⟩ w) = .ok .nx (s11 ⟨sc, t, (.tuple [(.int 4), (.int 1), (.int 3), (.int 1), (.int 0), (.tuple [(.int (-1)), (.int 1)]), (.int 3)]), (.str "late"), h, r, th, i, tb, va, sp⟩ w) := by kernel_rfl
theorem c10_4_1 (sc t h r th i tb va sp : PyData) (w : Rw) : G_law_10 (s10 ⟨sc, t, (.tuple [(.int 4), (.int 1), (.int 3), (.int 1), (.int 25), (.tuple [(.int (-1)), (.int 1)]), (.int 3)]), (.str "late"), h, r, th, i, tb, va, sp⟩ w) = .ok .nx (s11 ⟨sc, t, (.tuple [(.int 4), (.int 1), (.int 3), (.int 1), (.int 25), (.tuple [(.int (-1)), (.int 1)]), (.int 3)]), (.str "late"), h, r, th, i, tb, va, sp⟩ w) := by kernel_rfl
theorem c10_4_2 (sc t h r th i tb va sp : PyData) (w : Rw) : G_law_10 (s10 ⟨sc, t, (.tuple [(.int 4), (.int 1), (.int 3), (.int 1), .none, (.tuple [(.int (-1)), (.int 1)]), (.int 3)]), (.str "late"), h, r, th, i, tb, va, sp⟩ w) = .ok .nx (s11 ⟨sc, t, (.tuple [(.int 4), (.int 1), (.int 3), (.int 1), .none, (.tuple [(.int (-1)), (.int 1)]), (.int 3)]), (.str "late"), h, r, th, i, tb, va, sp⟩ w) := by kernel_rfl
theorem c10_4_3 (sc t h r th i tb va sp : PyData) (w : Rw) : G_law_10 (s10 ⟨sc, t, (.tuple [(.int 4), (.int 1), (.int 3), (.int 1), (.bool true), (.tuple [(.int (-1)), (.int 1)]), (.int 3)]), (.str "late"), h, r, th, i, tb, va, sp⟩ w) = .ok .nx (s11 ⟨sc, t, (.tuple [(.int 4), (.int 1), (.int 3), (.int 1), (.bool true), (.tuple [(.int (-1)), (.int 1)]), (.int 3)]), (.str "late"), h, r, th, i, tb, va, sp⟩ w) := by kernel_rfl
theorem c10_5_0 (sc t h r th i tb va sp : PyData) (w : Rw) : G_law_10 (s10 ⟨sc, t, (.tuple [(.int 4), (.int 1), (.int 3), (.int 1), (.int 2), .none, (.int 3)]), (.str "settings"), h, r, th, i, tb, va, sp⟩ w) = .ok .nx (s11 ⟨sc, t, (.tuple [(.int 4), (.int 1), (.int 3), (.int 1), (.int 2), .none, (.int 3)]), (.str "settings"), h, r, th, i, tb, va, sp⟩ w) := by kernel_rfl
theorem c10_5_1 (sc t h r th i tb va sp : PyData) (w : Rw) : G_law_10 (s10 ⟨sc, t, (.tuple [(.int 4), (.int 1), (.int 3), (.int 1), (.int 2), (.list [(.int 1)]), (.int 3)]), (.str "settings"), h, r, th, i, tb, va, sp⟩ w) = .ok .nx (s11 ⟨sc, t, (.tuple [(.int 4), (.int 1), (.int 3), (.int 1), (.int 2), (.list [(.int 1)]), (.int 3)]), (.str "settings"), h, r, th, i, tb, va, sp⟩ w) := by kernel_rfl
theorem c10_5_2 (sc t h r th i tb va sp : PyData) (w : Rw) : G_law_10 (s10 ⟨sc, t, (.tuple [(.int 4), (.int 1), (.int 3), (.int 1), (.int 2), (.tuple [(.int 0)]), (.int 3)]), (.str "settings"), h, r, th, i, tb, va, sp⟩ w) = .ok .nx (s11 ⟨sc, t, (.tuple [(.int 4), (.int 1), (.int 3), (.int 1), (.int 2), (.tuple [(.int 0)]), (.int 3)]), (.str "settings"), h, r, th, i, tb, va, sp⟩ w) := by kernel_rfl
theorem c10_5_3 (sc t h r th i tb va sp : PyData) (w : Rw) : G_law_10 (s10 ⟨sc, t, (.tuple [(.int 4), (.int 1), (.int 3), (.int 1), (.int 2), (.tuple [(.int 4)]), (.int 3)]), (.str "settings"), h, r, th, i, tb, va, sp⟩ w) = .ok .nx (s11 ⟨sc, t, (.tuple [(.int 4), (.int 1), (.int 3), (.int 1), (.int 2), (.tuple [(.int 4)]), (.int 3)]), (.str "settings"), h, r, th, i, tb, va, sp⟩ w) := by kernel_rfl
theorem c10_5_4 (sc t h r th i tb va sp : PyData) (w : Rw) : G_law_10 (s10 ⟨sc, t, (.tuple [(.int 4), (.int 1), (.int 3), (.int 1), (.int 2), (.tuple [(.int 1), (.int (-1))]), (.int 3)]), (.str "settings"), h, r, th, i, tb, va, sp⟩ w) = .ok .nx (s11 ⟨sc, t, (.tuple [(.int 4), (.int 1), (.int 3), (.int 1), (.int 2), (.tuple [(.int 1), (.int (-1))]), (.int 3)]), (.str "settings"), h, r, th, i, tb, va, sp⟩ w) := by kernel_rfl
theorem c10_5_5 (sc t h r th i tb va sp : PyData) (w : Rw) : G_law_10 (s10 ⟨sc, t, (.tuple [(.int 4), (.int 1), (.int 3), (.int 1), (.int 2), (.tuple [(.int 1), (.int 1)]), (.int 3)]), (.str "settings"), h, r, th, i, tb, va, sp⟩ w) = .ok .nx (s11 ⟨sc, t, (.tuple [(.int 4), (.int 1), (.int 3), (.int 1), (.int 2), (.tuple [(.int 1), (.int 1)]), (.int 3)]), (.str "settings"), h, r, th, i, tb, va, sp⟩ w) := by kernel_rfl
theorem c10_5_6 (sc t h r th i tb va sp : PyData) (w : Rw) : G_law_10 (s10 ⟨sc, t, (.tuple [(.int 4), (.int 1), (.int 3), (.int 1), (.int 2), (.tuple [(.bool true)]), (.int 3)]), (.str "settings"), h, r, th, i, tb, va, sp⟩ w) = .ok .nx (s11 ⟨sc, t, (.tuple [(.int 4), (.int 1), (.int 3), (.int 1), (.int 2), (.tuple [(.bool true)]), (.int 3)]), (.str "settings"), h, r, th, i, tb, va, sp⟩ w) := by kernel_rfl
theorem c10_5_7 (sc t h r th i tb va sp : PyData) (w : Rw) : G_law_10 (s10 ⟨sc, t, (.tuple [(.int 4), (.int 1), (.int 3), (.int 1), (.int 2), (.tuple [(.int 1), (.int 2), (.int 3), (.int (-1)), (.int (-2))]), (.int 3)]), (.str "settings"), h, r, th, i, tb, va, sp⟩ w) = .ok .nx (s11 ⟨sc, t, (.tuple [(.int 4), (.int 1), (.int 3), (.int 1), (.int 2), (.tuple [(.int 1), (.int 2), (.int 3), (.int (-1)), (.int (-2))]), (.int 3)]), (.str "settings"), h, r, th, i, tb, va, sp⟩ w) := by kernel_rfl
theorem c10_5_8 (sc t h r th i tb va sp : PyData) (w : Rw) : G_law_10 (s10 ⟨sc, t, (.tuple [(.int 4), (.int 1), (.int 3), (.int 1), (.int 2), (.dict []), (.int 3)]), (.str "settings"), h, r, th, i, tb, va, sp⟩ w) = .ok .nx (s11 ⟨sc, t, (.tuple [(.int 4), (.int 1), (.int 3), (.int 1), (.int 2), (.dict []), (.int 3)]), (.str "settings"), h, r, th, i, tb, va, sp⟩ w) := by kernel_rfl
theorem c10_5_9 (sc t h r th i tb va sp : PyData) (w : Rw) : G_law_10 (s10 ⟨sc, t, (.tuple [(.int 4), (.int 1), (.int 3), (.int 1), (.int 2), (.tuple [(.str "1")]), (.int 3)]), (.str "settings"), h, r, th, i, tb, va, sp⟩ w) = .ok .nx (s11 ⟨sc, t, (.tuple [(.int 4), (.int 1), (.int 3), (.int 1), (.int 2), (.tuple [(.str "1")]), (.int 3)]), (.str "settings"), h, r, th, i, tb, va, sp⟩ w) := by kernel_rfl
theorem c10_6_0 (sc t h r th i tb va sp : PyData) (w : Rw) : G_law_10 (s10 ⟨sc, t, (.tuple [(.int 4), (.int 1), (.int 3), (.int 1), (.int 2), (.tuple [(.int (-1)), (.int 1)]), (.int 0)]), (.str "rest"), h, r, th, i, tb, va, sp⟩ w) = .ok .nx (s11 ⟨sc, t, (.tuple [(.int 4), (.int 1), (.int 3), (.int 1), (.int 2), (.tuple [(.int (-1)), (.int 1)]), (.int 0)]), (.str "rest"), h, r, th, i, tb, va, sp⟩ w) := by kernel_rfl
theorem c10_6_1 (sc t h r th i tb va sp : PyData) (w : Rw) : G_law_10 (s10 ⟨sc, t, (.tuple [(.int 4), (.int 1), (.int 3), (.int 1), (.int 2), (.tuple [(.int (-1)), (.int 1)]), (.int 13)]), (.str "rest"), h, r, th, i, tb, va, sp⟩ w) = .ok .nx (s11 ⟨sc, t, (.tuple [(.int 4), (.int 1), (.int 3), (.int 1), (.int 2), (.tuple [(.int (-1)), (.int 1)]), (.int 13)]), (.str "rest"), h, r, th, i, tb, va, sp⟩ w) := by kernel_rfl
theorem c10_6_2 (sc t h r th i tb va sp : PyData) (w : Rw) : G_law_10 (s10 ⟨sc, t, (.tuple [(.int 4), (.int 1), (.int 3), (.int 1), (.int 2), (.tuple [(.int (-1)), (.int 1)]), .none]), (.str "rest"), h, r, th, i, tb, va, sp⟩ w) = .ok .nx (s11 ⟨sc, t, (.tuple [(.int 4), (.int 1), (.int 3), (.int 1), (.int 2), (.tuple [(.int (-1)), (.int 1)]), .none]), (.str "rest"), h, r, th, i, tb, va, sp⟩ w) := by kernel_rfl
theorem c10_6_3 (sc t h r th i tb va sp : PyData) (w : Rw) : G_law_10 (s10 ⟨sc, t, (.tuple [(.int 4), (.int 1), (.int 3), (.int 1), (.int 2), (.tuple [(.int (-1)), (.int 1)]), (.bool true)]), (.str "rest"), h, r, th, i, tb, va, sp⟩ w) = .ok .nx (s11 ⟨sc, t, (.tuple [(.int 4), (.int 1), (.int 3), (.int 1), (.int 2), (.tuple [(.int (-1)), (.int 1)]), (.bool true)]), (.str "rest"), h, r, th, i, tb, va, sp⟩ w) := by kernel_rfl
theorem c10_6_4 (sc t h r th i tb va sp : PyData) (w : Rw) : G_law_10 (s10 ⟨sc, t, (.tuple [(.int 4), (.int 1), (.int 3), (.int 1), (.int 2), (.tuple [(.int (-1)), (.int 1)]), (.str "3")]), (.str "rest"), h, r, th, i, tb, va, sp⟩ w) = .ok .nx (s11 ⟨sc, t, (.tuple [(.int 4), (.int 1), (.int 3), (.int 1), (.int 2), (.tuple [(.int (-1)), (.int 1)]), (.str "3")]), (.str "rest"), h, r, th, i, tb, va, sp⟩ w) := by kernel_rfl
theorem p10 (d : D) (w : Rw) (hb : Bent d) : G_law_10 (s10 d w) = .ok .nx (s11 d w) := by
  obtain ⟨sc, t, b, wd, h, r, th, i, tb, va, sp⟩ := d
  rcases hb with ⟨e, hm⟩ | ⟨v, hm, e1, e2⟩ | ⟨v, hm, e1, e2⟩ | ⟨v, hm, e1, e2⟩ | ⟨v, hm, e1, e2⟩ | ⟨v, hm, e1, e2⟩ | ⟨v, hm, e1, e2⟩ | ⟨v, hm, e1, e2⟩
  · simp only at e hm
    subst e
    simp only [T8, List.mem_cons, List.not_mem_nil, or_false] at hm
    rcases hm with rfl | rfl | rfl | rfl | rfl | rfl
    · exact c10_7_0 sc t h r th i tb va sp w
    · exact c10_7_1 sc t h r th i tb va sp w
    · exact c10_7_2 sc t h r th i tb va sp w
    · exact c10_7_3 sc t h r th i tb va sp w
    · exact c10_7_4 sc t h r th i tb va sp w
    · exact c10_7_5 sc t h r th i tb va sp w
  · simp only at e1 e2
    subst e1 e2
    simp only [LOT0, List.mem_cons, List.not_mem_nil, or_false] at hm
    rcases hm with rfl | rfl | rfl | rfl | rfl
    · exact c10_0_0 sc t h r th i tb va sp w
    · exact c10_0_1 sc t h r th i tb va sp w
    · exact c10_0_2 sc t h r th i tb va sp w
    · exact c10_0_3 sc t h r th i tb va sp w
    · exact c10_0_4 sc t h r th i tb va sp w
  · simp only at e1 e2
    subst e1 e2
    simp only [LOT1, List.mem_cons, List.not_mem_nil, or_false] at hm
    rcases hm with rfl | rfl | rfl | rfl
    · exact c10_1_0 sc t h r th i tb va sp w
    · exact c10_1_1 sc t h r th i tb va sp w
    · exact c10_1_2 sc t h r th i tb va sp w
    · exact c10_1_3 sc t h r th i tb va sp w
  · simp only at e1 e2
    subst e1 e2
    simp only [LOT2, List.mem_cons, List.not_mem_nil, or_false] at hm
    rcases hm with rfl | rfl | rfl | rfl
    · exact c10_2_0 sc t h r th i tb va sp w
    · exact c10_2_1 sc t h r th i tb va sp w
    · exact c10_2_2 sc t h r th i tb va sp w
    · exact c10_2_3 sc t h r th i tb va sp w
  · simp only at e1 e2
    subst e1 e2
    simp only [LOT3, List.mem_cons, List.not_mem_nil, or_false] at hm
    rcases hm with rfl | rfl | rfl | rfl
    · exact c10_3_0 sc t h r th i tb va sp w
    · exact c10_3_1 sc t h r th i tb va sp w
    · exact c10_3_2 sc t h r th i tb va sp w
    · exact c10_3_3 sc t h r th i tb va sp w
  · simp only at e1 e2
    subst e1 e2
    simp only [LOT4, List.mem_cons, List.not_mem_nil, or_false] at hm
    rcases hm with rfl | rfl | rfl | rfl
    · exact c10_4_0 sc t h r th i tb va sp w
    · exact c10_4_1 sc t h r th i tb va sp w
    · exact c10_4_2 sc t h r th i tb va sp w
    · exact c10_4_3 sc t h r th i tb va sp w
  · simp only at e1 e2
    subst e1 e2
    simp only [LOT5, List.mem_cons, List.not_mem_nil, or_false] at hm
    rcases hm with rfl | rfl | rfl | rfl | rfl | rfl | rfl | rfl | rfl | rfl
    · exact c10_5_0 sc t h r th i tb va sp w
    · exact c10_5_1 sc t h r th i tb va sp w
    · exact c10_5_2 sc t h r th i tb va sp w
    · exact c10_5_3 sc t h r th i tb va sp w
    · exact c10_5_4 sc t h r th i tb va sp w
    · exact c10_5_5 sc t h r th i tb va sp w
    · exact c10_5_6 sc t h r th i tb va sp w
    · exact c10_5_7 sc t h r th i tb va sp w
    · exact c10_5_8 sc t h r th i tb va sp w
    · exact c10_5_9 sc t h r th i tb va sp w
  · simp only at e1 e2
    subst e1 e2
    simp only [LOT6, List.mem_cons, List.not_mem_nil, or_false] at hm
    rcases hm with rfl | rfl | rfl | rfl | rfl
    · exact c10_6_0 sc t h r th i tb va sp w
    · exact c10_6_1 sc t h r th i tb va sp w
    · exact c10_6_2 sc t h r th i tb va sp w
    · exact c10_6_3 sc t h r th i tb va sp w
    · exact c10_6_4 sc t h r th i tb va sp w
theorem c16_0 (sc t b wd r th i tb va sp : PyData) (w : Rw) : G_law_16 (s16 ⟨sc, t, b, wd, .none, r, th, i, tb, va, sp⟩ w) = .ok .nx (s17 ⟨sc, t, b, wd, .none, r, th, i, tb, va, sp⟩ w) := by kernel_rfl
theorem c16_1 (sc t b wd r th i tb va sp : PyData) (w : Rw) : G_law_16 (s16 ⟨sc, t, b, wd, (.bool true), r, th, i, tb, va, sp⟩ w) = .ok .nx (s17 ⟨sc, t, b, wd, (.bool true), r, th, i, tb, va, sp⟩ w) := by kernel_rfl
theorem c16_2 (sc t b wd r th i tb va sp : PyData) (w : Rw) : G_law_16 (s16 ⟨sc, t, b, wd, (.int (-1)), r, th, i, tb, va, sp⟩ w) = .ok .nx (s17 ⟨sc, t, b, wd, (.int (-1)), r, th, i, tb, va, sp⟩ w) := by kernel_rfl
theorem c16_3 (sc t b wd r th i tb va sp : PyData) (w : Rw) : G_law_16 (s16 ⟨sc, t, b, wd, (.int 1000000001), r, th, i, tb, va, sp⟩ w) = .ok .nx (s17 ⟨sc, t, b, wd, (.int 1000000001), r, th, i, tb, va, sp⟩ w) := by kernel_rfl
theorem c16_4 (sc t b wd r th i tb va sp : PyData) (w : Rw) : G_law_16 (s16 ⟨sc, t, b, wd, (.str "1"), r, th, i, tb, va, sp⟩ w) = .ok .nx (s17 ⟨sc, t, b, wd, (.str "1"), r, th, i, tb, va, sp⟩ w) := by kernel_rfl
theorem c16_5 (sc t b wd r th i tb va sp : PyData) (w : Rw) : G_law_16 (s16 ⟨sc, t, b, wd, (.tuple [(.int 1)]), r, th, i, tb, va, sp⟩ w) = .ok .nx (s17 ⟨sc, t, b, wd, (.tuple [(.int 1)]), r, th, i, tb, va, sp⟩ w) := by kernel_rfl
theorem p16 (d : D) (w : Rw) (hv : d.h ∈ HOU) : G_law_16 (s16 d w) = .ok .nx (s17 d w) := by
  obtain ⟨sc, t, b, wd, h, r, th, i, tb, va, sp⟩ := d
  simp only [HOU, List.mem_cons, List.not_mem_nil, or_false] at hv
  rcases hv with rfl | rfl | rfl | rfl | rfl | rfl
  · exact c16_0 sc t b wd r th i tb va sp w
  · exact c16_1 sc t b wd r th i tb va sp w
  · exact c16_2 sc t b wd r th i tb va sp w
  · exact c16_3 sc t b wd r th i tb va sp w
  · exact c16_4 sc t b wd r th i tb va sp w
  · exact c16_5 sc t b wd r th i tb va sp w
theorem c18_0 (sc t b wd h th i tb va sp : PyData) (w : Rw) : G_law_18 (s18 ⟨sc, t, b, wd, h, .none, th, i, tb, va, sp⟩ w) = .ok .nx (s19 ⟨sc, t, b, wd, h, .none, th, i, tb, va, sp⟩ w) := by kernel_rfl
theorem c18_1 (sc t b wd h th i tb va sp : PyData) (w : Rw) : G_law_18 (s18 ⟨sc, t, b, wd, h, (.tuple []), th, i, tb, va, sp⟩ w) = .ok .nx (s19 ⟨sc, t, b, wd, h, (.tuple []), th, i, tb, va, sp⟩ w) := by kernel_rfl
theorem c18_2 (sc t b wd h th i tb va sp : PyData) (w : Rw) : G_law_18 (s18 ⟨sc, t, b, wd, h, (.list [(.int 0)]), th, i, tb, va, sp⟩ w) = .ok .nx (s19 ⟨sc, t, b, wd, h, (.list [(.int 0)]), th, i, tb, va, sp⟩ w) := by kernel_rfl
theorem c18_3 (sc t b wd h th i tb va sp : PyData) (w : Rw) : G_law_18 (s18 ⟨sc, t, b, wd, h, (.tuple [(.int 4)]), th, i, tb, va, sp⟩ w) = .ok .nx (s19 ⟨sc, t, b, wd, h, (.tuple [(.int 4)]), th, i, tb, va, sp⟩ w) := by kernel_rfl
theorem c18_4 (sc t b wd h th i tb va sp : PyData) (w : Rw) : G_law_18 (s18 ⟨sc, t, b, wd, h, (.tuple [(.bool true)]), th, i, tb, va, sp⟩ w) = .ok .nx (s19 ⟨sc, t, b, wd, h, (.tuple [(.bool true)]), th, i, tb, va, sp⟩ w) := by kernel_rfl
theorem c18_5 (sc t b wd h th i tb va sp : PyData) (w : Rw) : G_law_18 (s18 ⟨sc, t, b, wd, h, (.tuple [(.int (-1))]), th, i, tb, va, sp⟩ w) = .ok .nx (s19 ⟨sc, t, b, wd, h, (.tuple [(.int (-1))]), th, i, tb, va, sp⟩ w) := by kernel_rfl
theorem c18_6 (sc t b wd h th i tb va sp : PyData) (w : Rw) : G_law_18 (s18 ⟨sc, t, b, wd, h, (.tuple [(.str "0")]), th, i, tb, va, sp⟩ w) = .ok .nx (s19 ⟨sc, t, b, wd, h, (.tuple [(.str "0")]), th, i, tb, va, sp⟩ w) := by kernel_rfl
theorem c18_7 (sc t b wd h th i tb va sp : PyData) (w : Rw) : G_law_18 (s18 ⟨sc, t, b, wd, h, (.tuple [(.int 0), (.int 0), (.int 0), (.int 0), (.int 0), (.int 0), (.int 0), (.int 0), (.int 0), (.int 0), (.int 0), (.int 0), (.int 0), (.int 0), (.int 0), (.int 0), (.int 0), (.int 0), (.int 0), (.int 0), (.int 0), (.int 0), (.int 0), (.int 0), (.int 0), (.int 0), (.int 0), (.int 0), (.int 0), (.int 0), (.int 0), (.int 0), (.int 0), (.int 0), (.int 0), (.int 0), (.int 0), (.int 0), (.int 0), (.int 0), (.int 0), (.int 0), (.int 0), (.int 0), (.int 0), (.int 0), (.int 0), (.int 0), (.int 0), (.int 0), (.int 0), (.int 0), (.int 0), (.int 0), (.int 0), (.int 0), (.int 0), (.int 0), (.int 0), (.int 0), (.int 0)]), th, i, tb, va, sp⟩ w) = .ok .nx (s19 ⟨sc, t, b, wd, h, (.tuple [(.int 0), (.int 0), (.int 0), (.int 0), (.int 0), (.int 0), (.int 0), (.int 0), (.int 0), (.int 0), (.int 0), (.int 0), (.int 0), (.int 0), (.int 0), (.int 0), (.int 0), (.int 0), (.int 0), (.int 0), (.int 0), (.int 0), (.int 0), (.int 0), (.int 0), (.int 0), (.int 0), (.int 0), (.int 0), (.int 0), (.int 0), (.int 0), (.int 0), (.int 0), (.int 0), (.int 0), (.int 0), (.int 0), (.int 0), (.int 0), (.int 0), (.int 0), (.int 0), (.int 0), (.int 0), (.int 0), (.int 0), (.int 0), (.int 0), (.int 0), (.int 0), (.int 0), (.int 0), (.int 0), (.int 0), (.int 0), (.int 0), (.int 0), (.int 0), (.int 0), (.int 0)]), th, i, tb, va, sp⟩ w) := by kernel_rfl
theorem c18_8 (sc t b wd h th i tb va sp : PyData) (w : Rw) : G_law_18 (s18 ⟨sc, t, b, wd, h, (.dict []), th, i, tb, va, sp⟩ w) = .ok .nx (s19 ⟨sc, t, b, wd, h, (.dict []), th, i, tb, va, sp⟩ w) := by kernel_rfl
theorem c18_9 (sc t b wd h th i tb va sp : PyData) (w : Rw) : G_law_18 (s18 ⟨sc, t, b, wd, h, (.tuple [(.int 1)]), th, i, tb, va, sp⟩ w) = .ok .nx (s19 ⟨sc, t, b, wd, h, (.tuple [(.int 1)]), th, i, tb, va, sp⟩ w) := by kernel_rfl
theorem c18_10 (sc t b wd h th i tb va sp : PyData) (w : Rw) : G_law_18 (s18 ⟨sc, t, b, wd, h, (.tuple [(.int 0), (.int 3), (.int 0), (.int 0), (.int 0)]), th, i, tb, va, sp⟩ w) = .ok .nx (s19 ⟨sc, t, b, wd, h, (.tuple [(.int 0), (.int 3), (.int 0), (.int 0), (.int 0)]), th, i, tb, va, sp⟩ w) := by kernel_rfl
theorem p18 (d : D) (w : Rw) (hv : d.r ∈ ROWS) : G_law_18 (s18 d w) = .ok .nx (s19 d w) := by
  obtain ⟨sc, t, b, wd, h, r, th, i, tb, va, sp⟩ := d
  simp only [ROWS, List.mem_cons, List.not_mem_nil, or_false] at hv
  rcases hv with rfl | rfl | rfl | rfl | rfl | rfl | rfl | rfl | rfl | rfl | rfl
  · exact c18_0 sc t b wd h th i tb va sp w
  · exact c18_1 sc t b wd h th i tb va sp w
  · exact c18_2 sc t b wd h th i tb va sp w
  · exact c18_3 sc t b wd h th i tb va sp w
  · exact c18_4 sc t b wd h th i tb va sp w
  · exact c18_5 sc t b wd h th i tb va sp w
  · exact c18_6 sc t b wd h th i tb va sp w
  · exact c18_7 sc t b wd h th i tb va sp w
  · exact c18_8 sc t b wd h th i tb va sp w
  · exact c18_9 sc t b wd h th i tb va sp w
  · exact c18_10 sc t b wd h th i tb va sp w
theorem c20_0 (sc t b wd h r i tb va sp : PyData) (w : Rw) : G_law_20 (s20 ⟨sc, t, b, wd, h, r, .none, i, tb, va, sp⟩ w) = .ok .nx (s21 ⟨sc, t, b, wd, h, r, .none, i, tb, va, sp⟩ w) := by kernel_rfl
theorem c20_1 (sc t b wd h r i tb va sp : PyData) (w : Rw) : G_law_20 (s20 ⟨sc, t, b, wd, h, r, (.tuple []), i, tb, va, sp⟩ w) = .ok .nx (s21 ⟨sc, t, b, wd, h, r, (.tuple []), i, tb, va, sp⟩ w) := by kernel_rfl
theorem c20_2 (sc t b wd h r i tb va sp : PyData) (w : Rw) : G_law_20 (s20 ⟨sc, t, b, wd, h, r, (.list [(.int 0)]), i, tb, va, sp⟩ w) = .ok .nx (s21 ⟨sc, t, b, wd, h, r, (.list [(.int 0)]), i, tb, va, sp⟩ w) := by kernel_rfl
theorem c20_3 (sc t b wd h r i tb va sp : PyData) (w : Rw) : G_law_20 (s20 ⟨sc, t, b, wd, h, r, (.tuple [(.int 4)]), i, tb, va, sp⟩ w) = .ok .nx (s21 ⟨sc, t, b, wd, h, r, (.tuple [(.int 4)]), i, tb, va, sp⟩ w) := by kernel_rfl
theorem c20_4 (sc t b wd h r i tb va sp : PyData) (w : Rw) : G_law_20 (s20 ⟨sc, t, b, wd, h, r, (.tuple [(.int 1), (.int 0)]), i, tb, va, sp⟩ w) = .ok .nx (s21 ⟨sc, t, b, wd, h, r, (.tuple [(.int 1), (.int 0)]), i, tb, va, sp⟩ w) := by kernel_rfl
theorem c20_5 (sc t b wd h r i tb va sp : PyData) (w : Rw) : G_law_20 (s20 ⟨sc, t, b, wd, h, r, (.tuple [(.int 0), (.int 0)]), i, tb, va, sp⟩ w) = .ok .nx (s21 ⟨sc, t, b, wd, h, r, (.tuple [(.int 0), (.int 0)]), i, tb, va, sp⟩ w) := by kernel_rfl
theorem c20_6 (sc t b wd h r i tb va sp : PyData) (w : Rw) : G_law_20 (s20 ⟨sc, t, b, wd, h, r, (.tuple [(.bool true)]), i, tb, va, sp⟩ w) = .ok .nx (s21 ⟨sc, t, b, wd, h, r, (.tuple [(.bool true)]), i, tb, va, sp⟩ w) := by kernel_rfl
theorem c20_7 (sc t b wd h r i tb va sp : PyData) (w : Rw) : G_law_20 (s20 ⟨sc, t, b, wd, h, r, (.tuple [(.int (-1))]), i, tb, va, sp⟩ w) = .ok .nx (s21 ⟨sc, t, b, wd, h, r, (.tuple [(.int (-1))]), i, tb, va, sp⟩ w) := by kernel_rfl
theorem c20_8 (sc t b wd h r i tb va sp : PyData) (w : Rw) : G_law_20 (s20 ⟨sc, t, b, wd, h, r, (.dict []), i, tb, va, sp⟩ w) = .ok .nx (s21 ⟨sc, t, b, wd, h, r, (.dict []), i, tb, va, sp⟩ w) := by kernel_rfl
theorem p20 (d : D) (w : Rw) (hv : d.th ∈ THU) : G_law_20 (s20 d w) = .ok .nx (s21 d w) := by
  obtain ⟨sc, t, b, wd, h, r, th, i, tb, va, sp⟩ := d
  simp only [THU, List.mem_cons, List.not_mem_nil, or_false] at hv
  rcases hv with rfl | rfl | rfl | rfl | rfl | rfl | rfl | rfl | rfl
  · exact c20_0 sc t b wd h r i tb va sp w
  · exact c20_1 sc t b wd h r i tb va sp w
  · exact c20_2 sc t b wd h r i tb va sp w
  · exact c20_3 sc t b wd h r i tb va sp w
  · exact c20_4 sc t b wd h r i tb va sp w
  · exact c20_5 sc t b wd h r i tb va sp w
  · exact c20_6 sc t b wd h r i tb va sp w
  · exact c20_7 sc t b wd h r i tb va sp w
  · exact c20_8 sc t b wd h r i tb va sp w
theorem c26_0 (sc t b wd h r th i tb : PyData) (w : Rw) : G_law_26 (s26 ⟨sc, t, b, wd, h, r, th, i, tb, .none, .none⟩ w) = .ok .nx (s27 ⟨sc, t, b, wd, h, r, th, i, tb, .none, .none⟩ w) := by kernel_rfl
theorem c26_1 (sc t b wd h r th i tb : PyData) (w : Rw) : G_law_26 (s26 ⟨sc, t, b, wd, h, r, th, i, tb, (.tuple []), .none⟩ w) = .ok .nx (s27 ⟨sc, t, b, wd, h, r, th, i, tb, (.tuple []), .none⟩ w) := by kernel_rfl
theorem c26_2 (sc t b wd h r th i tb : PyData) (w : Rw) : G_law_26 (s26 ⟨sc, t, b, wd, h, r, th, i, tb, (.list [(.tuple [.none, .none, (.tuple [(.int 0), (.int 0)]), (.tuple [(.int 1), (.int 1)])])]), .none⟩ w) = .ok .nx (s27 ⟨sc, t, b, wd, h, r, th, i, tb, (.list [(.tuple [.none, .none, (.tuple [(.int 0), (.int 0)]), (.tuple [(.int 1), (.int 1)])])]), .none⟩ w) := by kernel_rfl
theorem e26_0_0 (sc t b wd h r th i tb : PyData) (w : Rw) : G_law_26 (s26 ⟨sc, t, b, wd, h, r, th, i, tb, (.tuple [.none, (.tuple [.none, .none, (.tuple [(.int 0), (.int 0)]), (.tuple [(.int 1), (.int 1)])])]), (.int 0)⟩ w) = .ok .nx (s27 ⟨sc, t, b, wd, h, r, th, i, tb, (.tuple [.none, (.tuple [.none, .none, (.tuple [(.int 0), (.int 0)]), (.tuple [(.int 1), (.int 1)])])]), (.int 0)⟩ w) := by kernel_rfl
theorem e26_0_1 (sc t b wd h r th i tb : PyData) (w : Rw) : G_law_26 (s26 ⟨sc, t, b, wd, h, r, th, i, tb, (.tuple [(.tuple []), (.tuple [.none, .none, (.tuple [(.int 0), (.int 0)]), (.tuple [(.int 1), (.int 1)])])]), (.int 0)⟩ w) = .ok .nx (s27 ⟨sc, t, b, wd, h, r, th, i, tb, (.tuple [(.tuple []), (.tuple [.none, .none, (.tuple [(.int 0), (.int 0)]), (.tuple [(.int 1), (.int 1)])])]), (.int 0)⟩ w) := by kernel_rfl
theorem e26_0_2 (sc t b wd h r th i tb : PyData) (w : Rw) : G_law_26 (s26 ⟨sc, t, b, wd, h, r, th, i, tb, (.tuple [(.tuple [.none, .none, (.tuple [(.int 0), (.int 0)])]), (.tuple [.none, .none, (.tuple [(.int 0), (.int 0)]), (.tuple [(.int 1), (.int 1)])])]), (.int 0)⟩ w) = .ok .nx (s27 ⟨sc, t, b, wd, h, r, th, i, tb, (.tuple [(.tuple [.none, .none, (.tuple [(.int 0), (.int 0)])]), (.tuple [.none, .none, (.tuple [(.int 0), (.int 0)]), (.tuple [(.int 1), (.int 1)])])]), (.int 0)⟩ w) := by kernel_rfl
theorem e26_0_3 (sc t b wd h r th i tb : PyData) (w : Rw) : G_law_26 (s26 ⟨sc, t, b, wd, h, r, th, i, tb, (.tuple [(.tuple [.none, .none, (.tuple [(.int 0), (.int 0)]), (.tuple [(.int 1), (.int 1)]), .none]), (.tuple [.none, .none, (.tuple [(.int 0), (.int 0)]), (.tuple [(.int 1), (.int 1)])])]), (.int 0)⟩ w) = .ok .nx (s27 ⟨sc, t, b, wd, h, r, th, i, tb, (.tuple [(.tuple [.none, .none, (.tuple [(.int 0), (.int 0)]), (.tuple [(.int 1), (.int 1)]), .none]), (.tuple [.none, .none, (.tuple [(.int 0), (.int 0)]), (.tuple [(.int 1), (.int 1)])])]), (.int 0)⟩ w) := by kernel_rfl
theorem e26_0_4 (sc t b wd h r th i tb : PyData) (w : Rw) : G_law_26 (s26 ⟨sc, t, b, wd, h, r, th, i, tb, (.tuple [(.tuple [(.tuple [(.int 2), (.int 0)]), (.tuple [(.int 2), (.int 0)]), (.tuple [(.int 2), (.int 0)]), (.tuple [(.int 2), (.int 0)])]), (.tuple [.none, .none, (.tuple [(.int 0), (.int 0)]), (.tuple [(.int 1), (.int 1)])])]), (.int 0)⟩ w) = .ok .nx (s27 ⟨sc, t, b, wd, h, r, th, i, tb, (.tuple [(.tuple [(.tuple [(.int 2), (.int 0)]), (.tuple [(.int 2), (.int 0)]), (.tuple [(.int 2), (.int 0)]), (.tuple [(.int 2), (.int 0)])]), (.tuple [.none, .none, (.tuple [(.int 0), (.int 0)]), (.tuple [(.int 1), (.int 1)])])]), (.int 0)⟩ w) := by kernel_rfl
theorem e26_0_5 (sc t b wd h r th i tb : PyData) (w : Rw) : G_law_26 (s26 ⟨sc, t, b, wd, h, r, th, i, tb, (.tuple [(.tuple [(.tuple [(.int 0), (.int 31)]), (.tuple [(.int 0), (.int 31)]), (.tuple [(.int 0), (.int 31)]), (.tuple [(.int 0), (.int 31)])]), (.tuple [.none, .none, (.tuple [(.int 0), (.int 0)]), (.tuple [(.int 1), (.int 1)])])]), (.int 0)⟩ w) = .ok .nx (s27 ⟨sc, t, b, wd, h, r, th, i, tb, (.tuple [(.tuple [(.tuple [(.int 0), (.int 31)]), (.tuple [(.int 0), (.int 31)]), (.tuple [(.int 0), (.int 31)]), (.tuple [(.int 0), (.int 31)])]), (.tuple [.none, .none, (.tuple [(.int 0), (.int 0)]), (.tuple [(.int 1), (.int 1)])])]), (.int 0)⟩ w) := by kernel_rfl
theorem e26_0_6 (sc t b wd h r th i tb : PyData) (w : Rw) : G_law_26 (s26 ⟨sc, t, b, wd, h, r, th, i, tb, (.tuple [(.tuple [(.tuple [(.int 0)]), (.tuple [(.int 0)]), (.tuple [(.int 0)]), (.tuple [(.int 0)])]), (.tuple [.none, .none, (.tuple [(.int 0), (.int 0)]), (.tuple [(.int 1), (.int 1)])])]), (.int 0)⟩ w) = .ok .nx (s27 ⟨sc, t, b, wd, h, r, th, i, tb, (.tuple [(.tuple [(.tuple [(.int 0)]), (.tuple [(.int 0)]), (.tuple [(.int 0)]), (.tuple [(.int 0)])]), (.tuple [.none, .none, (.tuple [(.int 0), (.int 0)]), (.tuple [(.int 1), (.int 1)])])]), (.int 0)⟩ w) := by kernel_rfl
theorem e26_0_7 (sc t b wd h r th i tb : PyData) (w : Rw) : G_law_26 (s26 ⟨sc, t, b, wd, h, r, th, i, tb, (.tuple [(.tuple [(.tuple [(.bool true), (.int 0)]), (.tuple [(.bool true), (.int 0)]), (.tuple [(.bool true), (.int 0)]), (.tuple [(.bool true), (.int 0)])]), (.tuple [.none, .none, (.tuple [(.int 0), (.int 0)]), (.tuple [(.int 1), (.int 1)])])]), (.int 0)⟩ w) = .ok .nx (s27 ⟨sc, t, b, wd, h, r, th, i, tb, (.tuple [(.tuple [(.tuple [(.bool true), (.int 0)]), (.tuple [(.bool true), (.int 0)]), (.tuple [(.bool true), (.int 0)]), (.tuple [(.bool true), (.int 0)])]), (.tuple [.none, .none, (.tuple [(.int 0), (.int 0)]), (.tuple [(.int 1), (.int 1)])])]), (.int 0)⟩ w) := by kernel_rfl
theorem e26_0_8 (sc t b wd h r th i tb : PyData) (w : Rw) : G_law_26 (s26 ⟨sc, t, b, wd, h, r, th, i, tb, (.tuple [(.list [.none, .none, .none, .none]), (.tuple [.none, .none, (.tuple [(.int 0), (.int 0)]), (.tuple [(.int 1), (.int 1)])])]), (.int 0)⟩ w) = .ok .nx (s27 ⟨sc, t, b, wd, h, r, th, i, tb, (.tuple [(.list [.none, .none, .none, .none]), (.tuple [.none, .none, (.tuple [(.int 0), (.int 0)]), (.tuple [(.int 1), (.int 1)])])]), (.int 0)⟩ w) := by kernel_rfl
theorem e26_1_0 (sc t b wd h r th i tb : PyData) (w : Rw) : G_law_26 (s26 ⟨sc, t, b, wd, h, r, th, i, tb, (.tuple [(.tuple [.none, .none, (.tuple [(.int 0), (.int 0)]), (.tuple [(.int 1), (.int 1)])]), .none]), (.int 1)⟩ w) = .ok .nx (s27 ⟨sc, t, b, wd, h, r, th, i, tb, (.tuple [(.tuple [.none, .none, (.tuple [(.int 0), (.int 0)]), (.tuple [(.int 1), (.int 1)])]), .none]), (.int 1)⟩ w) := by kernel_rfl
theorem e26_1_1 (sc t b wd h r th i tb : PyData) (w : Rw) : G_law_26 (s26 ⟨sc, t, b, wd, h, r, th, i, tb, (.tuple [(.tuple [.none, .none, (.tuple [(.int 0), (.int 0)]), (.tuple [(.int 1), (.int 1)])]), (.tuple [])]), (.int 1)⟩ w) = .ok .nx (s27 ⟨sc, t, b, wd, h, r, th, i, tb, (.tuple [(.tuple [.none, .none, (.tuple [(.int 0), (.int 0)]), (.tuple [(.int 1), (.int 1)])]), (.tuple [])]), (.int 1)⟩ w) := by kernel_rfl
theorem e26_1_2 (sc t b wd h r th i tb : PyData) (w : Rw) : G_law_26 (s26 ⟨sc, t, b, wd, h, r, th, i, tb, (.tuple [(.tuple [.none, .none, (.tuple [(.int 0), (.int 0)]), (.tuple [(.int 1), (.int 1)])]), (.tuple [.none, .none, (.tuple [(.int 0), (.int 0)])])]), (.int 1)⟩ w) = .ok .nx (s27 ⟨sc, t, b, wd, h, r, th, i, tb, (.tuple [(.tuple [.none, .none, (.tuple [(.int 0), (.int 0)]), (.tuple [(.int 1), (.int 1)])]), (.tuple [.none, .none, (.tuple [(.int 0), (.int 0)])])]), (.int 1)⟩ w) := by kernel_rfl
theorem e26_1_3 (sc t b wd h r th i tb : PyData) (w : Rw) : G_law_26 (s26 ⟨sc, t, b, wd, h, r, th, i, tb, (.tuple [(.tuple [.none, .none, (.tuple [(.int 0), (.int 0)]), (.tuple [(.int 1), (.int 1)])]), (.tuple [.none, .none, (.tuple [(.int 0), (.int 0)]), (.tuple [(.int 1), (.int 1)]), .none])]), (.int 1)⟩ w) = .ok .nx (s27 ⟨sc, t, b, wd, h, r, th, i, tb, (.tuple [(.tuple [.none, .none, (.tuple [(.int 0), (.int 0)]), (.tuple [(.int 1), (.int 1)])]), (.tuple [.none, .none, (.tuple [(.int 0), (.int 0)]), (.tuple [(.int 1), (.int 1)]), .none])]), (.int 1)⟩ w) := by kernel_rfl
theorem e26_1_4 (sc t b wd h r th i tb : PyData) (w : Rw) : G_law_26 (s26 ⟨sc, t, b, wd, h, r, th, i, tb, (.tuple [(.tuple [.none, .none, (.tuple [(.int 0), (.int 0)]), (.tuple [(.int 1), (.int 1)])]), (.tuple [(.tuple [(.int 2), (.int 0)]), (.tuple [(.int 2), (.int 0)]), (.tuple [(.int 2), (.int 0)]), (.tuple [(.int 2), (.int 0)])])]), (.int 1)⟩ w) = .ok .nx (s27 ⟨sc, t, b, wd, h, r, th, i, tb, (.tuple [(.tuple [.none, .none, (.tuple [(.int 0), (.int 0)]), (.tuple [(.int 1), (.int 1)])]), (.tuple [(.tuple [(.int 2), (.int 0)]), (.tuple [(.int 2), (.int 0)]), (.tuple [(.int 2), (.int 0)]), (.tuple [(.int 2), (.int 0)])])]), (.int 1)⟩ w) := by kernel_rfl
theorem e26_1_5 (sc t b wd h r th i tb : PyData) (w : Rw) : G_law_26 (s26 ⟨sc, t, b, wd, h, r, th, i, tb, (.tuple [(.tuple [.none, .none, (.tuple [(.int 0), (.int 0)]), (.tuple [(.int 1), (.int 1)])]), (.tuple [(.tuple [(.int 0), (.int 31)]), (.tuple [(.int 0), (.int 31)]), (.tuple [(.int 0), (.int 31)]), (.tuple [(.int 0), (.int 31)])])]), (.int 1)⟩ w) = .ok .nx (s27 ⟨sc, t, b, wd, h, r, th, i, tb, (.tuple [(.tuple [.none, .none, (.tuple [(.int 0), (.int 0)]), (.tuple [(.int 1), (.int 1)])]), (.tuple [(.tuple [(.int 0), (.int 31)]), (.tuple [(.int 0), (.int 31)]), (.tuple [(.int 0), (.int 31)]), (.tuple [(.int 0), (.int 31)])])]), (.int 1)⟩ w) := by kernel_rfl
theorem e26_1_6 (sc t b wd h r th i tb : PyData) (w : Rw) : G_law_26 (s26 ⟨sc, t, b, wd, h, r, th, i, tb, (.tuple [(.tuple [.none, .none, (.tuple [(.int 0), (.int 0)]), (.tuple [(.int 1), (.int 1)])]), (.tuple [(.tuple [(.int 0)]), (.tuple [(.int 0)]), (.tuple [(.int 0)]), (.tuple [(.int 0)])])]), (.int 1)⟩ w) = .ok .nx (s27 ⟨sc, t, b, wd, h, r, th, i, tb, (.tuple [(.tuple [.none, .none, (.tuple [(.int 0), (.int 0)]), (.tuple [(.int 1), (.int 1)])]), (.tuple [(.tuple [(.int 0)]), (.tuple [(.int 0)]), (.tuple [(.int 0)]), (.tuple [(.int 0)])])]), (.int 1)⟩ w) := by kernel_rfl
theorem e26_1_7 (sc t b wd h r th i tb : PyData) (w : Rw) : G_law_26 (s26 ⟨sc, t, b, wd, h, r, th, i, tb, (.tuple [(.tuple [.none, .none, (.tuple [(.int 0), (.int 0)]), (.tuple [(.int 1), (.int 1)])]), (.tuple [(.tuple [(.bool true), (.int 0)]), (.tuple [(.bool true), (.int 0)]), (.tuple [(.bool true), (.int 0)]), (.tuple [(.bool true), (.int 0)])])]), (.int 1)⟩ w) = .ok .nx (s27 ⟨sc, t, b, wd, h, r, th, i, tb, (.tuple [(.tuple [.none, .none, (.tuple [(.int 0), (.int 0)]), (.tuple [(.int 1), (.int 1)])]), (.tuple [(.tuple [(.bool true), (.int 0)]), (.tuple [(.bool true), (.int 0)]), (.tuple [(.bool true), (.int 0)]), (.tuple [(.bool true), (.int 0)])])]), (.int 1)⟩ w) := by kernel_rfl
theorem e26_1_8 (sc t b wd h r th i tb : PyData) (w : Rw) : G_law_26 (s26 ⟨sc, t, b, wd, h, r, th, i, tb, (.tuple [(.tuple [.none, .none, (.tuple [(.int 0), (.int 0)]), (.tuple [(.int 1), (.int 1)])]), (.list [.none, .none, .none, .none])]), (.int 1)⟩ w) = .ok .nx (s27 ⟨sc, t, b, wd, h, r, th, i, tb, (.tuple [(.tuple [.none, .none, (.tuple [(.int 0), (.int 0)]), (.tuple [(.int 1), (.int 1)])]), (.list [.none, .none, .none, .none])]), (.int 1)⟩ w) := by kernel_rfl
theorem p26 (d : D) (w : Rw) (ht : Tab d) (hv : (.tuple [d.va, d.sp] : PyData) ∈ T25 d) : G_law_26 (s26 d w) = .ok .nx (s27 d w) := by
  obtain ⟨sc, t, b, wd, h, r, th, i, tb, va, sp⟩ := d
  obtain ⟨x, hm, hx⟩ := ht
  simp only [ODD, List.mem_cons, List.not_mem_nil, or_false] at hm
  simp only [T25, List.mem_cons, List.not_mem_nil, or_false] at hv
  simp only at hx
  have key : (.tuple [va, sp] : PyData) = tb → G_law_26 (s26 ⟨sc, t, b, wd, h, r, th, i, tb, va, sp⟩ w) = .ok .nx (s27 ⟨sc, t, b, wd, h, r, th, i, tb, va, sp⟩ w) := by
    intro e
    rcases hx with e2 | e2
    · rw [e2] at e
      simp only [PyData.tuple.injEq, List.cons.injEq, and_true] at e
      obtain ⟨rfl, rfl⟩ := e
      rcases hm with rfl | rfl | rfl | rfl | rfl | rfl | rfl | rfl | rfl
      · exact e26_0_0 sc t b wd h r th i tb w
      · exact e26_0_1 sc t b wd h r th i tb w
      · exact e26_0_2 sc t b wd h r th i tb w
      · exact e26_0_3 sc t b wd h r th i tb w
      · exact e26_0_4 sc t b wd h r th i tb w
      · exact e26_0_5 sc t b wd h r th i tb w
      · exact e26_0_6 sc t b wd h r th i tb w
      · exact e26_0_7 sc t b wd h r th i tb w
      · exact e26_0_8 sc t b wd h r th i tb w
    · rw [e2] at e
      simp only [PyData.tuple.injEq, List.cons.injEq, and_true] at e
      obtain ⟨rfl, rfl⟩ := e
      rcases hm with rfl | rfl | rfl | rfl | rfl | rfl | rfl | rfl | rfl
      · exact e26_1_0 sc t b wd h r th i tb w
      · exact e26_1_1 sc t b wd h r th i tb w
      · exact e26_1_2 sc t b wd h r th i tb w
      · exact e26_1_3 sc t b wd h r th i tb w
      · exact e26_1_4 sc t b wd h r th i tb w
      · exact e26_1_5 sc t b wd h r th i tb w
      · exact e26_1_6 sc t b wd h r th i tb w
      · exact e26_1_7 sc t b wd h r th i tb w
      · exact e26_1_8 sc t b wd h r th i tb w
  rcases hv with e | e | e | e | e | e | e
  · simp only [PyData.tuple.injEq, List.cons.injEq, and_true] at e
    obtain ⟨rfl, rfl⟩ := e
    exact c26_0 sc t b wd h r th i tb w
  · simp only [PyData.tuple.injEq, List.cons.injEq, and_true] at e
    obtain ⟨rfl, rfl⟩ := e
    exact c26_1 sc t b wd h r th i tb w
  · simp only [PyData.tuple.injEq, List.cons.injEq, and_true] at e
    obtain ⟨rfl, rfl⟩ := e
    exact c26_2 sc t b wd h r th i tb w
  · exact key e
  · exact key e
  · exact key e
  · exact key e
theorem p28 (d : D) (w : Rw) : ∃ e, G_law_28 (s28 d w) = .ok (.ret (.dat (.bool true))) e := ⟨_, (by kernel_rfl : G_law_28 (s28 d w) = .ok (.ret (.dat (.bool true))) (outE (G_law_28 (s28 d w))))⟩
theorem sq_at {m k : M Fl} {e e2 : En} {o : Out Fl} (h : m e = .ok .nx e2) (h2 : k e2 = o) : sq m k e = o := by
  unfold sq
  rw [h]
  exact h2
theorem law_ok (ns : List Int) : ∃ ob, F_law [.dat (.list (ns.map PyData.int))] [.ltab] = .ok (.dat (.bool true)) ob := by
  have hp : (0 : Int) ≤ (⟨ns, 0, 3002, 0⟩ : Rw).p := Int.le_refl 0
  have h0 := p0 ns ⟨.none, .none, .none, .none, .none, .none, .none, .none, .none, .none, .none⟩
  generalize (⟨.list (ns.map PyData.int), .none, .none, .none, .none, .none, .none, .none, .none, .none, .none⟩ : D) = d at h0
  generalize (⟨ns, 0, 3002, 0⟩ : Rw) = w at h0 hp
  have h1 := p1 d w
  have h2 := p2 d w
  have h3 := p3 d w
  have h4 := p4 d w
  have h5 := p5 d w
  have h6 := p6 d w
  obtain ⟨w8, j, hp8, hj, h7⟩ := p7 d w hp
  have ht : ({ d with t := .int (j : Int) } : D).t = .int (j : Int) := rfl
  generalize ({ d with t := .int (j : Int) } : D) = d8 at h7 ht
  obtain ⟨v9, w9, hp9, hv9, h8⟩ := p8 d8 w8 hp8
  have ht : ({ d8 with b := v9 } : D).t = .int (j : Int) := ht
  have hb9 : ({ d8 with b := v9 } : D).b ∈ T8 := hv9
  have h8' : G_law_8 (s8 d8 w8) = .ok .nx (s9 { ({ d8 with b := v9 } : D) with wd := .str "almanac" } w9) := h8.trans (by kernel_rfl)
  generalize ({ d8 with b := v9 } : D) = d9 at h8' ht hb9
  obtain ⟨d10, w10, hp10, hb10, h9⟩ := p9 d9 w9 hp9 j hj ht hb9
  have h10 := p10 d10 w10 hb10
  have h11 := p11 d10 w10
  have h12 := p12 d10 w10
  have h13 := p13 d10 w10
  obtain ⟨w15, hp15, h14⟩ := p14 d10 w10 hp10
  obtain ⟨v16, w16, hp16, hv16, h15⟩ := p15 d10 w15 hp15
  have hv16 : ({ d10 with h := v16 } : D).h ∈ HOU := hv16
  generalize ({ d10 with h := v16 } : D) = d16 at h15 hv16
  have h16 := p16 d16 w16 hv16
  obtain ⟨v18, w18, hp18, hv18, h17⟩ := p17 d16 w16 hp16
  have hv18 : ({ d16 with r := v18 } : D).r ∈ ROWS := hv18
  generalize ({ d16 with r := v18 } : D) = d18 at h17 hv18
  have h18 := p18 d18 w18 hv18
  obtain ⟨v20, w20, hp20, hv20, h19⟩ := p19 d18 w18 hp18
  have hv20 : ({ d18 with th := v20 } : D).th ∈ THU := hv20
  generalize ({ d18 with th := v20 } : D) = d20 at h19 hv20
  have h20 := p20 d20 w20 hv20
  obtain ⟨w22, v22, hp22, hv22, h21⟩ := p21 d20 w20 hp20
  have hv22 : ({ d20 with i := v22 } : D).i = .int 0 ∨ ({ d20 with i := v22 } : D).i = .int 1 := hv22
  generalize ({ d20 with i := v22 } : D) = d22 at h21 hv22
  have h22 := p22 d22 w22
  have h23 := p23 d22 w22
  obtain ⟨d25, w25, hp25, ht25, h24⟩ := p24 d22 w22 hp22 hv22
  obtain ⟨a, c, w26, hp26, hv26, h25⟩ := p25 d25 w25 hp25 ht25
  have ht26 : Tab { d25 with va := a, sp := c } := ht25
  have hv26 : (.tuple [({ d25 with va := a, sp := c } : D).va, ({ d25 with va := a, sp := c } : D).sp] : PyData) ∈ T25 { d25 with va := a, sp := c } := hv26
  generalize ({ d25 with va := a, sp := c } : D) = d26 at h25 ht26 hv26
  have h26 := p26 d26 w26 ht26 hv26
  have h27 := p27 d26 w26
  obtain ⟨e, h28⟩ := p28 d26 w26
  have hG : G_law ⟨slotsG 21 [.dat (.list (ns.map PyData.int))], [.ltab]⟩ = .ok (.ret (.dat (.bool true))) e := by
    unfold G_law
    exact sq_at h0 (sq_at h1 (sq_at h2 (sq_at h3 (sq_at h4 (sq_at h5 (sq_at h6 (sq_at h7 (sq_at h8' (sq_at h9 (sq_at h10 (sq_at h11 (sq_at h12 (sq_at h13 (sq_at h14 (sq_at h15 (sq_at h16 (sq_at h17 (sq_at h18 (sq_at h19 (sq_at h20 (sq_at h21 (sq_at h22 (sq_at h23 (sq_at h24 (sq_at h25 (sq_at h26 (sq_at h27 (h28))))))))))))))))))))))))))))
  refine ⟨e.ob, ?_⟩
  have hl : ([Rv.dat (PyData.list (ns.map PyData.int))] : List Rv).length = 1 := rfl
  unfold F_law runG
  rw [if_pos hl, hG]
end Pd
namespace Pd
open PySem PySem.Spec PyProof.Rows L2
def TTof (K : PySem.W.Frag) : Tt := ⟨fun P => P ∈ (tfg.map (He.cT K)).map (·.2), 0, ⟨"", none⟩, .none, none⟩
theorem law_at {w : World} {K : PySem.W.Frag} {h : Heap} {mg : Str → Option Value} {f : Addr} (X : K.In h) (G : h.Ns mainGlobals mg) (hfa : mg ("law" : Str) = some (.ref f)) (c : He.SaysX fa fn [] tf exB w h K) :
    LamX.LawAtS PySem.Challenge.rw_wrongclock_k02_almanacs_refused w K (L2.CX (PySem.Challenge.rw_wrongclock_k02_almanacs_refused).prog w) 9 63 "_law_script" mg f h := by
  obtain ⟨fd_is_number, h_is_number⟩ := c.t.d.def_ 0 (d := dd ("is_number", none) "is_number" "is_number" (top 17)) rfl
  obtain ⟨fd_are_settings, h_are_settings⟩ := c.t.d.def_ 1 (d := dd ("are_settings", none) "are_settings" "are_settings" (top 18)) rfl
  obtain ⟨fd_need_almanac, h_need_almanac⟩ := c.t.d.def_ 2 (d := dd ("need_almanac", none) "need_almanac" "need_almanac" (top 19)) rfl
  obtain ⟨fd_shut_by, h_shut_by⟩ := c.t.d.def_ 3 (d := dd ("shut_by", none) "shut_by" "shut_by" (top 20)) rfl
  obtain ⟨fd_opened_by, h_opened_by⟩ := c.t.d.def_ 4 (d := dd ("opened_by", none) "opened_by" "opened_by" (top 21)) rfl
  obtain ⟨fd_urgent_at, h_urgent_at⟩ := c.t.d.def_ 5 (d := dd ("urgent_at", none) "urgent_at" "urgent_at" (top 22)) rfl
  obtain ⟨fd_are_wakings, h_are_wakings⟩ := c.t.d.def_ 6 (d := dd ("are_wakings", none) "are_wakings" "are_wakings" (top 23)) rfl
  obtain ⟨fd_are_sets, h_are_sets⟩ := c.t.d.def_ 7 (d := dd ("are_sets", none) "are_sets" "are_sets" (top 24)) rfl
  obtain ⟨fd_is_story, h_is_story⟩ := c.t.d.def_ 8 (d := dd ("is_story", none) "is_story" "is_story" (top 25)) rfl
  obtain ⟨fd_readings, h_readings⟩ := c.t.d.def_ 9 (d := dd ("readings", none) "readings" "readings" (top 27)) rfl
  obtain ⟨fd_need_hour, h_need_hour⟩ := c.t.d.def_ 10 (d := dd ("need_hour", none) "need_hour" "need_hour" (top 28)) rfl
  obtain ⟨fd_shut, h_shut⟩ := c.t.d.def_ 11 (d := dd ("shut", none) "shut" "shut" (top 29)) rfl
  obtain ⟨fd_opened, h_opened⟩ := c.t.d.def_ 12 (d := dd ("opened", none) "opened" "opened" (top 30)) rfl
  obtain ⟨fd_urgent, h_urgent⟩ := c.t.d.def_ 13 (d := dd ("urgent", none) "urgent" "urgent" (top 31)) rfl
  obtain ⟨fd_next_settings, h_next_settings⟩ := c.t.d.def_ 14 (d := dd ("next_settings", none) "next_settings" "next_settings" (top 33)) rfl
  obtain ⟨fd_Steps_init, h_Steps_init⟩ := c.t.d.def_ 15 (d := dd ("Steps", some "__init__") "__init__" "Steps.__init__" (inClass (top 34) 0)) rfl
  obtain ⟨fd_Steps_behind, h_Steps_behind⟩ := c.t.d.def_ 16 (d := dd ("Steps", some "behind") "behind" "Steps.behind" (inClass (top 34) 1)) rfl
  obtain ⟨fd_need_readings, h_need_readings⟩ := c.t.d.def_ 17 (d := dd ("need_readings", none) "need_readings" "need_readings" (top 36)) rfl
  obtain ⟨fd_first_stands, h_first_stands⟩ := c.t.d.def_ 18 (d := dd ("first_stands", none) "first_stands" "first_stands" (top 37)) rfl
  obtain ⟨fd_stands_behind, h_stands_behind⟩ := c.t.d.def_ 19 (d := dd ("stands_behind", none) "stands_behind" "stands_behind" (top 38)) rfl
  obtain ⟨fd_stands_through, h_stands_through⟩ := c.t.d.def_ 20 (d := dd ("stands_through", none) "stands_through" "stands_through" (top 39)) rfl
  obtain ⟨fd_rule, h_rule⟩ := c.t.d.def_ 21 (d := dd ("rule", none) "rule" "rule" (top 40)) rfl
  obtain ⟨fd_may_be, h_may_be⟩ := c.t.d.def_ 22 (d := dd ("may_be", none) "may_be" "may_be" (top 41)) rfl
  obtain ⟨fd_is_conflict, h_is_conflict⟩ := c.t.d.def_ 23 (d := dd ("is_conflict", none) "is_conflict" "is_conflict" (top 45)) rfl
  obtain ⟨fd_Twins_init, h_Twins_init⟩ := c.t.d.def_ 24 (d := dd ("Twins", some "__init__") "__init__" "Twins.__init__" (inClass (top 46) 0)) rfl
  obtain ⟨fd_Twins_search, h_Twins_search⟩ := c.t.d.def_ 25 (d := dd ("Twins", some "search") "search" "Twins.search" (inClass (top 46) 2)) rfl
  obtain ⟨fd_conflicts, h_conflicts⟩ := c.t.d.def_ 26 (d := dd ("conflicts", none) "conflicts" "conflicts" (top 50)) rfl
  obtain ⟨fd_conflict, h_conflict⟩ := c.t.d.def_ 27 (d := dd ("conflict", none) "conflict" "conflict" (top 51)) rfl
  obtain ⟨fd_shows_conflict, h_shows_conflict⟩ := c.t.d.def_ 28 (d := dd ("shows_conflict", none) "shows_conflict" "shows_conflict" (top 53)) rfl
  obtain ⟨fd_has_keeper, h_has_keeper⟩ := c.t.d.def_ 29 (d := dd ("has_keeper", none) "has_keeper" "has_keeper" (top 54)) rfl
  obtain ⟨fd_places, h_places⟩ := c.t.d.def_ 30 (d := dd ("places", none) "places" "places" (top 55)) rfl
  obtain ⟨fd_shows_places, h_shows_places⟩ := c.t.d.def_ 31 (d := dd ("shows_places", none) "shows_places" "shows_places" (top 57)) rfl
  obtain ⟨fd_is_state, h_is_state⟩ := c.t.d.def_ 32 (d := dd ("is_state", none) "is_state" "is_state" (top 62)) rfl
  obtain ⟨fd_need_table, h_need_table⟩ := c.t.d.def_ 33 (d := dd ("need_table", none) "need_table" "need_table" (top 63)) rfl
  obtain ⟨fd_bad_story, h_bad_story⟩ := c.t.d.def_ 34 (d := dd ("bad_story", none) "bad_story" "bad_story" (top 68)) rfl
  obtain ⟨fd_keeper, h_keeper⟩ := c.t.d.def_ 35 (d := dd ("keeper", none) "keeper" "keeper" (top 70)) rfl
  obtain ⟨fd_greatest_late, h_greatest_late⟩ := c.t.d.def_ 36 (d := dd ("greatest_late", none) "greatest_late" "greatest_late" (top 72)) rfl
  obtain ⟨fd_least_rest, h_least_rest⟩ := c.t.d.def_ 37 (d := dd ("least_rest", none) "least_rest" "least_rest" (top 73)) rfl
  obtain ⟨fd_least_last, h_least_last⟩ := c.t.d.def_ 38 (d := dd ("least_last", none) "least_last" "least_last" (top 74)) rfl
  obtain ⟨fd_need_thumb, h_need_thumb⟩ := c.t.d.def_ 39 (d := dd ("need_thumb", none) "need_thumb" "need_thumb" (top 76)) rfl
  obtain ⟨fd_thumb_fails, h_thumb_fails⟩ := c.t.d.def_ 40 (d := dd ("thumb_fails", none) "thumb_fails" "thumb_fails" (top 78)) rfl
  obtain ⟨fd_good_thumbs, h_good_thumbs⟩ := c.t.d.def_ 41 (d := dd ("good_thumbs", none) "good_thumbs" "good_thumbs" (top 79)) rfl
  obtain ⟨fd__law_taken, h__law_taken⟩ := c.t.d.def_ 42 (d := dd ("_law_taken", none) "_law_taken" "_law_taken" (top 81)) rfl
  obtain ⟨fd__law_pick, h__law_pick⟩ := c.t.d.def_ 43 (d := dd ("_law_pick", none) "_law_pick" "_law_pick" (top 82)) rfl
  obtain ⟨fd__law_refused, h__law_refused⟩ := c.t.d.def_ 44 (d := dd ("_law_refused", none) "_law_refused" "_law_refused" (top 83)) rfl
  obtain ⟨fd__law_works, h__law_works⟩ := c.t.d.def_ 45 (d := dd ("_law_works", none) "_law_works" "_law_works" (top 84)) rfl
  obtain ⟨fd_law, h_law⟩ := c.t.d.def_ 46 (d := dd ("law", none) "law" "law" (top 85)) rfl
  have e := hfa.symm.trans (He.glo_ok X G (c.t.d.fact 43 (f := .glo "law") rfl))
  obtain ⟨fd_BadAlmanac_init, h_BadAlmanac_init⟩ := c.t.d.def_ 47 (d := dd ("BadAlmanac", some "__init__") "__init__" "BadAlmanac.__init__" (inClass (top 2) 0)) rfl
  obtain ⟨fd_BadTable_init, h_BadTable_init⟩ := c.t.d.def_ 48 (d := dd ("BadTable", some "__init__") "__init__" "BadTable.__init__" (inClass (top 6) 0)) rfl
  obtain ⟨fd_TooMany_init, h_TooMany_init⟩ := c.t.d.def_ 49 (d := dd ("TooMany", some "__init__") "__init__" "TooMany.__init__" (inClass (top 8) 0)) rfl
  have hmore := c.more
  unfold exB at hmore
  simp only [Bool.and_eq_true, Bool.not_eq_true'] at hmore
  obtain ⟨mT, mF, m_BadAlmanac, m_BadTable, m_TooMany, mS, mD⟩ := hmore
  cases e
  refine ⟨fd_law, tf.map (He.cT K), spG K (TTof K) F_law, fun p hp => ?_, fun p hp => ?_, fun p hp => ?_, fun s u => FunD.bindsA (ps := ["_law_script"]) h_law (fun _ _ _ _ _ _ us hl => match us, hl with | [_], _ => rfl) s [u] rfl, fun H a ns _ _ hH hS => ?_, fun base XB GB TB => ?_⟩
  · obtain ⟨q, hq, rfl⟩ := List.mem_map.mp hp
    exact c.empty q hq
  · obtain ⟨q, hq, rfl⟩ := List.mem_map.mp hp
    exact c.out q hq
  · obtain ⟨q, hq, rfl⟩ := List.mem_map.mp hp
    exact PySem.W.codeHd_of_K X (c.hd q hq)
  · obtain ⟨ob2, hl⟩ := law_ok ns
    refine law_startL (fun P hP => ?_) (hH _ (List.mem_map.mpr ⟨("_law_works", none), by simp [tf], rfl⟩)) (fun z => ?_) hS hl
    · obtain ⟨p, hp, rfl⟩ := List.mem_map.mp hP
      obtain ⟨q, hq, rfl⟩ := List.mem_map.mp hp
      exact hH _ (List.mem_map.mpr ⟨q, by simp [tf, tfg] at hq ⊢; rcases hq with rfl | rfl | rfl | rfl | rfl <;> simp, rfl⟩)
    · have z2 := List.contains_iff_mem.mpr z
      rw [mD] at z2
      cases z2
  · exact ok_law (TT := TTof K) ({
      fd_is_number := fd_is_number
      F_is_number := h_is_number
      m_is_number := He.glo_ok XB GB (c.t.d.fact 1 (f := .glo "is_number") rfl)
      fd_are_settings := fd_are_settings
      F_are_settings := h_are_settings
      m_are_settings := He.glo_ok XB GB (c.t.d.fact 2 (f := .glo "are_settings") rfl)
      fd_need_almanac := fd_need_almanac
      F_need_almanac := h_need_almanac
      m_need_almanac := He.glo_ok XB GB (c.t.d.fact 3 (f := .glo "need_almanac") rfl)
      fd_shut_by := fd_shut_by
      F_shut_by := h_shut_by
      m_shut_by := He.glo_ok XB GB (c.t.d.fact 4 (f := .glo "shut_by") rfl)
      fd_opened_by := fd_opened_by
      F_opened_by := h_opened_by
      m_opened_by := He.glo_ok XB GB (c.t.d.fact 5 (f := .glo "opened_by") rfl)
      fd_urgent_at := fd_urgent_at
      F_urgent_at := h_urgent_at
      m_urgent_at := He.glo_ok XB GB (c.t.d.fact 6 (f := .glo "urgent_at") rfl)
      fd_are_wakings := fd_are_wakings
      F_are_wakings := h_are_wakings
      m_are_wakings := He.glo_ok XB GB (c.t.d.fact 7 (f := .glo "are_wakings") rfl)
      fd_are_sets := fd_are_sets
      F_are_sets := h_are_sets
      m_are_sets := He.glo_ok XB GB (c.t.d.fact 8 (f := .glo "are_sets") rfl)
      fd_is_story := fd_is_story
      F_is_story := h_is_story
      m_is_story := He.glo_ok XB GB (c.t.d.fact 9 (f := .glo "is_story") rfl)
      fd_readings := fd_readings
      F_readings := h_readings
      m_readings := He.glo_ok XB GB (c.t.d.fact 10 (f := .glo "readings") rfl)
      fd_need_hour := fd_need_hour
      F_need_hour := h_need_hour
      m_need_hour := He.glo_ok XB GB (c.t.d.fact 11 (f := .glo "need_hour") rfl)
      fd_shut := fd_shut
      F_shut := h_shut
      m_shut := He.glo_ok XB GB (c.t.d.fact 12 (f := .glo "shut") rfl)
      fd_opened := fd_opened
      F_opened := h_opened
      m_opened := He.glo_ok XB GB (c.t.d.fact 13 (f := .glo "opened") rfl)
      fd_urgent := fd_urgent
      F_urgent := h_urgent
      m_urgent := He.glo_ok XB GB (c.t.d.fact 14 (f := .glo "urgent") rfl)
      fd_next_settings := fd_next_settings
      F_next_settings := h_next_settings
      m_next_settings := He.glo_ok XB GB (c.t.d.fact 15 (f := .glo "next_settings") rfl)
      fd_Steps_init := fd_Steps_init
      F_Steps_init := h_Steps_init
      fd_Steps_behind := fd_Steps_behind
      F_Steps_behind := h_Steps_behind
      M_Steps_behind := He.meth_ok (c.t.d.fact 76 (f := .meth "Steps" "behind") rfl)
      fd_need_readings := fd_need_readings
      F_need_readings := h_need_readings
      m_need_readings := He.glo_ok XB GB (c.t.d.fact 16 (f := .glo "need_readings") rfl)
      fd_first_stands := fd_first_stands
      F_first_stands := h_first_stands
      m_first_stands := He.glo_ok XB GB (c.t.d.fact 17 (f := .glo "first_stands") rfl)
      fd_stands_behind := fd_stands_behind
      F_stands_behind := h_stands_behind
      m_stands_behind := He.glo_ok XB GB (c.t.d.fact 18 (f := .glo "stands_behind") rfl)
      fd_stands_through := fd_stands_through
      F_stands_through := h_stands_through
      m_stands_through := He.glo_ok XB GB (c.t.d.fact 19 (f := .glo "stands_through") rfl)
      fd_rule := fd_rule
      F_rule := h_rule
      m_rule := He.glo_ok XB GB (c.t.d.fact 20 (f := .glo "rule") rfl)
      fd_may_be := fd_may_be
      F_may_be := h_may_be
      m_may_be := He.glo_ok XB GB (c.t.d.fact 21 (f := .glo "may_be") rfl)
      fd_is_conflict := fd_is_conflict
      F_is_conflict := h_is_conflict
      m_is_conflict := He.glo_ok XB GB (c.t.d.fact 22 (f := .glo "is_conflict") rfl)
      fd_Twins_init := fd_Twins_init
      F_Twins_init := h_Twins_init
      fd_Twins_search := fd_Twins_search
      F_Twins_search := h_Twins_search
      M_Twins_search := He.meth_ok (c.t.d.fact 77 (f := .meth "Twins" "search") rfl)
      fd_conflicts := fd_conflicts
      F_conflicts := h_conflicts
      m_conflicts := He.glo_ok XB GB (c.t.d.fact 23 (f := .glo "conflicts") rfl)
      fd_conflict := fd_conflict
      F_conflict := h_conflict
      m_conflict := He.glo_ok XB GB (c.t.d.fact 24 (f := .glo "conflict") rfl)
      fd_shows_conflict := fd_shows_conflict
      F_shows_conflict := h_shows_conflict
      m_shows_conflict := He.glo_ok XB GB (c.t.d.fact 25 (f := .glo "shows_conflict") rfl)
      fd_has_keeper := fd_has_keeper
      F_has_keeper := h_has_keeper
      m_has_keeper := He.glo_ok XB GB (c.t.d.fact 26 (f := .glo "has_keeper") rfl)
      fd_places := fd_places
      F_places := h_places
      m_places := He.glo_ok XB GB (c.t.d.fact 27 (f := .glo "places") rfl)
      fd_shows_places := fd_shows_places
      F_shows_places := h_shows_places
      m_shows_places := He.glo_ok XB GB (c.t.d.fact 28 (f := .glo "shows_places") rfl)
      fd_is_state := fd_is_state
      F_is_state := h_is_state
      m_is_state := He.glo_ok XB GB (c.t.d.fact 29 (f := .glo "is_state") rfl)
      fd_need_table := fd_need_table
      F_need_table := h_need_table
      m_need_table := He.glo_ok XB GB (c.t.d.fact 30 (f := .glo "need_table") rfl)
      fd_bad_story := fd_bad_story
      F_bad_story := h_bad_story
      m_bad_story := He.glo_ok XB GB (c.t.d.fact 31 (f := .glo "bad_story") rfl)
      fd_keeper := fd_keeper
      F_keeper := h_keeper
      m_keeper := He.glo_ok XB GB (c.t.d.fact 32 (f := .glo "keeper") rfl)
      fd_greatest_late := fd_greatest_late
      F_greatest_late := h_greatest_late
      m_greatest_late := He.glo_ok XB GB (c.t.d.fact 33 (f := .glo "greatest_late") rfl)
      fd_least_rest := fd_least_rest
      F_least_rest := h_least_rest
      m_least_rest := He.glo_ok XB GB (c.t.d.fact 34 (f := .glo "least_rest") rfl)
      fd_least_last := fd_least_last
      F_least_last := h_least_last
      m_least_last := He.glo_ok XB GB (c.t.d.fact 35 (f := .glo "least_last") rfl)
      fd_need_thumb := fd_need_thumb
      F_need_thumb := h_need_thumb
      m_need_thumb := He.glo_ok XB GB (c.t.d.fact 36 (f := .glo "need_thumb") rfl)
      fd_thumb_fails := fd_thumb_fails
      F_thumb_fails := h_thumb_fails
      m_thumb_fails := He.glo_ok XB GB (c.t.d.fact 37 (f := .glo "thumb_fails") rfl)
      fd_good_thumbs := fd_good_thumbs
      F_good_thumbs := h_good_thumbs
      m_good_thumbs := He.glo_ok XB GB (c.t.d.fact 38 (f := .glo "good_thumbs") rfl)
      fd__law_taken := fd__law_taken
      F__law_taken := h__law_taken
      m__law_taken := He.glo_ok XB GB (c.t.d.fact 39 (f := .glo "_law_taken") rfl)
      fd__law_pick := fd__law_pick
      F__law_pick := h__law_pick
      m__law_pick := He.glo_ok XB GB (c.t.d.fact 40 (f := .glo "_law_pick") rfl)
      fd__law_refused := fd__law_refused
      F__law_refused := h__law_refused
      m__law_refused := He.glo_ok XB GB (c.t.d.fact 41 (f := .glo "_law_refused") rfl)
      fd__law_works := fd__law_works
      F__law_works := h__law_works
      m__law_works := He.glo_ok XB GB (c.t.d.fact 42 (f := .glo "_law_works") rfl)
      fd_law := fd_law
      F_law := h_law
      m_law := He.glo_ok XB GB (c.t.d.fact 43 (f := .glo "law") rfl)
      m_START := He.glo_ok XB GB (c.t.d.fact 0 (f := .glo "START") rfl)
      S_START := fun H => He.tupB_ok mS H
      C_Steps := He.cls_ok (c.t.d.fact 70 (f := .cls "Steps") rfl)
      K_Steps := He.mkr_ok (c.t.d.fact 78 (f := .mkr "Steps") rfl)
      m_Steps := He.glo_ok XB GB (c.t.d.fact 44 (f := .glo "Steps") rfl)
      C_Twins := He.cls_ok (c.t.d.fact 71 (f := .cls "Twins") rfl)
      K_Twins := He.mkr_ok (c.t.d.fact 79 (f := .mkr "Twins") rfl)
      m_Twins := He.glo_ok XB GB (c.t.d.fact 45 (f := .glo "Twins") rfl)
      A_Steps_almanac := He.noat_ok (c.t.d.fact 72 (f := .noat "Steps" "almanac") rfl)
      A_Steps_costs := He.noat_ok (c.t.d.fact 73 (f := .noat "Steps" "costs") rfl)
      A_Twins_almanac := He.noat_ok (c.t.d.fact 74 (f := .noat "Twins" "almanac") rfl)
      A_Twins_steps := He.noat_ok (c.t.d.fact 75 (f := .noat "Twins" "steps") rfl)
      fd_BadAlmanac_init := fd_BadAlmanac_init
      F_BadAlmanac_init := h_BadAlmanac_init
      O_BadAlmanac := oexB_ok m_BadAlmanac
      fd_BadTable_init := fd_BadTable_init
      F_BadTable_init := h_BadTable_init
      O_BadTable := oexB_ok m_BadTable
      fd_TooMany_init := fd_TooMany_init
      F_TooMany_init := h_TooMany_init
      O_TooMany := oexB_ok m_TooMany
      E_BadHour := c.t.d.fact 88 (f := .exc "BadHour") rfl
      E_BadReadings := c.t.d.fact 89 (f := .exc "BadReadings") rfl
      E_BadStory := c.t.d.fact 90 (f := .exc "BadStory") rfl
      E_NoKeeper := c.t.d.fact 91 (f := .exc "NoKeeper") rfl
      m_BadAlmanac := He.glo_ok XB GB (c.t.d.fact 80 (f := .glo "BadAlmanac") rfl)
      m_BadHour := He.glo_ok XB GB (c.t.d.fact 81 (f := .glo "BadHour") rfl)
      m_BadReadings := He.glo_ok XB GB (c.t.d.fact 82 (f := .glo "BadReadings") rfl)
      m_BadStory := He.glo_ok XB GB (c.t.d.fact 83 (f := .glo "BadStory") rfl)
      m_BadTable := He.glo_ok XB GB (c.t.d.fact 84 (f := .glo "BadTable") rfl)
      m_ClockworkError := He.glo_ok XB GB (c.t.d.fact 85 (f := .glo "ClockworkError") rfl)
      m_NoKeeper := He.glo_ok XB GB (c.t.d.fact 86 (f := .glo "NoKeeper") rfl)
      m_TooMany := He.glo_ok XB GB (c.t.d.fact 87 (f := .glo "TooMany") rfl)
      X_T := mT
      X_F := mF
      c__law_works := code_cT h__law_works
      T__law_works := TB (He.cT K ("_law_works", none)) (List.mem_map.mpr ⟨("_law_works", none), by simp [tf], rfl⟩)
      n_all := He.free_ok XB GB (c.t.d.fact 46 (f := .free "all") rfl)
      n_bool := He.free_ok XB GB (c.t.d.fact 47 (f := .free "bool") rfl)
      n_dict := He.free_ok XB GB (c.t.d.fact 48 (f := .free "dict") rfl)
      n_enumerate := He.free_ok XB GB (c.t.d.fact 49 (f := .free "enumerate") rfl)
      n_int := He.free_ok XB GB (c.t.d.fact 50 (f := .free "int") rfl)
      n_isinstance := He.free_ok XB GB (c.t.d.fact 51 (f := .free "isinstance") rfl)
      n_len := He.free_ok XB GB (c.t.d.fact 52 (f := .free "len") rfl)
      n_list := He.free_ok XB GB (c.t.d.fact 53 (f := .free "list") rfl)
      n_max := He.free_ok XB GB (c.t.d.fact 54 (f := .free "max") rfl)
      n_range := He.free_ok XB GB (c.t.d.fact 55 (f := .free "range") rfl)
      n_set := He.free_ok XB GB (c.t.d.fact 56 (f := .free "set") rfl)
      n_sorted := He.free_ok XB GB (c.t.d.fact 57 (f := .free "sorted") rfl)
      n_tuple := He.free_ok XB GB (c.t.d.fact 58 (f := .free "tuple") rfl)
      n_zip := He.free_ok XB GB (c.t.d.fact 59 (f := .free "zip") rfl)
      i_LEAST_HOURS := He.int_ok XB GB (c.t.d.fact 60 (f := .int "LEAST_HOURS" 2) rfl)
      i_MOST_DONE := He.int_ok XB GB (c.t.d.fact 61 (f := .int "MOST_DONE" 30) rfl)
      i_MOST_HOUR := He.int_ok XB GB (c.t.d.fact 62 (f := .int "MOST_HOUR" 1000000000) rfl)
      i_MOST_HOURS := He.int_ok XB GB (c.t.d.fact 63 (f := .int "MOST_HOURS" 12) rfl)
      i_MOST_LATE := He.int_ok XB GB (c.t.d.fact 64 (f := .int "MOST_LATE" 24) rfl)
      i_MOST_REST := He.int_ok XB GB (c.t.d.fact 65 (f := .int "MOST_REST" 12) rfl)
      i_MOST_SETTINGS := He.int_ok XB GB (c.t.d.fact 66 (f := .int "MOST_SETTINGS" 4) rfl)
      i_MOST_STATES := He.int_ok XB GB (c.t.d.fact 67 (f := .int "MOST_STATES" 4000) rfl)
      i_MOST_THUMB_HOURS := He.int_ok XB GB (c.t.d.fact 68 (f := .int "MOST_THUMB_HOURS" 8) rfl)
      i_MOST_WAKINGS := He.int_ok XB GB (c.t.d.fact 69 (f := .int "MOST_WAKINGS" 60) rfl)
      c_are_settings := code_cT h_are_settings
      T_are_settings := tabB_of (TB (He.cT K ("are_settings", none)) (List.mem_map.mpr ⟨("are_settings", none), by simp [tf], rfl⟩))
      t_are_settings := List.mem_map.mpr ⟨He.cT K ("are_settings", none), List.mem_map.mpr ⟨("are_settings", none), by simp [tfg], rfl⟩, rfl⟩
      c_need_readings := code_cT h_need_readings
      T_need_readings := tabB_of (TB (He.cT K ("need_readings", none)) (List.mem_map.mpr ⟨("need_readings", none), by simp [tf], rfl⟩))
      t_need_readings := List.mem_map.mpr ⟨He.cT K ("need_readings", none), List.mem_map.mpr ⟨("need_readings", none), by simp [tfg], rfl⟩, rfl⟩
      c_shows_conflict := code_cT h_shows_conflict
      T_shows_conflict := tabB_of (TB (He.cT K ("shows_conflict", none)) (List.mem_map.mpr ⟨("shows_conflict", none), by simp [tf], rfl⟩))
      t_shows_conflict := List.mem_map.mpr ⟨He.cT K ("shows_conflict", none), List.mem_map.mpr ⟨("shows_conflict", none), by simp [tfg], rfl⟩, rfl⟩
      c_shows_places := code_cT h_shows_places
      T_shows_places := tabB_of (TB (He.cT K ("shows_places", none)) (List.mem_map.mpr ⟨("shows_places", none), by simp [tf], rfl⟩))
      t_shows_places := List.mem_map.mpr ⟨He.cT K ("shows_places", none), List.mem_map.mpr ⟨("shows_places", none), by simp [tfg], rfl⟩, rfl⟩
      c_need_thumb := code_cT h_need_thumb
      T_need_thumb := tabB_of (TB (He.cT K ("need_thumb", none)) (List.mem_map.mpr ⟨("need_thumb", none), by simp [tf], rfl⟩))
      t_need_thumb := List.mem_map.mpr ⟨He.cT K ("need_thumb", none), List.mem_map.mpr ⟨("need_thumb", none), by simp [tfg], rfl⟩, rfl⟩ } : Fs K mg base (TTof K))
end Pd
open PySem PySem.W PySem.Calls PyProof.Rows
theorem PySem.Challenge.cw_wrongclock_k02_almanacs_refused_holds : PySem.Challenge.rw_wrongclock_k02_almanacs_refused.Holds := by
  w_on; o_law
  refine HandSHeadRun.head_any (r := OpenLaw.row PySem.Challenge.rw_wrongclock_k02_almanacs_refused) (q := view (OpenLaw.row PySem.Challenge.rw_wrongclock_k02_almanacs_refused).prog [85]) (H := Pd.hookR) (ob := Pd.obR) (M := 20000) (loose := Pd.looseR) (d := HandSHeadRun.topDef (OpenLaw.row PySem.Challenge.rw_wrongclock_k02_almanacs_refused).prog 85) (kwd := []) Pd.obR_eq
    (by kernel_rfl) (fun s => by kernel_rfl) Pd.runR_head (by kernel_rfl) (by kernel_rfl) (by kernel_rfl) (by rfl) (by first | assumption | decide +kernel) (by decide +kernel) ⟨rfl, rfl, rfl, rfl, rfl, by decide +kernel⟩ ?hw ?hc
  case hw => w_witness2
  case hc =>
    refine LamX.walk_ofTsE (l := PySem.Challenge.rw_wrongclock_k02_almanacs_refused) (n := 63) (k := 9) (x := "_law_script") (CX := fun w => L2.CX (PySem.Challenge.rw_wrongclock_k02_almanacs_refused).prog w) rfl (by decide) (by kernel_rfl) ⟨rfl, by decide, by decide⟩ ?F (fun _ _ _ _ _ z => Pd.no_cx z)
    intro w mg fa h Y G hmg0
    obtain ⟨K, KX, c⟩ := Y
    have hmg : mg ("law" : PySem.Str) = some (.ref fa) := by
      have e : (HandSHeadRun.topDef (OpenLaw.row PySem.Challenge.rw_wrongclock_k02_almanacs_refused).prog 85).name = ("law" : PySem.Str) := by kernel_rfl
      rw [← e]
      exact hmg0
    exact ⟨K, KX, Pd.law_at KX G hmg c⟩

