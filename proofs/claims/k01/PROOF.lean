import PyProof.Rows.All
import Wide.All
import OpenK.AllK
import Wide.FinOn
import HandS.ForMost
import HandS.ForExc
import HandS.AnyAll
import HandS.IsInst
import HandS.TupAny
import HandS.Zip
import HandS.ExcOwn
import HandS.Wide
import HandS.Defaults
import HandS.Style
import HandS.EndTab
import HandS.HeadHook4
import HandS.Nested
import KE.GoesMore
import KE.GoesEnum
import HandS.Head0
import HandS.Head1
import HandS.Head2
import HandS.HeadEnd
import HandS.HeadHook1
import HandS.HeadHook2
import HandS.HeadHook3
import HandS.HeadWalk
import HandS.NestedK
import HandS.Words
import PySem.Challenge.RW_wrongclock_k01_whole_almanacs
set_option Elab.async false
set_option linter.all false
set_option maxRecDepth 100000
set_option maxHeartbeats 0
namespace Pd
open PySem PySem.Spec PyProof.Rows L2

/-! ## data -/
theorem sameT {K : PySem.W.Frag} {F F' : Hp} {a : Addr} {xs : List V} (s : Same F F') (h : SqT K F a xs) : SqT K F' a xs := by
  rcases h with (h | ⟨o, h⟩) | h
  · exact .inl (.inl (s _ _ h))
  · exact .inl (.inr ⟨o, s _ _ h⟩)
  · exact .inr h
mutual
theorem dp_mono {K : PySem.W.Frag} {F F' : Hp} (s : Same F F') : ∀ (d : PyData) (v : V), Dp K F v d → Dp K F' v d
  | .none, _, h => by cases h; exact .non
  | .bool b, _, h => by cases h; exact .bl b
  | .int i, _, h => by cases h; exact .int i
  | .str x, _, h => by cases h; exact .str x
  | .list ds, _, h => by
    cases h with
    | lst h1 h2 => exact .lst (s.seq h1) (dpAll_mono s ds _ h2)
  | .tuple ds, _, h => by
    cases h with
    | tup h1 h2 => exact .tup (sameT s h1) (dpAll_mono s ds _ h2)
  | .dict _, _, h => by cases h
theorem dpAll_mono {K : PySem.W.Frag} {F F' : Hp} (s : Same F F') : ∀ (ds : List PyData) (vs : List V), DpAll K F vs ds → DpAll K F' vs ds
  | [], _, h => by cases h; exact .nil
  | d :: ds, _, h => by
    cases h with
    | cons h1 h2 => exact .cons (dp_mono s d _ h1) (dpAll_mono s ds _ h2)
end
section
variable {K : PySem.W.Frag} {F : Hp}
theorem dpAll_len : ∀ {vs : List V} {ds : List PyData}, DpAll K F vs ds → vs.length = ds.length
  | _, _, .nil => rfl
  | _, _, .cons _ t => by simp [dpAll_len t]
theorem dpAll_get : ∀ {vs : List V} {ds : List PyData} {i : Nat} {d : PyData}, DpAll K F vs ds → ds[i]? = some d → ∃ v, vs[i]? = some v ∧ Dp K F v d
  | _, _, _, _, .nil, e => by simp at e
  | _, _, 0, _, .cons r _, e => by simp at e; subst e; exact ⟨_, rfl, r⟩
  | _, _, i + 1, d, .cons _ t, e => by
    obtain ⟨u, h1, h2⟩ := dpAll_get (i := i) (d := d) t (by simpa using e)
    exact ⟨u, by simpa using h1, h2⟩
theorem dpAll_getV : ∀ {vs : List V} {ds : List PyData} {i : Nat} {v : V}, DpAll K F vs ds → vs[i]? = some v → ∃ d, ds[i]? = some d ∧ Dp K F v d
  | _, _, _, _, .nil, e => by simp at e
  | _, _, 0, _, .cons r _, e => by simp at e; subst e; exact ⟨_, rfl, r⟩
  | _, _, i + 1, d, .cons _ t, e => by
    obtain ⟨u, h1, h2⟩ := dpAll_getV (i := i) (v := d) t (by simpa using e)
    exact ⟨u, by simpa using h1, h2⟩
theorem dpAll_app : ∀ {vs us : List V} {ds es : List PyData}, DpAll K F vs ds → DpAll K F us es → DpAll K F (vs ++ us) (ds ++ es)
  | _, _, _, _, .nil, s => s
  | _, _, _, _, .cons r t, s => .cons r (dpAll_app t s)
theorem dpAll_take : ∀ {vs : List V} {ds : List PyData} (n : Nat), DpAll K F vs ds → DpAll K F (vs.take n) (ds.take n)
  | _, _, 0, _ => .nil
  | _, _, _ + 1, .nil => .nil
  | _, _, n + 1, .cons r t => .cons r (dpAll_take n t)
theorem dpAll_drop : ∀ {vs : List V} {ds : List PyData} (n : Nat), DpAll K F vs ds → DpAll K F (vs.drop n) (ds.drop n)
  | _, _, 0, r => r
  | _, _, _ + 1, .nil => .nil
  | _, _, n + 1, .cons _ t => dpAll_drop n t
theorem dpAll_ints : ∀ {vs : List V} {ns : List Int}, DpAll K F vs (ns.map PyData.int) → vs = ns.map V.int
  | _, [], h => by cases h; rfl
  | _, n :: ns, h => by
    cases h with
    | cons h1 h2 =>
      cases h1
      rw [dpAll_ints h2]
      rfl
theorem dpAll_ofInts : ∀ (ns : List Int), DpAll K F (ns.map V.int) (ns.map PyData.int)
  | [] => .nil
  | n :: ns => .cons (.int n) (dpAll_ofInts ns)
end

/-! ## the owned objects, the slots -/
/-- a value: plain data, or the k-th owned object -/
inductive Rv where
  | dat (d : PyData)
  | own (k : Nat)
/-- an owned object's content; fz: a list that may no more be changed -/
inductive Oc where
  | lst (rs : List Rv)
  | fz (ds : List PyData)
structure En where
  sl : List (Option Rv)
  ob : List Oc
/-- an exception: its class's address, its own field -/
structure Ex where
  cls : Addr
  fld : Option (Str × PyData)
inductive Out (α : Type) where
  | ok (a : α) (e : En)
  | exc (x : Ex) (e : En)
  | bad
def M (α : Type) : Type := En → Out α
def ret {α : Type} (a : α) : M α := fun e => .ok a e
def bnd {α β : Type} (m : M α) (k : α → M β) : M β := fun e => match m e with
  | .ok a e' => k a e'
  | .exc x e' => .exc x e'
  | .bad => .bad
def lift {α : Type} (o : Option α) : M α := fun e => match o with
  | some a => .ok a e
  | none => .bad

def RvR (K : PySem.W.Frag) (F : Hp) (al : List Addr) (v : V) : Rv → Prop
  | .dat d => Dp K F v d
  | .own k => ∃ a, al[k]? = some a ∧ v = .ref a
inductive RvAll (K : PySem.W.Frag) (F : Hp) (al : List Addr) : List V → List Rv → Prop
  | nil : RvAll K F al [] []
  | cons {v : V} {vs : List V} {r : Rv} {rs : List Rv} : RvR K F al v r → RvAll K F al vs rs → RvAll K F al (v :: vs) (r :: rs)
def OcOk (K : PySem.W.Frag) (F : Hp) (al : List Addr) (H : Hp) (a : Addr) : Oc → Prop
  | .lst rs => F a = none ∧ ∃ xs, H a = some (.lst xs) ∧ RvAll K F al xs rs
  | .fz ds => ∃ xs, F a = some (.lst xs) ∧ DpAll K F xs ds
/-- the tables of the defs' code objects -/
def Tabs (TT : Addr → Prop) (F H : Hp) : Prop := ∀ P, TT P → GxR.TabG H P ∧ F P = none
/-- what is fixed through a def's run: its entry, the objects lent to it -/
structure Gh where
  F0 : Hp
  H0 : Hp
  bor : Addr → Prop
structure Sv (K : PySem.W.Frag) (TT : Addr → Prop) (g : Gh) (al : List Addr) (en : En) (F : Hp) (σ : L2.St) (H : Hp) : Prop where
  sub : Same F H
  frF : Same g.F0 F
  nF : ∀ b, F b ≠ none → g.F0 b ≠ none ∨ g.H0 b = none ∨ g.bor b
  frame : ∀ b o, g.H0 b = some o → ¬ TT b → ¬ g.bor b → H b = some o
  tabs : Tabs TT F H
  len : σ.length = en.sl.length
  slots : ∀ (i : Nat) (r : Rv), en.sl[i]? = some (some r) → ∃ v, σ[i]? = some (some v) ∧ RvR K F al v r
  alen : al.length = en.ob.length
  objs : ∀ (k : Nat) (a : Addr) (oc : Oc), al[k]? = some a → en.ob[k]? = some oc → OcOk K F al H a oc
  anew : ∀ (k : Nat) (a : Addr), al[k]? = some a → g.H0 a = none ∨ g.bor a
  bin : ∀ b, g.bor b → b ∈ al
  anod : al.Nodup
  atab : ∀ a, a ∈ al → ¬ TT a

section
variable {K : PySem.W.Frag} {TT : Addr → Prop} {g : Gh} {al al' : List Addr} {en en' : En} {F F' : Hp} {σ σ' : L2.St} {H H' : Hp}
/-- later: more frozen, more owned -/
structure Le (F : Hp) (al : List Addr) (F' : Hp) (al' : List Addr) : Prop where
  f : Same F F'
  a : al <+: al'
theorem Le.refl (F : Hp) (al : List Addr) : Le F al F al := ⟨Same.refl _, List.prefix_rfl⟩
theorem Le.trans {F F1 F2 : Hp} {al a1 a2 : List Addr} (h : Le F al F1 a1) (h' : Le F1 a1 F2 a2) : Le F al F2 a2 := ⟨h.f.trans h'.f, h.a.trans h'.a⟩
theorem pre_get {α : Type} {l l' : List α} (h : l <+: l') {k : Nat} {a : α} (e : l[k]? = some a) : l'[k]? = some a := by
  obtain ⟨t, rfl⟩ := h
  obtain ⟨hk, _⟩ := List.getElem?_eq_some_iff.mp e
  rw [List.getElem?_append_left hk]; exact e
theorem RvR.mono {v : V} {r : Rv} (h : RvR K F al v r) (l : Le F al F' al') : RvR K F' al' v r := by
  cases r with
  | dat d => exact dp_mono l.f d v h
  | own k => obtain ⟨a, e, q⟩ := h; exact ⟨a, pre_get l.a e, q⟩
theorem RvAll.mono (l : Le F al F' al') : ∀ {vs : List V} {rs : List Rv}, RvAll K F al vs rs → RvAll K F' al' vs rs
  | _, _, .nil => .nil
  | _, _, .cons r t => .cons (r.mono l) (RvAll.mono l t)
theorem RvAll.len : ∀ {vs : List V} {rs : List Rv}, RvAll K F al vs rs → vs.length = rs.length
  | _, _, .nil => rfl
  | _, _, .cons _ t => by simp [RvAll.len t]
theorem RvAll.app : ∀ {vs us : List V} {rs qs : List Rv}, RvAll K F al vs rs → RvAll K F al us qs → RvAll K F al (vs ++ us) (rs ++ qs)
  | _, _, _, _, .nil, s => s
  | _, _, _, _, .cons r t, s => .cons r (RvAll.app t s)
theorem RvAll.get : ∀ {vs : List V} {rs : List Rv} {i : Nat} {r : Rv}, RvAll K F al vs rs → rs[i]? = some r → ∃ v, vs[i]? = some v ∧ RvR K F al v r
  | _, _, _, _, .nil, e => by simp at e
  | _, _, 0, _, .cons r _, e => by simp at e; subst e; exact ⟨_, rfl, r⟩
  | _, _, i + 1, d, .cons _ t, e => by
    obtain ⟨u, h1, h2⟩ := RvAll.get (i := i) (r := d) t (by simpa using e)
    exact ⟨u, by simpa using h1, h2⟩
theorem RvAll.getV : ∀ {vs : List V} {rs : List Rv} {i : Nat} {v : V}, RvAll K F al vs rs → vs[i]? = some v → ∃ r, rs[i]? = some r ∧ RvR K F al v r
  | _, _, _, _, .nil, e => by simp at e
  | _, _, 0, _, .cons r _, e => by simp at e; subst e; exact ⟨_, rfl, r⟩
  | _, _, i + 1, d, .cons _ t, e => by
    obtain ⟨u, h1, h2⟩ := RvAll.getV (i := i) (v := d) t (by simpa using e)
    exact ⟨u, by simpa using h1, h2⟩
theorem RvAll.set : ∀ {vs : List V} {rs : List Rv} (i : Nat) {v : V} {r : Rv}, RvAll K F al vs rs → RvR K F al v r → RvAll K F al (vs.set i v) (rs.set i r)
  | _, _, _, _, _, .nil, _ => .nil
  | _, _, 0, _, _, .cons _ t, q => .cons q t
  | _, _, i + 1, _, _, .cons r t, q => .cons r (RvAll.set i t q)
theorem rvAll_dat : ∀ {vs : List V} {ds : List PyData}, DpAll K F vs ds → RvAll K F al vs (ds.map Rv.dat)
  | _, _, .nil => .nil
  | _, _, .cons r t => .cons r (rvAll_dat t)

/-- all of a list plain data -/
def dats : List Rv → Option (List PyData)
  | [] => some []
  | .dat d :: rs => match dats rs with
    | some ds => some (d :: ds)
    | none => none
  | .own _ :: _ => none
theorem dats_map (ds : List PyData) : dats (ds.map Rv.dat) = some ds := by
  induction ds with
  | nil => rfl
  | cons d ds ih => simp [dats, ih]
theorem dats_eq : ∀ {rs : List Rv} {ds : List PyData}, dats rs = some ds → rs = ds.map Rv.dat
  | [], ds, h => by simp [dats] at h; subst h; rfl
  | .dat d :: rs, ds, h => by
    unfold dats at h
    cases e : dats rs with
    | none => rw [e] at h; cases h
    | some es =>
      rw [e] at h
      have h' : d :: es = ds := Option.some.inj h
      subst h'
      rw [dats_eq e]; rfl
  | .own _ :: _, _, h => by simp [dats] at h
theorem rvAll_dats : ∀ {vs : List V} {rs : List Rv} {ds : List PyData}, RvAll K F al vs rs → dats rs = some ds → DpAll K F vs ds
  | _, _, _, .nil, e => by simp [dats] at e; subst e; exact .nil
  | _, _, ds, .cons (r := r) (rs := rs) q t, e => by
    cases r with
    | own k => simp [dats] at e
    | dat d =>
      unfold dats at e
      cases e2 : dats rs with
      | none => rw [e2] at e; cases e
      | some es =>
        rw [e2] at e
        have h' : d :: es = ds := Option.some.inj e
        subst h'
        exact .cons q (rvAll_dats t e2)

theorem Sv.nt (s : Sv K TT g al en F σ H) {p : Addr} (hp : H p = none) : ¬ TT p := fun h => by
  obtain ⟨⟨ps, e, _⟩, _⟩ := s.tabs p h
  rw [hp] at e; cases e
theorem Sv.na (s : Sv K TT g al en F σ H) {p : Addr} (hp : H p = none) : p ∉ al := fun h => by
  obtain ⟨k, hk, e⟩ := List.getElem_of_mem h
  have ek : al[k]? = some p := by rw [List.getElem?_eq_getElem hk, e]
  have hk2 : k < en.ob.length := by rw [← s.alen]; exact hk
  have o := s.objs k p _ ek (List.getElem?_eq_getElem hk2)
  cases q : en.ob[k] with
  | lst rs =>
    rw [q] at o
    obtain ⟨_, xs, e2, _⟩ := o
    rw [hp] at e2; cases e2
  | fz ds =>
    rw [q] at o
    obtain ⟨xs, e2, _⟩ := o
    rw [s.sub _ _ e2] at hp; cases hp
theorem Sv.g0 (s : Sv K TT g al en F σ H) {p : Addr} (hp : H p = none) : g.H0 p = none := by
  cases e : g.H0 p with
  | none => rfl
  | some o =>
    have nt := s.nt hp
    by_cases b : g.bor p
    · exact absurd (s.bin p b) (s.na hp)
    · rw [s.frame p o e nt b] at hp; cases hp
end
end Pd

namespace Pd
open PySem PySem.Spec PyProof.Rows L2
section
variable {K : PySem.W.Frag} {TT : Addr → Prop} {g : Gh} {al al' : List Addr} {en en' : En} {F F' : Hp} {σ σ' : L2.St} {H H' : Hp}
theorem OcOk.mono {a : Addr} {oc : Oc} (h : OcOk K F al H a oc) (l : Le F al F' al') (k : H a ≠ none → ¬ TT a → H' a = H a) (nt : ¬ TT a) (hn : H a ≠ none → F a = none → F' a = none) : OcOk K F' al' H' a oc := by
  cases oc with
  | lst rs =>
    obtain ⟨h1, xs, h2, h3⟩ := h
    have hne : H a ≠ none := by rw [h2]; intro z; cases z
    exact ⟨hn hne h1, xs, (k hne nt).trans h2, h3.mono l⟩
  | fz ds =>
    obtain ⟨xs, h1, h2⟩ := h
    exact ⟨xs, l.f _ _ h1, dpAll_mono l.f _ _ h2⟩
theorem same_ne {F H : Hp} (s : Same F H) {b : Addr} (h : F b ≠ none) : H b ≠ none := by
  cases e : F b with
  | none => exact absurd e h
  | some o => rw [s b o e]; intro z; cases z
/-- a step of which only this is known: what stood stands, what is newly frozen is new -/
theorem Sv.ext (s : Sv K TT g al en F σ H) (h1 : Same F F') (h2 : Same F' H') (h3 : Tabs TT F' H') (h4 : ∀ b o, H b = some o → ¬ TT b → H' b = some o) (h5 : ∀ b, F' b ≠ none → F b ≠ none ∨ H b = none) :
    Sv K TT g al en F' σ H' where
  sub := h2
  frF := s.frF.trans h1
  nF := fun b hb => by
    rcases h5 b hb with z | z
    · exact s.nF b z
    · exact .inr (.inl (s.g0 z))
  frame := fun b o e nt nb => h4 b o (s.frame b o e nt nb) nt
  tabs := h3
  len := s.len
  slots := fun i r e => by
    obtain ⟨v, e1, q⟩ := s.slots i r e
    exact ⟨v, e1, q.mono ⟨h1, List.prefix_rfl⟩⟩
  alen := s.alen
  objs := fun k a oc e1 e2 => by
    have nt := s.atab a (List.mem_of_getElem? e1)
    refine (s.objs k a oc e1 e2).mono ⟨h1, List.prefix_rfl⟩ (fun hne _ => ?_) nt fun hne hz => ?_
    · cases q : H a with
      | none => exact absurd q hne
      | some o => exact h4 a o q nt
    · cases q : F' a with
      | none => rfl
      | some o =>
        rcases h5 a (by rw [q]; intro z; cases z) with z | z
        · exact absurd hz z
        · exact absurd z hne
  anew := s.anew
  bin := s.bin
  anod := s.anod
  atab := s.atab
theorem Tabs.new (t : Tabs TT F H) {p : Addr} {o u : HO} (hp : H p = none) : Tabs TT (upd F p o) (upd H p u) := fun P hP => by
  obtain ⟨⟨ps, e, q⟩, n⟩ := t P hP
  have ne : P ≠ p := fun z => by rw [z, hp] at e; cases e
  exact ⟨⟨ps, by rw [upd_ne ne]; exact e, q⟩, by rw [upd_ne ne]; exact n⟩
theorem Tabs.newH (t : Tabs TT F H) {p : Addr} {u : HO} (hp : ¬ TT p) : Tabs TT F (upd H p u) := fun P hP => by
  obtain ⟨⟨ps, e, q⟩, n⟩ := t P hP
  have ne : P ≠ p := fun z => hp (z ▸ hP)
  exact ⟨⟨ps, by rw [upd_ne ne]; exact e, q⟩, n⟩
theorem same_new {p : Addr} {o : HO} (hp : F p = none) : Same F (upd F p o) := fun b u e => by
  rw [upd_ne (ne_of_none e hp)]; exact e
theorem Sv.fnone (s : Sv K TT g al en F σ H) {p : Addr} (hp : H p = none) : F p = none := s.sub.free hp
/-- a new frozen object -/
theorem Sv.newF (s : Sv K TT g al en F σ H) {p : Addr} (o : HO) (hp : H p = none) : Sv K TT g al en (upd F p o) σ (upd H p o) := by
  refine s.ext (same_new (s.fnone hp)) (fun b u e => ?_) (s.tabs.new hp) (fun b u e _ => ?_) fun b hb => ?_
  · by_cases h : b = p
    · subst h; rw [upd_same] at e ⊢; exact e
    · rw [upd_ne h] at e ⊢; exact s.sub b u e
  · rw [upd_ne (ne_of_none e hp)]; exact e
  · by_cases h : b = p
    · subst h; exact .inr hp
    · rw [upd_ne h] at hb; exact .inl hb
theorem le_newF (s : Sv K TT g al en F σ H) {p : Addr} (o : HO) (hp : H p = none) : Le F al (upd F p o) al := ⟨same_new (s.fnone hp), List.prefix_rfl⟩
theorem dp_tup {p : Addr} {xs : List V} {ds : List PyData} (h : DpAll K F xs ds) (hp : F p = none) : Dp K (upd F p (.tup xs)) (.ref p) (.tuple ds) :=
  .tup (.inl (.inl upd_same)) (dpAll_mono (same_new hp) _ _ h)
theorem dp_lst {p : Addr} {xs : List V} {ds : List PyData} (h : DpAll K F xs ds) (hp : F p = none) : Dp K (upd F p (.lst xs)) (.ref p) (.list ds) :=
  .lst (.inl (.inl upd_same)) (dpAll_mono (same_new hp) _ _ h)
theorem le_own {p : Addr} : Le F al F (al ++ [p]) := ⟨Same.refl _, List.prefix_append _ _⟩
/-- a new owned list -/
theorem Sv.newOwn (s : Sv K TT g al en F σ H) {p : Addr} {xs : List V} {rs : List Rv} (hp : H p = none) (h : RvAll K F al xs rs) :
    Sv K TT g (al ++ [p]) { en with ob := en.ob ++ [.lst rs] } F σ (upd H p (.lst xs)) where
  sub := fun b u e => by rw [upd_ne (ne_of_none (s.sub b u e) hp)]; exact s.sub b u e
  frF := s.frF
  nF := s.nF
  frame := fun b o e nt nb => by
    have z := s.frame b o e nt nb
    rw [upd_ne (ne_of_none z hp)]; exact z
  tabs := s.tabs.newH (s.nt hp)
  len := s.len
  slots := fun i r e => by
    obtain ⟨v, e1, q⟩ := s.slots i r e
    exact ⟨v, e1, q.mono le_own⟩
  alen := by simp [s.alen]
  objs := fun k a oc e1 e2 => by
    by_cases hk : k < al.length
    · rw [List.getElem?_append_left hk] at e1
      rw [List.getElem?_append_left (by rw [← s.alen]; exact hk)] at e2
      refine (s.objs k a oc e1 e2).mono (TT := TT) le_own (fun hne _ => ?_) (s.atab a (List.mem_of_getElem? e1)) fun _ z => z
      rw [upd_ne (fun z => hne (by rw [z]; exact hp))]
    · have hk2 : al.length ≤ k := Nat.le_of_not_lt hk
      rw [List.getElem?_append_right hk2] at e1
      rw [List.getElem?_append_right (by rw [← s.alen]; exact hk2)] at e2
      have e0 : k - al.length = 0 := by
        cases q : k - al.length with
        | zero => rfl
        | succ n => rw [q] at e1; simp at e1
      rw [e0] at e1
      rw [← s.alen, e0] at e2
      simp at e1 e2
      subst e1 e2
      exact ⟨s.fnone hp, xs, upd_same, h.mono le_own⟩
  anew := fun k a e1 => by
    by_cases hk : k < al.length
    · rw [List.getElem?_append_left hk] at e1
      exact s.anew k a e1
    · have hk2 : al.length ≤ k := Nat.le_of_not_lt hk
      rw [List.getElem?_append_right hk2] at e1
      cases q : k - al.length with
      | zero =>
        rw [q] at e1; simp at e1; subst e1
        exact .inl (s.g0 hp)
      | succ n => rw [q] at e1; simp at e1
  bin := fun b hb => List.mem_append_left _ (s.bin b hb)
  anod := by
    rw [List.nodup_append]
    refine ⟨s.anod, by simp, fun a ha b hb z => ?_⟩
    have e : b = p := by simpa using hb
    subst z
    rw [e] at ha
    exact s.na hp ha
  atab := fun a ha => by
    rcases List.mem_append.mp ha with z | z
    · exact s.atab a z
    · have e : a = p := by simpa using z
      rw [e]; exact s.nt hp
theorem nodup_get {α : Type} {l : List α} (h : l.Nodup) {i j : Nat} {x : α} (a : l[i]? = some x) (b : l[j]? = some x) : i = j := by
  obtain ⟨h1, e1⟩ := List.getElem?_eq_some_iff.mp a
  obtain ⟨h2, e2⟩ := List.getElem?_eq_some_iff.mp b
  exact (List.getElem_inj h).mp (e1.trans e2.symm)
theorem Sv.lst (s : Sv K TT g al en F σ H) {k : Nat} {a : Addr} {rs : List Rv} (e1 : al[k]? = some a) (e2 : en.ob[k]? = some (.lst rs)) : F a = none ∧ ∃ xs, H a = some (.lst xs) ∧ RvAll K F al xs rs := s.objs k a _ e1 e2
/-- an owned list is changed -/
theorem Sv.write (s : Sv K TT g al en F σ H) {k : Nat} {a : Addr} {rs rs' : List Rv} {xs' : List V} (e1 : al[k]? = some a) (e2 : en.ob[k]? = some (.lst rs)) (h : RvAll K F al xs' rs') :
    Sv K TT g al { en with ob := en.ob.set k (.lst rs') } F σ (upd H a (.lst xs')) where
  sub := fun b u e => by
    obtain ⟨n, _⟩ := s.lst e1 e2
    rw [upd_ne (ne_of_none e n)]; exact s.sub b u e
  frF := s.frF
  nF := s.nF
  frame := fun b o e nt nb => by
    have z := s.frame b o e nt nb
    have ne : b ≠ a := fun q => by
      rcases s.anew k a e1 with w | w
      · rw [q, w] at e; cases e
      · exact nb (q ▸ w)
    rw [upd_ne ne]; exact z
  tabs := s.tabs.newH (s.atab a (List.mem_of_getElem? e1))
  len := s.len
  slots := s.slots
  alen := by simp [s.alen]
  objs := fun j b oc f1 f2 => by
    by_cases hj : j = k
    · subst hj
      rw [e1] at f1
      cases f1
      rw [List.getElem?_set_self (by rw [← s.alen]; exact (List.getElem?_eq_some_iff.mp e1).1)] at f2
      cases f2
      exact ⟨(s.lst e1 e2).1, xs', upd_same, h⟩
    · rw [List.getElem?_set_ne (Ne.symm hj)] at f2
      have ne : b ≠ a := fun z => hj (nodup_get s.anod f1 (z ▸ e1))
      refine (s.objs j b oc f1 f2).mono (TT := TT) (Le.refl _ _) (fun _ _ => upd_ne ne) (s.atab b (List.mem_of_getElem? f1)) fun _ z => z
  anew := s.anew
  bin := s.bin
  anod := s.anod
  atab := s.atab
/-- an owned list is frozen -/
theorem Sv.freeze (s : Sv K TT g al en F σ H) {k : Nat} {a : Addr} {rs : List Rv} {ds : List PyData} {xs : List V} (e1 : al[k]? = some a) (e2 : en.ob[k]? = some (.lst rs)) (hd : dats rs = some ds) (hx : H a = some (.lst xs)) (ha : RvAll K F al xs rs) :
    Sv K TT g al { en with ob := en.ob.set k (.fz ds) } (upd F a (.lst xs)) σ H := by
  have fn := (s.lst e1 e2).1
  have hle : Le F al (upd F a (.lst xs)) al := ⟨same_new fn, List.prefix_rfl⟩
  exact {
  sub := fun b u e => by
    by_cases h : b = a
    · subst h; rw [upd_same] at e; rw [← e]; exact hx
    · rw [upd_ne h] at e; exact s.sub b u e
  frF := s.frF.trans hle.f
  nF := fun b hb => by
    by_cases h : b = a
    · subst h
      rcases s.anew k b e1 with w | w
      · exact .inr (.inl w)
      · exact .inr (.inr w)
    · rw [upd_ne h] at hb; exact s.nF b hb
  frame := s.frame
  tabs := fun P hP => by
    obtain ⟨q1, q2⟩ := s.tabs P hP
    have ne : P ≠ a := fun z => s.atab a (List.mem_of_getElem? e1) (z ▸ hP)
    exact ⟨q1, by rw [upd_ne ne]; exact q2⟩
  len := s.len
  slots := fun i r e => by
    obtain ⟨v, f1, q⟩ := s.slots i r e
    exact ⟨v, f1, q.mono hle⟩
  alen := by simp [s.alen]
  objs := fun j b oc f1 f2 => by
    by_cases hj : j = k
    · subst hj
      rw [e1] at f1
      cases f1
      rw [List.getElem?_set_self (by rw [← s.alen]; exact (List.getElem?_eq_some_iff.mp e1).1)] at f2
      cases f2
      exact ⟨xs, upd_same, dpAll_mono hle.f _ _ (rvAll_dats ha hd)⟩
    · rw [List.getElem?_set_ne (Ne.symm hj)] at f2
      have ne : b ≠ a := fun z => hj (nodup_get s.anod f1 (z ▸ e1))
      exact (s.objs j b oc f1 f2).mono (TT := TT) hle (fun _ _ => rfl) (s.atab b (List.mem_of_getElem? f1)) fun _ z => by rw [upd_ne ne]; exact z
  anew := s.anew
  bin := s.bin
  anod := s.anod
  atab := s.atab }
/-- a slot is set -/
theorem Sv.setS (s : Sv K TT g al en F σ H) {i : Nat} {v : V} {r : Rv} (h : RvR K F al v r) : Sv K TT g al { en with sl := en.sl.set i (some r) } F (σ.set i (some v)) H :=
  { s with
    len := by rw [List.length_set, List.length_set]; exact s.len
    slots := fun j q e => by
      by_cases hj : i = j
      · subst hj
        by_cases hi : i < en.sl.length
        · rw [List.getElem?_set_self hi] at e
          cases e
          exact ⟨v, List.getElem?_set_self (by rw [s.len]; exact hi), h⟩
        · rw [List.getElem?_eq_none (by simpa using hi)] at e; cases e
      · rw [List.getElem?_set_ne hj] at e
        obtain ⟨u, f1, f2⟩ := s.slots j q e
        exact ⟨u, by rw [List.getElem?_set_ne hj]; exact f1, f2⟩ }
/-- the slots of a comprehension's own names -/
def wipeL (l : List (Option Rv)) : List Nat → List (Option Rv)
  | [] => l
  | v :: vs => (wipeL l vs).set v none
theorem wipeL_len (l : List (Option Rv)) : ∀ vs, (wipeL l vs).length = l.length
  | [] => rfl
  | v :: vs => by unfold wipeL; rw [List.length_set, wipeL_len l vs]
theorem wipeL_get {l : List (Option Rv)} {i : Nat} {r : Rv} : ∀ {vs : List Nat}, (wipeL l vs)[i]? = some (some r) → l[i]? = some (some r) ∧ i ∉ vs
  | [], h => ⟨h, by simp⟩
  | v :: vs, h => by
    unfold wipeL at h
    by_cases hi : v = i
    · subst hi
      by_cases hv : v < (wipeL l vs).length
      · rw [List.getElem?_set_self hv] at h; cases h
      · rw [List.getElem?_eq_none (by simpa using hv)] at h; cases h
    · rw [List.getElem?_set_ne hi] at h
      obtain ⟨h1, h2⟩ := wipeL_get h
      exact ⟨h1, by simp only [List.mem_cons, not_or]; exact ⟨fun e => hi e.symm, h2⟩⟩
theorem wipe_get {σ : L2.St} {i : Nat} : ∀ {vs : List Nat}, i ∉ vs → (wipe σ vs)[i]? = σ[i]?
  | [], _ => rfl
  | v :: vs, h => by
    simp only [List.mem_cons, not_or] at h
    unfold wipe
    rw [List.getElem?_set_ne (fun z => h.1 z.symm)]
    exact wipe_get h.2
theorem Sv.wiped (s : Sv K TT g al en F σ H) (vs : List Nat) : Sv K TT g al { en with sl := wipeL en.sl vs } F (wipe σ vs) H :=
  { s with
    len := by rw [wipe_length, wipeL_len]; exact s.len
    slots := fun j q e => by
      obtain ⟨h1, h2⟩ := wipeL_get e
      obtain ⟨u, f1, f2⟩ := s.slots j q h1
      exact ⟨u, by rw [wipe_get h2]; exact f1, f2⟩ }
/-- other slots, of which something is known -/
theorem Sv.reslot (s : Sv K TT g al en F σ H) {sl : List (Option Rv)} {σ' : L2.St} (hl : σ'.length = sl.length) (h : ∀ (i : Nat) (r : Rv), sl[i]? = some (some r) → ∃ v, σ'[i]? = some (some v) ∧ RvR K F al v r) :
    Sv K TT g al { en with sl := sl } F σ' H := { s with len := hl, slots := h }
/-- a table has grown -/
theorem Sv.tabbed (s : Sv K TT g al en F σ H) {P : Addr} (hP : TT P) (h : GxR.Tabbed P H H') : Sv K TT g al en F σ H' := by
  obtain ⟨h1, h2⟩ := h
  have fP := (s.tabs P hP).2
  refine s.ext (Same.refl F) (fun b o e => ?_) (fun Q hQ => ?_) (fun b o e nt => ?_) fun b hb => .inl hb
  · rw [h2 b (ne_of_none e fP)]; exact s.sub b o e
  · by_cases q : Q = P
    · subst q; exact ⟨h1, fP⟩
    · obtain ⟨⟨ps, e, w⟩, n⟩ := s.tabs Q hQ
      exact ⟨⟨ps, by rw [h2 Q q]; exact e, w⟩, n⟩
  · rw [h2 b (fun z => nt (z ▸ hP))]; exact e
end

/-! ## judgements -/
/-- how an exception lies -/
def ExAt (K : PySem.W.Frag) (F H : Hp) (x : Ex) (cls : Value) (dO : Option Addr) : Prop :=
  cls = .ref x.cls ∧ match x.fld with
    | none => True
    | some (f, d) => ∃ dd v, dO = some dd ∧ H dd = some (.xd [(f, v)]) ∧ Dp K F v d
/-- what is wanted behind: R of the value at the way on, W of an exception -/
def Post {α : Type} (K : PySem.W.Frag) (TT : Addr → Prop) (W : WX) (g : Gh) (F : Hp) (al : List Addr) (σ : L2.St) (o : Out α) (R : α → En → Hp → List Addr → Hp → Prop) : Prop :=
  match o with
  | .ok a e => ∀ F' al' H', Le F al F' al' → Sv K TT g al' e F' σ H' → R a e F' al' H'
  | .exc x e => ∀ F' al' H' cls dO, Le F al F' al' → Sv K TT g al' e F' σ H' → ExAt K F' H' x cls dO → W cls dO σ H'
  | .bad => False
section
variable {K : PySem.W.Frag} {TT : Addr → Prop} {W : WX} {g : Gh} {al al' : List Addr} {en : En} {F F' : Hp} {σ : L2.St} {H : Hp} {α β : Type}
theorem Post.up {o : Out α} {R : α → En → Hp → List Addr → Hp → Prop} (h : Post K TT W g F al σ o R) (l : Le F al F' al') : Post K TT W g F' al' σ o R := by
  cases o with
  | ok a e => exact fun F2 a2 H2 l2 s2 => h F2 a2 H2 (l.trans l2) s2
  | exc x e => exact fun F2 a2 H2 c d l2 s2 => h F2 a2 H2 c d (l.trans l2) s2
  | bad => exact h
theorem Post.imp {o : Out α} {R R' : α → En → Hp → List Addr → Hp → Prop} (h : Post K TT W g F al σ o R) (hi : ∀ a e F' al' H', Le F al F' al' → Sv K TT g al' e F' σ H' → R a e F' al' H' → R' a e F' al' H') : Post K TT W g F al σ o R' := by
  cases o with
  | ok a e => exact fun F2 a2 H2 l2 s2 => hi _ _ _ _ _ l2 s2 (h F2 a2 H2 l2 s2)
  | exc x e => exact h
  | bad => exact h
/-- the first part of a sequence -/
theorem Post.seq {m : M α} {k : α → M β} {R : β → En → Hp → List Addr → Hp → Prop} {R' : α → En → Hp → List Addr → Hp → Prop} (h : Post K TT W g F al σ (bnd m k en) R)
    (hk : ∀ a e F' al' H', Le F al F' al' → Sv K TT g al' e F' σ H' → Post K TT W g F' al' σ (k a e) R → R' a e F' al' H') : Post K TT W g F al σ (m en) R' := by
  unfold bnd at h
  cases q : m en with
  | ok a e =>
    rw [q] at h
    exact fun F2 a2 H2 l2 s2 => hk a e F2 a2 H2 l2 s2 (Post.up h l2)
  | exc x e => rw [q] at h; exact h
  | bad => rw [q] at h; exact h
/-- the end, at once -/
theorem Post.here {a : α} {e : En} {R : α → En → Hp → List Addr → Hp → Prop} (s : Sv K TT g al e F σ H) (h : Post K TT W g F al σ (.ok a e) R) : R a e F al H := h F al H (Le.refl _ _) s
theorem Post.at {a : α} {e : En} {F' : Hp} {al' : List Addr} {R : α → En → Hp → List Addr → Hp → Prop} (h : Post K TT W g F al σ (.ok a e) R) (l : Le F al F' al') (s : Sv K TT g al' e F' σ H) : R a e F' al' H := h F' al' H l s
end
structure PD (X : Cx) (TT : Addr → Prop) (W : WX) (e : Expr) (f : M Rv) : Prop where
  ex : ∃ t : TE, PE X e t ∧ ∀ g al en F σ H Q, Sv X.K TT g al en F σ H → Post X.K TT W g F al σ (f en) (fun r _ F' al' H' => ∀ v, RvR X.K F' al' v r → Q v H') → t σ H Q
structure PBt (X : Cx) (TT : Addr → Prop) (W : WX) (e : Expr) (f : M Bool) : Prop where
  ex : ∃ t : L2.TT, PT X e t ∧ ∀ g al en F σ H Q, Sv X.K TT g al en F σ H → Post X.K TT W g F al σ (f en) (fun b _ _ _ H' => Q b H') → t σ H Q
end Pd

namespace Pd
open PySem PySem.Spec PyProof.Rows L2
/-! ## looking at a value -/
def peek (e : En) : Rv → Option PyData
  | .dat d => some d
  | .own k => match e.ob[k]? with
    | some (.fz ds) => some (.list ds)
    | some (.lst rs) => (dats rs).map PyData.list
    | none => none
/-- v is d to look at -/
def PkR (K : PySem.W.Frag) (F H : Hp) (v : V) (d : PyData) : Prop :=
  Dp K F v d ∨ ∃ a xs ds, v = .ref a ∧ d = .list ds ∧ H a = some (.lst xs) ∧ DpAll K F xs ds
section
variable {K : PySem.W.Frag} {TT : Addr → Prop} {g : Gh} {al al' : List Addr} {en en' : En} {F F' : Hp} {σ σ' : L2.St} {H H' : Hp} {v : V} {d : PyData} {r : Rv}
theorem peek_ok (s : Sv K TT g al en F σ H) (h : RvR K F al v r) (e : peek en r = some d) : PkR K F H v d := by
  cases r with
  | dat z =>
    have e' : z = d := Option.some.inj e
    subst e'
    exact .inl h
  | own k =>
    obtain ⟨a, ea, rfl⟩ := h
    unfold peek at e
    simp only at e
    have hk : k < al.length := (List.getElem?_eq_some_iff.mp ea).1
    have hk2 : k < en.ob.length := by rw [← s.alen]; exact hk
    rw [List.getElem?_eq_getElem hk2] at e
    have o := s.objs k a _ ea (List.getElem?_eq_getElem hk2)
    cases q : en.ob[k] with
    | lst rs =>
      rw [q] at e o
      obtain ⟨_, xs, hx, hr⟩ := o
      cases q2 : dats rs with
      | none => simp [q2] at e
      | some ds =>
        simp [q2] at e
        subst e
        exact .inr ⟨a, xs, ds, rfl, rfl, hx, rvAll_dats hr q2⟩
    | fz ds =>
      rw [q] at e o
      simp at e
      subst e
      obtain ⟨xs, hf, ha⟩ := o
      exact .inl (.lst (.inl (.inl hf)) ha)
theorem PkR.list {ds : List PyData} (h : PkR K F H v (.list ds)) (s : Same F H) : ∃ a xs, v = .ref a ∧ SqL K H a xs ∧ DpAll K F xs ds := by
  rcases h with h | ⟨a, xs, es, rfl, e, hx, ha⟩
  · cases h with
    | lst h1 h2 => exact ⟨_, _, rfl, s.seq h1, h2⟩
  · cases e
    exact ⟨a, xs, rfl, .of hx, ha⟩
theorem PkR.tup {ds : List PyData} (h : PkR K F H v (.tuple ds)) (s : Same F H) : ∃ a xs, v = .ref a ∧ SqT K H a xs ∧ DpAll K F xs ds := by
  rcases h with h | ⟨a, xs, es, rfl, e, hx, ha⟩
  · cases h with
    | tup h1 h2 => exact ⟨_, _, rfl, sameT s h1, h2⟩
  · cases e
theorem PkR.int {i : Int} (h : PkR K F H v (.int i)) : v = .int i := by
  rcases h with h | ⟨a, xs, es, rfl, e, hx, ha⟩
  · cases h; rfl
  · cases e
theorem PkR.bool {i : Bool} (h : PkR K F H v (.bool i)) : v = .bl i := by
  rcases h with h | ⟨a, xs, es, rfl, e, hx, ha⟩
  · cases h; rfl
  · cases e
theorem PkR.str {i : Str} (h : PkR K F H v (.str i)) : v = .str i := by
  rcases h with h | ⟨a, xs, es, rfl, e, hx, ha⟩
  · cases h; rfl
  · cases e
theorem PkR.non (h : PkR K F H v .none) : v = .non := by
  rcases h with h | ⟨a, xs, es, rfl, e, hx, ha⟩
  · cases h; rfl
  · cases e
theorem PkR.dp (h : PkR K F H v d) (s : Same F H) : Dp K H v d := by
  rcases h with h | ⟨a, xs, es, rfl, rfl, hx, ha⟩
  · exact dp_mono s _ _ h
  · exact .lst (.of hx) (dpAll_mono s _ _ ha)
end
/-! ## atoms -/
section
variable {X : Cx} {TT : Addr → Prop} {W : WX} {pos : Pos}
def fVar (i : Nat) : M Rv := fun en => match en.sl[i]? with
  | some (some r) => .ok r en
  | _ => .bad
theorem pd_var (i : Nat) {x : Str} (hN : X.N[i]? = some x := by rfl) (hv : Vis X.env.scope x := by first | exact Or.inl rfl | exact Or.inr (Or.inl rfl) | exact Or.inr (Or.inr rfl)) (hd : (x == ("__debug__" : Str)) = false := by decide)
    (hcd : (x == ("__classdict__" : Str)) = false := by decide) : PD X TT W (.Name x pos) (fVar i) := by
  refine ⟨⟨tVar i, pv i hN hv hd hcd, fun g al en F σ H Q s h => ?_⟩⟩
  unfold fVar at h
  cases e : en.sl[i]? with
  | none => rw [e] at h; exact h.elim
  | some o =>
    cases o with
    | none => rw [e] at h; exact h.elim
    | some r =>
      rw [e] at h
      obtain ⟨v, e1, q⟩ := s.slots i r e
      exact ⟨v, e1, h.here s v q⟩
def fC (d : PyData) : M Rv := ret (.dat d)
theorem pd_of {e : Expr} {v : V} {d : PyData} (h : PE X e (tC v)) (hd : ∀ F, Dp X.K F v d) : PD X TT W e (fC d) :=
  ⟨⟨tC v, h, fun g al en F σ H Q s h => h.here s v (hd F)⟩⟩
theorem pd_int {i : Int} {j} : PD X TT W (.Constant (.int i) j pos) (fC (.int i)) := pd_of pe_int fun _ => .int i
theorem pd_bl {b : Bool} {j} : PD X TT W (.Constant (.bool b) j pos) (fC (.bool b)) := pd_of pe_bl fun _ => .bl b
theorem pd_non {j} : PD X TT W (.Constant .none j pos) (fC .none) := pd_of pe_non fun _ => .non
theorem pd_str {x : Str} {j} : PD X TT W (.Constant (.str x) j pos) (fC (.str x)) := pd_of pe_str fun _ => .str x
/-- a module's number -/
theorem pd_gint {x : Str} {i : Int} {t : Tok} (hg : Gl X x) (hm : X.mg x = some (.int i t)) (hd : (x == ("__debug__" : Str)) = false := by decide) : PD X TT W (.Name x pos) (fC (.int i)) :=
  pd_of (pe_glob (v := V.int i) hg hm ⟨t, rfl⟩ hd) fun _ => .int i
theorem pd_gstr {x z : Str} {t : Tok} (hg : Gl X x) (hm : X.mg x = some (.str z t)) (hd : (x == ("__debug__" : Str)) = false := by decide) : PD X TT W (.Name x pos) (fC (.str z)) :=
  pd_of (pe_glob (v := V.str z) hg hm ⟨t, rfl⟩ hd) fun _ => .str z
end
/-! ## operators by values -/
/-- nothing new, or one new frozen object -/
def RStep (F H F' H' : Hp) : Prop := (F' = F ∧ H' = H) ∨ ∃ p o, H p = none ∧ F' = upd F p o ∧ H' = upd H p o
theorem RStep.same (F H : Hp) : RStep F H F H := .inl ⟨rfl, rfl⟩
section
variable {K : PySem.W.Frag} {TT : Addr → Prop} {g : Gh} {al : List Addr} {en : En} {F F' : Hp} {σ : L2.St} {H H' : Hp}
theorem Sv.rstep (s : Sv K TT g al en F σ H) (h : RStep F H F' H') : Sv K TT g al en F' σ H' ∧ Le F al F' al := by
  rcases h with ⟨rfl, rfl⟩ | ⟨p, o, hp, rfl, rfl⟩
  · exact ⟨s, Le.refl _ _⟩
  · exact ⟨s.newF o hp, le_newF s o hp⟩
end
/-- the value z comes, as it must -/
abbrev Gv (K : PySem.W.Frag) (F H : Hp) (z : PyData) (Q : VK) : Prop := ∀ v F' H', RStep F H F' H' → Dp K F' v z → Q v H'
/-- r does on values what gg does on data -/
def Op2 (K : PySem.W.Frag) (r : R2) (gg : PyData → PyData → Option PyData) : Prop :=
  ∀ F H x y d e z Q, Same F H → PkR K F H x d → PkR K F H y e → gg d e = some z → Gv K F H z Q → r x y H Q
def app1 (gg : PyData → Option PyData) (x : Rv) : M Rv := fun en => match peek en x with
  | some d => (match gg d with
    | some z => .ok (.dat z) en
    | none => .bad)
  | none => .bad
def app2 (gg : PyData → PyData → Option PyData) (x y : Rv) : M Rv := fun en => match peek en x, peek en y with
  | some d, some e => (match gg d e with
    | some z => .ok (.dat z) en
    | none => .bad)
  | _, _ => .bad
def f2 (gg : PyData → PyData → Option PyData) (fa fb : M Rv) : M Rv := bnd fa fun x => bnd fb fun y => app2 gg x y
section
variable {X : Cx} {TT : Addr → Prop} {W : WX} {a b c : Expr} {fa fb fc : M Rv} {pos : Pos}
/-- both operands, then what is asked of their values -/
theorem two {ta tb : TE} {g : Gh} {al : List Addr} {en : En} {F : Hp} {σ : L2.St} {H : Hp} {Q : VK} {r : R2} {gg : PyData → PyData → Option PyData}
    (ha : ∀ g al en F σ H Q, Sv X.K TT g al en F σ H → Post X.K TT W g F al σ (fa en) (fun r _ F' al' H' => ∀ v, RvR X.K F' al' v r → Q v H') → ta σ H Q)
    (hb : ∀ g al en F σ H Q, Sv X.K TT g al en F σ H → Post X.K TT W g F al σ (fb en) (fun r _ F' al' H' => ∀ v, RvR X.K F' al' v r → Q v H') → tb σ H Q)
    (hr : Op2 X.K r gg) (s : Sv X.K TT g al en F σ H) (h : Post X.K TT W g F al σ (f2 gg fa fb en) (fun r _ F' al' H' => ∀ v, RvR X.K F' al' v r → Q v H')) : tOp r ta tb σ H Q := by
  refine ha g al en F σ H _ s (Post.seq h fun x e1 F1 a1 H1 l1 s1 p1 v1 r1 => ?_)
  refine hb g a1 e1 F1 σ H1 _ s1 (Post.seq p1 fun y e2 F2 a2 H2 l2 s2 p2 v2 r2 => ?_)
  unfold app2 at p2
  cases ex : peek e2 x with
  | none => rw [ex] at p2; exact p2.elim
  | some dx =>
    cases ey : peek e2 y with
    | none => rw [ex, ey] at p2; exact p2.elim
    | some dy =>
      rw [ex, ey] at p2
      simp only at p2
      cases ez : gg dx dy with
      | none => rw [ez] at p2; exact p2.elim
      | some z =>
        rw [ez] at p2
        refine hr F2 H2 v1 v2 dx dy z Q s2.sub (peek_ok s2 (r1.mono l2) ex) (peek_ok s2 r2 ey) ez fun v F3 H3 hs hd => ?_
        obtain ⟨s3, l3⟩ := s2.rstep hs
        exact p2.at l3 s3 v hd
theorem pd_bin {op : Operator} {r : R2} {gg : PyData → PyData → Option PyData} (ho : OpR X (binaryOp op) r) (hr : Op2 X.K r gg) (ha : PD X TT W a fa) (hb : PD X TT W b fb) : PD X TT W (.BinOp a op b pos) (f2 gg fa fb) := by
  obtain ⟨⟨ta, pa, qa⟩⟩ := ha
  obtain ⟨⟨tb, pb, qb⟩⟩ := hb
  exact ⟨⟨_, pe_op ho pa pb, fun g al en F σ H Q s h => two qa qb hr s h⟩⟩
/-- a comparison as a value -/
theorem pd_cmp {op : CmpOp} {r : R2} {gg : PyData → PyData → Option PyData} (ho : OpR X (compareOp op) r) (hr : Op2 X.K r gg) (ha : PD X TT W a fa) (hb : PD X TT W b fb) (hm : behindInMarks op b = false) : PD X TT W (.Compare a [op] [b] pos) (f2 gg fa fb) := by
  obtain ⟨⟨ta, pa, qa⟩⟩ := ha
  obtain ⟨⟨tb, pb, qb⟩⟩ := hb
  exact ⟨⟨_, pe_cmpR ho pa pb hm, fun g al en F σ H Q s h => two qa qb hr s h⟩⟩
/-- a value that must be a bool -/
def toB (x : Rv) : M Bool := fun en => match x with
  | .dat (.bool b) => .ok b en
  | _ => .bad
theorem toB_post {K : PySem.W.Frag} {g : Gh} {al : List Addr} {en : En} {F : Hp} {σ : L2.St} {H : Hp} {x : Rv} {v : V} {R : Bool → En → Hp → List Addr → Hp → Prop} (s : Sv K TT g al en F σ H) (r : RvR K F al v x) (h : Post K TT W g F al σ (toB x en) R) : ∃ b, v = .bl b ∧ R b en F al H := by
  unfold toB at h
  split at h
  · cases r
    exact ⟨_, rfl, h.here s⟩
  · exact h.elim
def fB (fa : M Rv) : M Bool := bnd fa toB
theorem tst {ta : TE} {t : L2.TT} (ht : ∀ σ H Q, ta σ H (fun x H' => ∃ k, x = .bl k ∧ Q k H') → t σ H Q)
    (ha : ∀ g al en F σ H Q, Sv X.K TT g al en F σ H → Post X.K TT W g F al σ (fa en) (fun r _ F' al' H' => ∀ v, RvR X.K F' al' v r → Q v H') → ta σ H Q)
    {g : Gh} {al : List Addr} {en : En} {F : Hp} {σ : L2.St} {H : Hp} {Q : Bool → Hp → Prop} (s : Sv X.K TT g al en F σ H) (h : Post X.K TT W g F al σ (fB fa en) (fun b _ _ _ H' => Q b H')) : t σ H Q := by
  refine ht σ H Q (ha g al en F σ H _ s (Post.seq h fun x e1 F1 a1 H1 l1 s1 p1 v1 r1 => ?_))
  obtain ⟨b, e, q⟩ := toB_post s1 r1 p1
  exact ⟨b, e, q⟩
theorem pb_cmp {op : CmpOp} {r : R2} {gg : PyData → PyData → Option PyData} (ho : OpR X (compareOp op) r) (hr : Op2 X.K r gg) (ha : PD X TT W a fa) (hb : PD X TT W b fb) (hm : behindInMarks op b = false) : PBt X TT W (.Compare a [op] [b] pos) (fB (f2 gg fa fb)) := by
  obtain ⟨⟨ta, pa, qa⟩⟩ := ha
  obtain ⟨⟨tb, pb, qb⟩⟩ := hb
  exact ⟨⟨_, pt_cmpR ho pa pb hm, fun g al en F σ H Q s h => tst (ta := tOp r ta tb) (fun _ _ _ z => z) (fun g al en F σ H Q s h => two qa qb hr s h) s h⟩⟩
theorem pb_val (h : PD X TT W a fa) (he : ∀ whole, isTrue a X.env whole = (do let v ← whole; standAt a.pos; holding [v] (truthy v)) := by intro _; rfl) : PBt X TT W a (fB fa) := by
  obtain ⟨⟨ta, pa, qa⟩⟩ := h
  exact ⟨⟨_, pt_val pa he, fun g al en F σ H Q s h => tst (ta := ta) (fun _ _ _ z => z) qa s h⟩⟩
/-- an operator on two values, then more -/
theorem app2_seq {α : Type} {K : PySem.W.Frag} {g : Gh} {al : List Addr} {en : En} {F : Hp} {σ : L2.St} {H : Hp} {x y : Rv} {v1 v2 : V} {r : R2} {gg : PyData → PyData → Option PyData} {k : Rv → M α} {R : α → En → Hp → List Addr → Hp → Prop} {Q : VK}
    (hr : Op2 K r gg) (s : Sv K TT g al en F σ H) (r1 : RvR K F al v1 x) (r2 : RvR K F al v2 y) (h : Post K TT W g F al σ (bnd (app2 gg x y) k en) R)
    (hk : ∀ z v F' H', Sv K TT g al en F' σ H' → Le F al F' al → Dp K F' v z → Post K TT W g F' al σ (k (.dat z) en) R → Q v H') : r v1 v2 H Q := by
  have p := Post.seq (R' := fun a e F' al' H' => Post K TT W g F' al' σ (k a e) R) h fun a e F' al' H' _ _ p => p
  unfold app2 at p
  cases ex : peek en x with
  | none => rw [ex] at p; exact p.elim
  | some dx =>
    cases ey : peek en y with
    | none => rw [ex, ey] at p; exact p.elim
    | some dy =>
      rw [ex, ey] at p
      simp only at p
      cases ez : gg dx dy with
      | none => rw [ez] at p; exact p.elim
      | some z =>
        rw [ez] at p
        refine hr F H v1 v2 dx dy z _ s.sub (peek_ok s r1 ex) (peek_ok s r2 ey) ez fun v F3 H3 hs hd => ?_
        obtain ⟨s3, l3⟩ := s.rstep hs
        exact hk z v F3 H3 s3 l3 hd (p.at l3 s3)
/-- a chain of two -/
def fCh (g1 g2 : PyData → PyData → Option PyData) (fa fb fc : M Rv) : M Rv := bnd fa fun x => bnd fb fun y => bnd (app2 g1 x y) fun k => match k with
  | .dat (.bool true) => bnd fc fun z => app2 g2 y z
  | .dat (.bool false) => ret (.dat (.bool false))
  | _ => fun _ => .bad
theorem chn {r r' : R2} {ta tb tc : TE} {g1 g2 : PyData → PyData → Option PyData} {g : Gh} {al : List Addr} {en : En} {F : Hp} {σ : L2.St} {H : Hp} {Q : VK}
    (ha : ∀ g al en F σ H Q, Sv X.K TT g al en F σ H → Post X.K TT W g F al σ (fa en) (fun r _ F' al' H' => ∀ v, RvR X.K F' al' v r → Q v H') → ta σ H Q)
    (hb : ∀ g al en F σ H Q, Sv X.K TT g al en F σ H → Post X.K TT W g F al σ (fb en) (fun r _ F' al' H' => ∀ v, RvR X.K F' al' v r → Q v H') → tb σ H Q)
    (hc : ∀ g al en F σ H Q, Sv X.K TT g al en F σ H → Post X.K TT W g F al σ (fc en) (fun r _ F' al' H' => ∀ v, RvR X.K F' al' v r → Q v H') → tc σ H Q)
    (h1 : Op2 X.K r g1) (h2 : Op2 X.K r' g2) (s : Sv X.K TT g al en F σ H) (h : Post X.K TT W g F al σ (fCh g1 g2 fa fb fc en) (fun r _ F' al' H' => ∀ v, RvR X.K F' al' v r → Q v H')) :
    tChain r r' ta tb tc σ H Q := by
  refine ha g al en F σ H _ s (Post.seq h fun x e1 F1 a1 H1 l1 s1 p1 v1 r1 => ?_)
  refine hb g a1 e1 F1 σ H1 _ s1 (Post.seq p1 fun y0 e2 F2 a2 H2 l2 s2 p2 v2 r2 => ?_)
  refine app2_seq h1 s2 (r1.mono l2) r2 p2 fun z v F3 H3 s3 l3 hd p3 => ?_
  have dead : ∀ {P : Prop}, Post X.K TT W g F3 a2 σ (Out.bad : Out Rv) (fun r _ F' al' H' => ∀ v, RvR X.K F' al' v r → Q v H') → P := fun z => z.elim
  cases z with
  | bool k =>
    cases k with
    | true =>
      cases hd
      refine ⟨true, rfl, ?_⟩
      rw [if_pos rfl]
      have p3 : Post X.K TT W g F3 a2 σ (bnd fc (fun z => app2 g2 y0 z) e2) (fun r _ F' al' H' => ∀ v, RvR X.K F' al' v r → Q v H') := p3
      refine hc g a2 e2 F3 σ H3 _ s3 (Post.seq p3 fun y e4 F4 a4 H4 l4 s4 p4 v4 r4 => ?_)
      have p5 : Post X.K TT W g F4 a4 σ (bnd (app2 g2 y0 y) ret e4) (fun r _ F' al' H' => ∀ v, RvR X.K F' al' v r → Q v H') := by
        unfold bnd
        generalize app2 g2 y0 y e4 = o at p4 ⊢
        cases o <;> exact p4
      exact app2_seq h2 s4 ((r2.mono l3).mono l4) r4 p5 fun z v F5 H5 s5 l5 hd p6 => p6.here s5 v hd
    | false =>
      cases hd
      refine ⟨false, rfl, ?_⟩
      rw [if_neg Bool.false_ne_true]
      exact Post.here (a := Rv.dat (.bool false)) (R := fun r _ F' al' H' => ∀ v, RvR X.K F' al' v r → Q v H') s3 p3 _ (Dp.bl false)
  | none => exact dead p3
  | int i => exact dead p3
  | str i => exact dead p3
  | list i => exact dead p3
  | tuple i => exact dead p3
  | dict i => exact dead p3
theorem pd_chain {op op' : CmpOp} {r r' : R2} {g1 g2 : PyData → PyData → Option PyData} (ho : OpR X (compareOp op) r) (h1 : Op2 X.K r g1) (ho' : OpR X (compareOp op') r') (h2 : Op2 X.K r' g2) (ha : PD X TT W a fa) (hb : PD X TT W b fb) (hc : PD X TT W c fc)
    (hm : lastMarks [op, op'] [b, c] = false := by with_unfolding_all rfl) : PD X TT W (.Compare a [op, op'] [b, c] pos) (fCh g1 g2 fa fb fc) := by
  obtain ⟨⟨ta, pa, qa⟩⟩ := ha
  obtain ⟨⟨tb, pb, qb⟩⟩ := hb
  obtain ⟨⟨tc, pc, qc⟩⟩ := hc
  exact ⟨⟨_, pe_chain ho ho' pa pb pc hm, fun g al en F σ H Q s h => chn qa qb qc h1 h2 s h⟩⟩
theorem pb_chain {op op' : CmpOp} {r r' : R2} {g1 g2 : PyData → PyData → Option PyData} (ho : OpR X (compareOp op) r) (h1 : Op2 X.K r g1) (ho' : OpR X (compareOp op') r') (h2 : Op2 X.K r' g2) (ha : PD X TT W a fa) (hb : PD X TT W b fb) (hc : PD X TT W c fc)
    (hm : lastMarks [op, op'] [b, c] = false := by with_unfolding_all rfl) : PBt X TT W (.Compare a [op, op'] [b, c] pos) (fB (fCh g1 g2 fa fb fc)) := by
  obtain ⟨⟨ta, pa, qa⟩⟩ := ha
  obtain ⟨⟨tb, pb, qb⟩⟩ := hb
  obtain ⟨⟨tc, pc, qc⟩⟩ := hc
  exact ⟨⟨_, pt_chain ho ho' pa pb pc hm, fun g al en F σ H Q s h => tst (ta := tChain r r' ta tb tc) (fun _ _ _ z => z) (fun g al en F σ H Q s h => chn qa qb qc h1 h2 s h) s h⟩⟩
/-! ## and, or, not -/
structure PWd (X : Cx) (TT : Addr → Prop) (W : WX) (e : Expr) (f : M Bool) : Prop where
  ex : ∃ t : L2.TT, PW X e t ∧ ∀ g al en F σ H Q, Sv X.K TT g al en F σ H → Post X.K TT W g F al σ (f en) (fun b _ _ _ H' => Q b H') → t σ H Q
theorem pb_of {e : Expr} {f : M Bool} (h : PWd X TT W e f) : PBt X TT W e f := by
  obtain ⟨⟨t, p, q⟩⟩ := h
  exact ⟨⟨t, p.pt, q⟩⟩
def fAnd (fa fb : M Bool) : M Bool := bnd fa fun b => if b = true then fb else ret false
def fOr (fa fb : M Bool) : M Bool := bnd fa fun b => if b = true then ret true else fb
def fNot (fa : M Bool) : M Bool := bnd fa fun b => ret (!b)
variable {ga gb : M Bool} {rest : List Expr}
theorem pw_a1 (ha : PBt X TT W a ga) : PWd X TT W (.BoolOp .And [a] pos) ga := by
  obtain ⟨⟨t, p, q⟩⟩ := ha
  exact ⟨⟨t, pw_and1 p, q⟩⟩
theorem pw_o1 (ha : PBt X TT W a ga) : PWd X TT W (.BoolOp .Or [a] pos) ga := by
  obtain ⟨⟨t, p, q⟩⟩ := ha
  exact ⟨⟨t, pw_or1 p, q⟩⟩
theorem pw_a (ha : PBt X TT W a ga) (hb : PWd X TT W (.BoolOp .And (b :: rest) pos) gb) : PWd X TT W (.BoolOp .And (a :: b :: rest) pos) (fAnd ga gb) := by
  obtain ⟨⟨t, p, q⟩⟩ := ha
  obtain ⟨⟨u, p', q'⟩⟩ := hb
  refine ⟨⟨_, pw_and p p', fun g al en F σ H Q s h => ?_⟩⟩
  refine q g al en F σ H _ s (Post.seq h fun x e1 F1 a1 H1 l1 s1 p1 => ?_)
  cases x with
  | true => rw [if_pos rfl] at p1 ⊢; exact q' g a1 e1 F1 σ H1 Q s1 p1
  | false => rw [if_neg Bool.false_ne_true] at p1 ⊢; exact p1.here s1
theorem pw_o (ha : PBt X TT W a ga) (hb : PWd X TT W (.BoolOp .Or (b :: rest) pos) gb) : PWd X TT W (.BoolOp .Or (a :: b :: rest) pos) (fOr ga gb) := by
  obtain ⟨⟨t, p, q⟩⟩ := ha
  obtain ⟨⟨u, p', q'⟩⟩ := hb
  refine ⟨⟨_, pw_or p p', fun g al en F σ H Q s h => ?_⟩⟩
  refine q g al en F σ H _ s (Post.seq h fun x e1 F1 a1 H1 l1 s1 p1 => ?_)
  cases x with
  | true => rw [if_pos rfl] at p1 ⊢; exact p1.here s1
  | false => rw [if_neg Bool.false_ne_true] at p1 ⊢; exact q' g a1 e1 F1 σ H1 Q s1 p1
theorem pb_not (ha : PBt X TT W a ga) : PBt X TT W (.UnaryOp .Not a pos) (fNot ga) := by
  obtain ⟨⟨t, p, q⟩⟩ := ha
  exact ⟨⟨_, pt_not p, fun g al en F σ H Q s h => q g al en F σ H _ s (Post.seq h fun x e1 F1 a1 H1 l1 s1 p1 => p1.here s1)⟩⟩
/-- as values -/
def vAnd (fa fb : M Rv) : M Rv := bnd (fB fa) fun b => if b = true then fb else ret (.dat (.bool false))
def vOr (fa fb : M Rv) : M Rv := bnd (fB fa) fun b => if b = true then ret (.dat (.bool true)) else fb
def vNot (fa : M Rv) : M Rv := bnd (fB fa) fun b => ret (.dat (.bool (!b)))
theorem bseq {β : Type} {ta : TE} {g : Gh} {al : List Addr} {en : En} {F : Hp} {σ : L2.St} {H : Hp} {Q : VK} {k : Bool → M β} {R : β → En → Hp → List Addr → Hp → Prop}
    (ha : ∀ g al en F σ H Q, Sv X.K TT g al en F σ H → Post X.K TT W g F al σ (fa en) (fun r _ F' al' H' => ∀ v, RvR X.K F' al' v r → Q v H') → ta σ H Q) (s : Sv X.K TT g al en F σ H) (h : Post X.K TT W g F al σ (bnd (fB fa) k en) R)
    (hk : ∀ c e1 F1 a1 H1, Le F al F1 a1 → Sv X.K TT g a1 e1 F1 σ H1 → Post X.K TT W g F1 a1 σ (k c e1) R → Q (.bl c) H1) : ta σ H Q := by
  have h1 := Post.seq (R' := fun c e F' al' H' => Post X.K TT W g F' al' σ (k c e) R) h fun c e F' al' H' _ _ p => p
  refine ha g al en F σ H _ s (Post.seq h1 fun x e1 F1 a1 H1 l1 s1 p1 v1 r1 => ?_)
  obtain ⟨c, rfl, q⟩ := toB_post s1 r1 p1
  exact hk c e1 F1 a1 H1 l1 s1 q
theorem pd_one {op} (h : PD X TT W a fa) : PD X TT W (.BoolOp op [a] pos) fa := by
  obtain ⟨⟨t, p, q⟩⟩ := h
  exact ⟨⟨t, pe_one p, q⟩⟩
theorem pd_and (ha : PD X TT W a fa) (hb : PD X TT W (.BoolOp .And (b :: rest) pos) fb) : PD X TT W (.BoolOp .And (a :: b :: rest) pos) (vAnd fa fb) := by
  obtain ⟨⟨t, p, q⟩⟩ := ha
  obtain ⟨⟨u, p', q'⟩⟩ := hb
  refine ⟨⟨_, pe_and p p', fun g al en F σ H Q s h => ?_⟩⟩
  show t σ H fun x H1 => ∃ c, x = V.bl c ∧ if c = true then u σ H1 Q else Q (.bl false) H1
  refine bseq q s h fun c e1 F1 a1 H1 l1 s1 p1 => ⟨c, rfl, ?_⟩
  cases c with
  | true => rw [if_pos rfl] at p1 ⊢; exact q' g a1 e1 F1 σ H1 Q s1 p1
  | false => rw [if_neg Bool.false_ne_true] at p1 ⊢; exact p1.here s1 _ (Dp.bl false)
theorem pd_or (ha : PD X TT W a fa) (hb : PD X TT W (.BoolOp .Or (b :: rest) pos) fb) : PD X TT W (.BoolOp .Or (a :: b :: rest) pos) (vOr fa fb) := by
  obtain ⟨⟨t, p, q⟩⟩ := ha
  obtain ⟨⟨u, p', q'⟩⟩ := hb
  refine ⟨⟨_, pe_or p p', fun g al en F σ H Q s h => ?_⟩⟩
  show t σ H fun x H1 => ∃ c, x = V.bl c ∧ if c = true then Q (.bl true) H1 else u σ H1 Q
  refine bseq q s h fun c e1 F1 a1 H1 l1 s1 p1 => ⟨c, rfl, ?_⟩
  cases c with
  | true => rw [if_pos rfl] at p1 ⊢; exact p1.here s1 _ (Dp.bl true)
  | false => rw [if_neg Bool.false_ne_true] at p1 ⊢; exact q' g a1 e1 F1 σ H1 Q s1 p1
theorem pd_not (ha : PD X TT W a fa) : PD X TT W (.UnaryOp .Not a pos) (vNot fa) := by
  obtain ⟨⟨t, p, q⟩⟩ := ha
  refine ⟨⟨_, pe_not p, fun g al en F σ H Q s h => ?_⟩⟩
  show t σ H fun x H1 => ∃ c, x = V.bl c ∧ Q (.bl (!c)) H1
  exact bseq q s h fun c e1 F1 a1 H1 l1 s1 p1 => ⟨c, rfl, p1.here s1 _ (Dp.bl _)⟩
def fIf (c : M Bool) (fa fb : M Rv) : M Rv := bnd c fun b => if b = true then fa else fb
theorem pd_if {gc : M Bool} (hc : PBt X TT W c gc) (ha : PD X TT W a fa) (hb : PD X TT W b fb) : PD X TT W (.IfExp c a b pos) (fIf gc fa fb) := by
  obtain ⟨⟨t, p, q⟩⟩ := hc
  obtain ⟨⟨ta, pa, qa⟩⟩ := ha
  obtain ⟨⟨tb, pb, qb⟩⟩ := hb
  refine ⟨⟨_, pe_ifExp p pa pb, fun g al en F σ H Q s h => ?_⟩⟩
  refine q g al en F σ H _ s (Post.seq h fun x e1 F1 a1 H1 l1 s1 p1 => ?_)
  cases x with
  | true => rw [if_pos rfl] at p1 ⊢; exact qa g a1 e1 F1 σ H1 Q s1 p1
  | false => rw [if_neg Bool.false_ne_true] at p1 ⊢; exact qb g a1 e1 F1 σ H1 Q s1 p1
end
end Pd

namespace Pd
open PySem PySem.Spec PyProof.Rows L2
/-! ## the operators -/
section
variable {K : PySem.W.Frag}
theorem Op2.or {r r' : R2} {gg gg' : PyData → PyData → Option PyData} (h : Op2 K r gg) (h' : Op2 K r' gg') : Op2 K (fun x y H Q => r x y H Q ∨ r' x y H Q) (fun d e => match gg d e with
    | some z => some z
    | none => gg' d e) := by
  intro F H x y d e z Q s hx hy hg k
  cases q : gg d e with
  | some w =>
    simp only [q] at hg
    exact .inl (h F H x y d e z Q s hx hy (q.trans hg) k)
  | none =>
    simp only [q] at hg
    exact .inr (h' F H x y d e z Q s hx hy hg k)
def addI : PyData → PyData → Option PyData
  | .int i, .int j => some (.int (i + j))
  | _, _ => none
def addT : PyData → PyData → Option PyData
  | .tuple xs, .tuple ys => if xs.length + ys.length ≤ sizeLine then some (.tuple (xs ++ ys)) else none
  | _, _ => none
def addS : PyData → PyData → Option PyData
  | .str i, .str j => if i.length + j.length ≤ sizeLine then some (.str (i ++ j)) else none
  | _, _ => none
def subG : PyData → PyData → Option PyData
  | .int i, .int j => some (.int (i - j))
  | _, _ => none
def mulG : PyData → PyData → Option PyData
  | .int i, .int j => if (-(2 ^ 64) < i ∧ i < 2 ^ 64) ∨ (-(2 ^ 64) < j ∧ j < 2 ^ 64) then some (.int (i * j)) else none
  | _, _ => none
def divG : PyData → PyData → Option PyData
  | .int i, .int j => if 0 < j ∧ j < 1073741824 then some (.int (i / j)) else none
  | _, _ => none
def modG : PyData → PyData → Option PyData
  | .int i, .int j => if 0 < j then some (.int (i % j)) else none
  | _, _ => none
def powG : PyData → PyData → Option PyData
  | .int i, .int j => if 0 ≤ j ∧ j ≤ 1000000 ∧ i.natAbs < 2 ^ 64 then some (.int (i ^ j.toNat)) else none
  | _, _ => none
/-- two ints, a condition -/
theorem o2_int {C : Int → Int → Prop} {gg : PyData → PyData → Option PyData} {h : Int → Int → V} {h' : Int → Int → PyData}
    (hv : ∀ F i j, Dp K F (h i j) (h' i j)) (hg : ∀ d e z, gg d e = some z → ∃ i j, d = .int i ∧ e = .int j ∧ C i j ∧ z = h' i j) : Op2 K (rI C h) gg := by
  intro F H x y d e z Q s hx hy hz k
  obtain ⟨i, j, rfl, rfl, c, rfl⟩ := hg d e z hz
  exact ⟨i, j, hx.int, hy.int, c, k _ F H (.same _ _) (hv F i j)⟩
theorem o2_int0 {gg : PyData → PyData → Option PyData} {h : Int → Int → V} {h' : Int → Int → PyData}
    (hv : ∀ F i j, Dp K F (h i j) (h' i j)) (hg : ∀ d e z, gg d e = some z → ∃ i j, d = .int i ∧ e = .int j ∧ z = h' i j) : Op2 K (rI0 h) gg := by
  intro F H x y d e z Q s hx hy hz k
  obtain ⟨i, j, rfl, rfl, rfl⟩ := hg d e z hz
  exact ⟨i, j, hx.int, hy.int, k _ F H (.same _ _) (hv F i j)⟩
theorem o_addI : Op2 K (rI0 fun i j => .int (i + j)) addI := o2_int0 (h' := fun i j => .int (i + j)) (fun _ _ _ => .int _) fun d e z h => by
  unfold addI at h; split at h
  · cases h; exact ⟨_, _, rfl, rfl, rfl⟩
  · cases h
theorem o_sub : Op2 K (rI0 fun i j => .int (i - j)) subG := o2_int0 (h' := fun i j => .int (i - j)) (fun _ _ _ => .int _) fun d e z h => by
  unfold subG at h; split at h
  · cases h; exact ⟨_, _, rfl, rfl, rfl⟩
  · cases h
theorem o_mul : Op2 K (rI CMul fun i j => .int (i * j)) mulG := o2_int (h' := fun i j => .int (i * j)) (fun _ _ _ => .int _) fun d e z h => by
  unfold mulG at h; split at h
  · split at h
    · rename_i c; cases h; exact ⟨_, _, rfl, rfl, c, rfl⟩
    · cases h
  · cases h
theorem o_div : Op2 K (rI CDiv fun i j => .int (i / j)) divG := o2_int (h' := fun i j => .int (i / j)) (fun _ _ _ => .int _) fun d e z h => by
  unfold divG at h; split at h
  · split at h
    · rename_i c; cases h; exact ⟨_, _, rfl, rfl, c, rfl⟩
    · cases h
  · cases h
theorem o_mod : Op2 K (rI (fun _ j => 0 < j) fun i j => .int (i % j)) modG := o2_int (C := fun _ j => 0 < j) (h' := fun i j => .int (i % j)) (fun _ _ _ => .int _) fun d e z h => by
  unfold modG at h; split at h
  · split at h
    · rename_i c; cases h; exact ⟨_, _, rfl, rfl, c, rfl⟩
    · cases h
  · cases h
theorem o_pow : Op2 K (rI CPow fun i j => .int (i ^ j.toNat)) powG := o2_int (h' := fun i j => .int (i ^ j.toNat)) (fun _ _ _ => .int _) fun d e z h => by
  unfold powG at h; split at h
  · split at h
    · rename_i c; cases h; exact ⟨_, _, rfl, rfl, c, rfl⟩
    · cases h
  · cases h
theorem o_addT : Op2 K (rCatA K) addT := by
  intro F H x y d e z Q s hx hy hg k
  unfold addT at hg
  split at hg
  · rename_i xs ys
    split at hg
    · rename_i hz
      cases hg
      obtain ⟨a, us, rfl, h1, h2⟩ := hx.tup s
      obtain ⟨b, ws, rfl, h3, h4⟩ := hy.tup s
      have l1 := dpAll_len h2
      have l2 := dpAll_len h4
      refine ⟨a, b, us, ws, rfl, rfl, h1, h3, by omega, fun q => ?_, fun q1 q2 => ?_, fun q1 q2 p hp => ?_⟩
      · subst q
        have e : xs = [] := List.length_eq_zero_iff.mp l1.symm
        subst e
        rcases hy with w | ⟨_, _, _, _, w, _⟩
        · exact k _ F H (.same _ _) w
        · cases w
      · subst q2
        have e : ys = [] := List.length_eq_zero_iff.mp l2.symm
        subst e
        rw [List.append_nil] at k
        rcases hx with w | ⟨_, _, _, _, w, _⟩
        · exact k _ F H (.same _ _) w
        · cases w
      · exact k _ (upd F p (.tup (us ++ ws))) _ (.inr ⟨p, _, hp, rfl, rfl⟩) (dp_tup (dpAll_app h2 h4) (s.free hp))
    · cases hg
  · cases hg
theorem o_addS : Op2 K (fun x y H Q => ∃ i j, x = .str i ∧ y = .str j ∧ i.length + j.length ≤ sizeLine ∧ Q (.str (i ++ j)) H) addS := by
  intro F H x y d e z Q s hx hy hg k
  unfold addS at hg
  split at hg
  · split at hg
    · rename_i hz
      cases hg
      exact ⟨_, _, hx.str, hy.str, hz, k _ F H (.same _ _) (.str _)⟩
    · cases hg
  · cases hg
def cmpG (p : Int → Int → Bool) : PyData → PyData → Option PyData
  | .int i, .int j => some (.bool (p i j))
  | _, _ => none
theorem o_cmp {p : Int → Int → Bool} : Op2 K (rI0 fun i j => .bl (p i j)) (cmpG p) := o2_int0 (h' := fun i j => .bool (p i j)) (fun _ _ _ => .bl _) fun d e z h => by
  unfold cmpG at h; split at h
  · cases h; exact ⟨_, _, rfl, rfl, rfl⟩
  · cases h
abbrev ltG := cmpG fun i j => decide (i < j)
abbrev leG := cmpG fun i j => decide (i ≤ j)
abbrev gtG := cmpG fun i j => decide (j < i)
abbrev geG := cmpG fun i j => decide (j ≤ i)
def eqG (d e : PyData) : Option PyData := if SeqAt.shaped d = true ∧ SeqAt.shaped e = true then some (.bool (PyData.eqv d e)) else none
def neG (d e : PyData) : Option PyData := if SeqAt.shaped d = true ∧ SeqAt.shaped e = true then some (.bool (!PyData.eqv d e)) else none
theorem o_eq : Op2 K (rEqD K) eqG := by
  intro F H x y d e z Q s hx hy hg k
  unfold eqG at hg
  split at hg
  · rename_i c
    cases hg
    exact ⟨d, e, hx.dp s, hy.dp s, c.1, c.2, k _ F H (.same _ _) (.bl _)⟩
  · cases hg
theorem o_ne : Op2 K (rNeD K) neG := by
  intro F H x y d e z Q s hx hy hg k
  unfold neG at hg
  split at hg
  · rename_i c
    cases hg
    exact ⟨d, e, hx.dp s, hy.dp s, c.1, c.2, k _ F H (.same _ _) (.bl _)⟩
  · cases hg
/-- flat data as a value -/
def toV : PyData → Option V
  | .none => some .non
  | .bool b => some (.bl b)
  | .int i => some (.int i)
  | .str x => some (.str x)
  | _ => none
def toVs : List PyData → Option (List V)
  | [] => some []
  | d :: ds => match toV d, toVs ds with
    | some v, some vs => some (v :: vs)
    | _, _ => none
theorem toV_ok {F : Hp} {d : PyData} {v u : V} (h : Dp K F v d) (e : toV d = some u) : v = u ∧ flatV u = true := by
  cases h <;> simp [toV] at e <;> subst e <;> exact ⟨rfl, rfl⟩
theorem toVs_ok {F : Hp} : ∀ {ds : List PyData} {vs us : List V}, DpAll K F vs ds → toVs ds = some us → vs = us ∧ us.all flatV = true
  | [], _, _, h, e => by
    cases h
    simp [toVs] at e
    subst e
    exact ⟨rfl, rfl⟩
  | d :: ds, _, us, h, e => by
    cases h with
    | cons h1 h2 =>
      unfold toVs at e
      cases q1 : toV d with
      | none => rw [q1] at e; cases e
      | some w =>
        cases q2 : toVs ds with
        | none => rw [q1, q2] at e; cases e
        | some ws =>
          rw [q1, q2] at e
          cases e
          obtain ⟨r1, f1⟩ := toV_ok h1 q1
          obtain ⟨r2, f2⟩ := toVs_ok h2 q2
          rw [r1, r2]
          exact ⟨rfl, by rw [List.all_cons, f1, f2]; rfl⟩
def items : PyData → Option (List PyData)
  | .list ds => some ds
  | .tuple ds => some ds
  | _ => none
def inG (neg : Bool) (d e : PyData) : Option PyData := match toV d, items e with
  | some v, some ds => (match toVs ds with
    | some vs => some (.bool (if neg then !inV v vs else inV v vs))
    | none => none)
  | _, _ => none
theorem o_in (neg : Bool) : Op2 K (rIn K neg) (inG neg) := by
  intro F H x y d e z Q s hx hy hg k
  unfold inG at hg
  cases q1 : toV d with
  | none => rw [q1] at hg; cases hg
  | some v =>
    cases q2 : items e with
    | none => rw [q1, q2] at hg; cases hg
    | some ds =>
      rw [q1, q2] at hg
      simp only at hg
      cases q3 : toVs ds with
      | none => rw [q3] at hg; cases hg
      | some vs =>
        rw [q3] at hg
        cases hg
        obtain ⟨rfl, f1⟩ := toV_ok (hx.dp s) q1
        have key : ∃ a xs, y = .ref a ∧ (SqL K H a xs ∨ SqT K H a xs) ∧ DpAll K F xs ds := by
          cases e with
          | list es =>
            cases q2
            obtain ⟨a, xs, e1, e2, e3⟩ := hy.list s
            exact ⟨a, xs, e1, .inl e2, e3⟩
          | tuple es =>
            cases q2
            obtain ⟨a, xs, e1, e2, e3⟩ := hy.tup s
            exact ⟨a, xs, e1, .inr e2, e3⟩
          | _ => cases q2
        obtain ⟨a, xs, rfl, e2, e3⟩ := key
        obtain ⟨rfl, f2⟩ := toVs_ok e3 q3
        exact ⟨a, _, rfl, e2, f1, f2, k _ F H (.same _ _) (.bl _)⟩
def isNo : PyData → Bool
  | .none => true
  | _ => false
def isNG (neg : Bool) (d e : PyData) : Option PyData := match e with
  | .none => some (.bool (if neg then !isNo d else isNo d))
  | _ => none
theorem dp_non {F H : Hp} {x : V} {d : PyData} (s : Same F H) (h : PkR K F H x d) : decide (x = V.non) = isNo d := by
  have q := h.dp s
  cases q <;> simp [isNo]
theorem o_isN : Op2 K (fun x y H Q => y = .non ∧ Q (.bl (decide (x = .non))) H) (isNG false) := by
  intro F H x y d e z Q s hx hy hg k
  unfold isNG at hg
  split at hg
  · cases hg
    refine ⟨hy.non, k _ F H (.same _ _) ?_⟩
    rw [dp_non s hx]
    exact .bl _
  · cases hg
theorem o_isnN : Op2 K (fun x y H Q => y = .non ∧ Q (.bl (!decide (x = .non))) H) (isNG true) := by
  intro F H x y d e z Q s hx hy hg k
  unfold isNG at hg
  split at hg
  · cases hg
    refine ⟨hy.non, k _ F H (.same _ _) ?_⟩
    rw [dp_non s hx]
    exact .bl _
  · cases hg
def ixG : PyData → PyData → Option PyData
  | .list ds, .int i => atI ds i
  | .tuple ds, .int i => atI ds i
  | _, _ => none
theorem atI_dp {F : Hp} {xs : List V} {ds : List PyData} {i : Int} {z : PyData} (h : DpAll K F xs ds) (e : atI ds i = some z) : ∃ v, atI xs i = some v ∧ Dp K F v z := by
  unfold atI at e ⊢
  rw [dpAll_len h]
  cases q : ixN ds.length i with
  | none => rw [q] at e; cases e
  | some j =>
    rw [q] at e
    exact dpAll_get h e
theorem o_ix : Op2 K (fun x y H Q => rIxL K x y H Q ∨ rIxT K x y H Q) ixG := by
  intro F H x y d e z Q s hx hy hg k
  unfold ixG at hg
  split at hg
  · obtain ⟨a, xs, rfl, h1, h2⟩ := hx.list s
    obtain ⟨v, e1, e2⟩ := atI_dp h2 hg
    exact .inl ⟨a, xs, _, v, rfl, hy.int, h1, e1, k _ F H (.same _ _) e2⟩
  · obtain ⟨a, xs, rfl, h1, h2⟩ := hx.tup s
    obtain ⟨v, e1, e2⟩ := atI_dp h2 hg
    exact .inr ⟨a, xs, _, v, rfl, hy.int, h1, e1, k _ F H (.same _ _) e2⟩
  · cases hg
end
/-! ## with the expressions -/
section
variable {X : Cx} {TT : Addr → Prop} {W : WX} {a b c : Expr} {fa fb fc : M Rv} {pos : Pos}
def addG (d e : PyData) : Option PyData := match addI d e with
  | some z => some z
  | none => match addT d e with
    | some z => some z
    | none => addS d e
theorem pd_add (ha : PD X TT W a fa) (hb : PD X TT W b fb) : PD X TT W (.BinOp a .Add b pos) (f2 addG fa fb) := pd_bin (op_add.or (op_catA.or op_add_str)) (o_addI.or (o_addT.or o_addS)) ha hb
theorem pd_sub (ha : PD X TT W a fa) (hb : PD X TT W b fb) : PD X TT W (.BinOp a .Sub b pos) (f2 subG fa fb) := pd_bin op_sub o_sub ha hb
theorem pd_mul (ha : PD X TT W a fa) (hb : PD X TT W b fb) : PD X TT W (.BinOp a .Mult b pos) (f2 mulG fa fb) := pd_bin op_mul o_mul ha hb
theorem pd_div (ha : PD X TT W a fa) (hb : PD X TT W b fb) : PD X TT W (.BinOp a .FloorDiv b pos) (f2 divG fa fb) := pd_bin op_fdiv o_div ha hb
theorem pd_mod (ha : PD X TT W a fa) (hb : PD X TT W b fb) : PD X TT W (.BinOp a .Mod b pos) (f2 modG fa fb) := pd_bin op_mod o_mod ha hb
theorem pd_pow (ha : PD X TT W a fa) (hb : PD X TT W b fb) : PD X TT W (.BinOp a .Pow b pos) (f2 powG fa fb) := pd_bin op_pow o_pow ha hb
theorem pb_lt (ha : PD X TT W a fa) (hb : PD X TT W b fb) : PBt X TT W (.Compare a [.Lt] [b] pos) (fB (f2 ltG fa fb)) := pb_cmp op_lt o_cmp ha hb (nomark _)
theorem pb_le (ha : PD X TT W a fa) (hb : PD X TT W b fb) : PBt X TT W (.Compare a [.LtE] [b] pos) (fB (f2 leG fa fb)) := pb_cmp op_le o_cmp ha hb (nomark _)
theorem pb_gt (ha : PD X TT W a fa) (hb : PD X TT W b fb) : PBt X TT W (.Compare a [.Gt] [b] pos) (fB (f2 gtG fa fb)) := pb_cmp op_gt o_cmp ha hb (nomark _)
theorem pb_ge (ha : PD X TT W a fa) (hb : PD X TT W b fb) : PBt X TT W (.Compare a [.GtE] [b] pos) (fB (f2 geG fa fb)) := pb_cmp op_ge o_cmp ha hb (nomark _)
theorem pb_eq (hu : X.A.units + 64 < cLine) (ha : PD X TT W a fa) (hb : PD X TT W b fb) : PBt X TT W (.Compare a [.Eq] [b] pos) (fB (f2 eqG fa fb)) := pb_cmp (op_eqD hu) o_eq ha hb (nomark _)
theorem pb_ne (hu : X.A.units + 64 < cLine) (ha : PD X TT W a fa) (hb : PD X TT W b fb) : PBt X TT W (.Compare a [.NotEq] [b] pos) (fB (f2 neG fa fb)) := pb_cmp (op_neD hu) o_ne ha hb (nomark _)
theorem pb_in (ha : PD X TT W a fa) (hb : PD X TT W b fb) (hm : behindInMarks .In b = false := by rfl) : PBt X TT W (.Compare a [.In] [b] pos) (fB (f2 (inG false) fa fb)) := pb_cmp op_in_seq (o_in false) ha hb hm
theorem pb_nin (ha : PD X TT W a fa) (hb : PD X TT W b fb) (hm : behindInMarks .NotIn b = false := by rfl) : PBt X TT W (.Compare a [.NotIn] [b] pos) (fB (f2 (inG true) fa fb)) := pb_cmp op_notIn_seq (o_in true) ha hb hm
theorem pb_isN (ha : PD X TT W a fa) (hb : PD X TT W b fb) : PBt X TT W (.Compare a [.Is] [b] pos) (fB (f2 (isNG false) fa fb)) := pb_cmp op_isN o_isN ha hb (nomark _)
theorem pb_isnN (ha : PD X TT W a fa) (hb : PD X TT W b fb) : PBt X TT W (.Compare a [.IsNot] [b] pos) (fB (f2 (isNG true) fa fb)) := pb_cmp op_notN o_isnN ha hb (nomark _)
theorem pd_lt (ha : PD X TT W a fa) (hb : PD X TT W b fb) : PD X TT W (.Compare a [.Lt] [b] pos) (f2 ltG fa fb) := pd_cmp op_lt o_cmp ha hb (nomark _)
theorem pd_le (ha : PD X TT W a fa) (hb : PD X TT W b fb) : PD X TT W (.Compare a [.LtE] [b] pos) (f2 leG fa fb) := pd_cmp op_le o_cmp ha hb (nomark _)
theorem pd_gt (ha : PD X TT W a fa) (hb : PD X TT W b fb) : PD X TT W (.Compare a [.Gt] [b] pos) (f2 gtG fa fb) := pd_cmp op_gt o_cmp ha hb (nomark _)
theorem pd_ge (ha : PD X TT W a fa) (hb : PD X TT W b fb) : PD X TT W (.Compare a [.GtE] [b] pos) (f2 geG fa fb) := pd_cmp op_ge o_cmp ha hb (nomark _)
theorem pd_eq (hu : X.A.units + 64 < cLine) (ha : PD X TT W a fa) (hb : PD X TT W b fb) : PD X TT W (.Compare a [.Eq] [b] pos) (f2 eqG fa fb) := pd_cmp (op_eqD hu) o_eq ha hb (nomark _)
theorem pd_ne (hu : X.A.units + 64 < cLine) (ha : PD X TT W a fa) (hb : PD X TT W b fb) : PD X TT W (.Compare a [.NotEq] [b] pos) (f2 neG fa fb) := pd_cmp (op_neD hu) o_ne ha hb (nomark _)
theorem pd_in (ha : PD X TT W a fa) (hb : PD X TT W b fb) (hm : behindInMarks .In b = false := by rfl) : PD X TT W (.Compare a [.In] [b] pos) (f2 (inG false) fa fb) := pd_cmp op_in_seq (o_in false) ha hb hm
theorem pd_nin (ha : PD X TT W a fa) (hb : PD X TT W b fb) (hm : behindInMarks .NotIn b = false := by rfl) : PD X TT W (.Compare a [.NotIn] [b] pos) (f2 (inG true) fa fb) := pd_cmp op_notIn_seq (o_in true) ha hb hm
theorem pd_isN (ha : PD X TT W a fa) (hb : PD X TT W b fb) : PD X TT W (.Compare a [.Is] [b] pos) (f2 (isNG false) fa fb) := pd_cmp op_isN o_isN ha hb (nomark _)
theorem pd_isnN (ha : PD X TT W a fa) (hb : PD X TT W b fb) : PD X TT W (.Compare a [.IsNot] [b] pos) (f2 (isNG true) fa fb) := pd_cmp op_notN o_isnN ha hb (nomark _)
theorem pd_ix (ha : PD X TT W a fa) (hb : PD X TT W b fb) (hs : PlainIx b := by intro _ _; rfl) : PD X TT W (.Subscript a b pos) (f2 ixG fa fb) := by
  obtain ⟨⟨ta, pa, qa⟩⟩ := ha
  obtain ⟨⟨tb, pb, qb⟩⟩ := hb
  exact ⟨⟨_, pe_ix (ix_list.or ix_tup) pa pb hs, fun g al en F σ H Q s h => two qa qb o_ix s h⟩⟩
/-! ## argument lists -/
structure PAD (X : Cx) (TT : Addr → Prop) (W : WX) (es : List Expr) (f : M (List Rv)) : Prop where
  ex : ∃ t : TA, PA X es t ∧ ∀ g al en F σ H Q, Sv X.K TT g al en F σ H → Post X.K TT W g F al σ (f en) (fun rs _ F' al' H' => ∀ vs, RvAll X.K F' al' vs rs → Q vs H') → t σ H Q
def fNil : M (List Rv) := ret []
def fCons (fa : M Rv) (fs : M (List Rv)) : M (List Rv) := bnd fa fun r => bnd fs fun rs => ret (r :: rs)
theorem ad_nil : PAD X TT W [] fNil := ⟨⟨_, pa_nil, fun g al en F σ H Q s h => h.here s [] .nil⟩⟩
theorem ad_cons {es : List Expr} {fs : M (List Rv)} (ha : PD X TT W a fa) (hr : PAD X TT W es fs) (hs : starEach (a :: es) X.env = (false, eval a X.env) :: starEach es X.env := by rfl) : PAD X TT W (a :: es) (fCons fa fs) := by
  obtain ⟨⟨ta, pa, qa⟩⟩ := ha
  obtain ⟨⟨t, p, q⟩⟩ := hr
  refine ⟨⟨_, pa_cons pa p hs, fun g al en F σ H Q s h => ?_⟩⟩
  refine qa g al en F σ H _ s (Post.seq h fun x e1 F1 a1 H1 l1 s1 p1 v1 r1 => ?_)
  refine q g a1 e1 F1 σ H1 _ s1 (Post.seq p1 fun rs e2 F2 a2 H2 l2 s2 p2 vs r2 => ?_)
  exact p2.here s2 (v1 :: vs) (.cons (r1.mono l2) r2)
def peeks (e : En) : List Rv → Option (List PyData)
  | [] => some []
  | r :: rs => match peek e r, peeks e rs with
    | some d, some ds => some (d :: ds)
    | _, _ => none
inductive PkAll (K : PySem.W.Frag) (F H : Hp) : List V → List PyData → Prop
  | nil : PkAll K F H [] []
  | cons {v : V} {vs : List V} {d : PyData} {ds : List PyData} : PkR K F H v d → PkAll K F H vs ds → PkAll K F H (v :: vs) (d :: ds)
theorem peeks_ok {K : PySem.W.Frag} {g : Gh} {al : List Addr} {en : En} {F : Hp} {σ : L2.St} {H : Hp} (s : Sv K TT g al en F σ H) : ∀ {vs : List V} {rs : List Rv} {ds : List PyData}, RvAll K F al vs rs → peeks en rs = some ds → PkAll K F H vs ds
  | _, _, _, .nil, e => by simp [peeks] at e; subst e; exact .nil
  | _, _, _, .cons (r := r) (rs := rs) q t, e => by
    unfold peeks at e
    cases q1 : peek en r with
    | none => rw [q1] at e; cases e
    | some d =>
      cases q2 : peeks en rs with
      | none => rw [q1, q2] at e; cases e
      | some ds =>
        rw [q1, q2] at e
        cases e
        exact .cons (peek_ok s q q1) (peeks_ok s t q2)
/-- a built-in by values: one frozen thing comes -/
def OpN (K : PySem.W.Frag) (r : List V → Hp → VK → Prop) (gg : List PyData → Option PyData) : Prop :=
  ∀ F H xs ds z Q, Same F H → PkAll K F H xs ds → gg ds = some z → Gv K F H z Q → r xs H Q
def appN (gg : List PyData → Option PyData) (rs : List Rv) : M Rv := fun en => match peeks en rs with
  | some ds => (match gg ds with
    | some z => .ok (.dat z) en
    | none => .bad)
  | none => .bad
/-- a new list comes -/
def OpL (K : PySem.W.Frag) (r : List V → Hp → VK → Prop) (gg : List PyData → Option (List PyData)) : Prop :=
  ∀ F H xs ds z Q, Same F H → PkAll K F H xs ds → gg ds = some z → (∀ p us, H p = none → DpAll K F us z → Q (.ref p) (upd H p (.lst us))) → r xs H Q
def newL (rs : List Rv) : M Rv := fun en => .ok (.own en.ob.length) { en with ob := en.ob ++ [.lst rs] }
def appL (gg : List PyData → Option (List PyData)) (rs : List Rv) : M Rv := fun en => match peeks en rs with
  | some ds => (match gg ds with
    | some z => newL (z.map Rv.dat) en
    | none => .bad)
  | none => .bad
theorem newL_post {K : PySem.W.Frag} {g : Gh} {al : List Addr} {en : En} {F : Hp} {σ : L2.St} {H : Hp} {p : Addr} {us : List V} {rs : List Rv} {Q : VK} (s : Sv K TT g al en F σ H) (hp : H p = none) (hu : RvAll K F al us rs)
    (h : Post K TT W g F al σ (newL rs en) (fun r _ F' al' H' => ∀ v, RvR K F' al' v r → Q v H')) : Q (.ref p) (upd H p (.lst us)) := by
  refine h F _ _ le_own (s.newOwn hp hu) _ ⟨p, ?_, rfl⟩
  rw [← s.alen, List.getElem?_append_right (Nat.le_refl _)]
  simp
def fN (gg : List PyData → Option PyData) (fs : M (List Rv)) : M Rv := bnd fs (appN gg)
def fL (gg : List PyData → Option (List PyData)) (fs : M (List Rv)) : M Rv := bnd fs (appL gg)
theorem argN {t : TA} {fs : M (List Rv)} {r : List V → Hp → VK → Prop} {gg : List PyData → Option PyData} {g : Gh} {al : List Addr} {en : En} {F : Hp} {σ : L2.St} {H : Hp} {Q : VK}
    (q : ∀ g al en F σ H Q, Sv X.K TT g al en F σ H → Post X.K TT W g F al σ (fs en) (fun rs _ F' al' H' => ∀ vs, RvAll X.K F' al' vs rs → Q vs H') → t σ H Q) (hr : OpN X.K r gg) (s : Sv X.K TT g al en F σ H)
    (h : Post X.K TT W g F al σ (fN gg fs en) (fun r _ F' al' H' => ∀ v, RvR X.K F' al' v r → Q v H')) : t σ H fun vs H1 => r vs H1 Q := by
  refine q g al en F σ H _ s (Post.seq h fun rs e1 F1 a1 H1 l1 s1 p1 vs r1 => ?_)
  unfold appN at p1
  cases e : peeks e1 rs with
  | none => rw [e] at p1; exact p1.elim
  | some ds =>
    rw [e] at p1
    simp only at p1
    cases e2 : gg ds with
    | none => rw [e2] at p1; exact p1.elim
    | some z =>
      rw [e2] at p1
      refine hr F1 H1 vs ds z Q s1.sub (peeks_ok s1 r1 e) e2 fun v F3 H3 hs hd => ?_
      obtain ⟨s3, l3⟩ := s1.rstep hs
      exact p1.at l3 s3 v hd
theorem argL {t : TA} {fs : M (List Rv)} {r : List V → Hp → VK → Prop} {gg : List PyData → Option (List PyData)} {g : Gh} {al : List Addr} {en : En} {F : Hp} {σ : L2.St} {H : Hp} {Q : VK}
    (q : ∀ g al en F σ H Q, Sv X.K TT g al en F σ H → Post X.K TT W g F al σ (fs en) (fun rs _ F' al' H' => ∀ vs, RvAll X.K F' al' vs rs → Q vs H') → t σ H Q) (hr : OpL X.K r gg) (s : Sv X.K TT g al en F σ H)
    (h : Post X.K TT W g F al σ (fL gg fs en) (fun r _ F' al' H' => ∀ v, RvR X.K F' al' v r → Q v H')) : t σ H fun vs H1 => r vs H1 Q := by
  refine q g al en F σ H _ s (Post.seq h fun rs e1 F1 a1 H1 l1 s1 p1 vs r1 => ?_)
  unfold appL at p1
  cases e : peeks e1 rs with
  | none => rw [e] at p1; exact p1.elim
  | some ds =>
    rw [e] at p1
    simp only at p1
    cases e2 : gg ds with
    | none => rw [e2] at p1; exact p1.elim
    | some z =>
      rw [e2] at p1
      exact hr F1 H1 vs ds z Q s1.sub (peeks_ok s1 r1 e) e2 fun p us hp hu => newL_post s1 hp (rvAll_dat hu) p1
variable {es : List Expr} {fs : M (List Rv)} {x : Str} {p : Pos}
theorem pd_callB {id : String} {r : List V → Hp → VK → Prop} {gg : List PyData → Option PyData} (hc : CallR X (.builtin id) r) (hr : OpN X.K r gg) (hm : X.mg x = none) (hv : bootBuiltins x = some (.builtin id)) (ha : PAD X TT W (a :: es) fs) (hg : Gl X x := by rfl)
    (hn : x ≠ "__name__" := by decide) (hdb : (x == ("__debug__" : Str)) = false := by decide) (he : starEach (a :: es) X.env = (false, eval a X.env) :: starEach es X.env := by rfl) (hpl : (backTo pos (starEach es X.env)).any (·.1) = false := by rfl) :
    PD X TT W (.Call (.Name x p) (a :: es) [] pos) (fN gg fs) := by
  obtain ⟨⟨t, pt, q⟩⟩ := ha
  exact ⟨⟨_, pe_callB hc hg hm hv pt hn hdb he hpl, fun g al en F σ H Q s h => argN q hr s h⟩⟩
theorem pd_callTy {T : String} {r : List V → Hp → VK → Prop} {gg : List PyData → Option PyData} (hc : CallR X (.type T) r) (hr : OpN X.K r gg) (hm : X.mg x = none) (hv : bootBuiltins x = some (.type T)) (ha : PAD X TT W (a :: es) fs) (hg : Gl X x := by rfl)
    (hn : x ≠ "__name__" := by decide) (hdb : (x == ("__debug__" : Str)) = false := by decide) (he : starEach (a :: es) X.env = (false, eval a X.env) :: starEach es X.env := by rfl) (hpl : (backTo pos (starEach es X.env)).any (·.1) = false := by rfl) :
    PD X TT W (.Call (.Name x p) (a :: es) [] pos) (fN gg fs) := by
  obtain ⟨⟨t, pt, q⟩⟩ := ha
  exact ⟨⟨_, pe_callTy hc hg hm hv pt hn hdb he hpl, fun g al en F σ H Q s h => argN q hr s h⟩⟩
theorem pd_callTyL {T : String} {r : List V → Hp → VK → Prop} {gg : List PyData → Option (List PyData)} (hc : CallR X (.type T) r) (hr : OpL X.K r gg) (hm : X.mg x = none) (hv : bootBuiltins x = some (.type T)) (ha : PAD X TT W (a :: es) fs) (hg : Gl X x := by rfl)
    (hn : x ≠ "__name__" := by decide) (hdb : (x == ("__debug__" : Str)) = false := by decide) (he : starEach (a :: es) X.env = (false, eval a X.env) :: starEach es X.env := by rfl) (hpl : (backTo pos (starEach es X.env)).any (·.1) = false := by rfl) :
    PD X TT W (.Call (.Name x p) (a :: es) [] pos) (fL gg fs) := by
  obtain ⟨⟨t, pt, q⟩⟩ := ha
  exact ⟨⟨_, pe_callTy hc hg hm hv pt hn hdb he hpl, fun g al en F σ H Q s h => argL q hr s h⟩⟩
end
end Pd

namespace Pd
open PySem PySem.Spec PyProof.Rows L2
/-! ## built-ins -/
section
variable {K : PySem.W.Frag}
def lenG : List PyData → Option PyData
  | [.tuple ds] => some (.int ds.length)
  | [.list ds] => some (.int ds.length)
  | [.str x] => if x.length ≤ sizeLine then some (.int x.length) else none
  | _ => none
theorem n_len : OpN K (fun xs H Q => ∃ x n, xs = [x] ∧ LenV K x H n ∧ Q (.int n) H) lenG := by
  intro F H xs ds z Q s hx hg k
  unfold lenG at hg
  split at hg
  · cases hg
    cases hx with
    | cons h1 h2 =>
      cases h2
      obtain ⟨a, us, rfl, q1, q2⟩ := h1.tup s
      exact ⟨_, us.length, rfl, .inr ⟨us, q1, rfl⟩, k _ F H (.same _ _) (by rw [dpAll_len q2]; exact .int _)⟩
  · cases hg
    cases hx with
    | cons h1 h2 =>
      cases h2
      obtain ⟨a, us, rfl, q1, q2⟩ := h1.list s
      exact ⟨_, us.length, rfl, .inl ⟨us, q1, rfl⟩, k _ F H (.same _ _) (by rw [dpAll_len q2]; exact .int _)⟩
  · split at hg
    · rename_i hz
      cases hg
      cases hx with
      | cons h1 h2 =>
        cases h2
        rw [h1.str]
        exact ⟨_, _, rfl, ⟨hz, rfl⟩, k _ F H (.same _ _) (.int _)⟩
    · cases hg
  · cases hg
def maxG : List PyData → Option PyData
  | [.int i, .int j] => some (.int (if j > i then j else i))
  | _ => none
def minG : List PyData → Option PyData
  | [.int i, .int j] => some (.int (if j < i then j else i))
  | _ => none
theorem n_max : OpN K (fun xs H Q => ∃ i j, xs = [.int i, .int j] ∧ Q (.int (if j > i then j else i)) H) maxG := by
  intro F H xs ds z Q s hx hg k
  unfold maxG at hg
  split at hg
  · cases hg
    cases hx with
    | cons h1 h2 =>
      cases h2 with
      | cons h3 h4 =>
        cases h4
        rw [h1.int, h3.int]
        exact ⟨_, _, rfl, k _ F H (.same _ _) (.int _)⟩
  · cases hg
theorem n_min : OpN K (fun xs H Q => ∃ i j, xs = [.int i, .int j] ∧ Q (.int (if j < i then j else i)) H) minG := by
  intro F H xs ds z Q s hx hg k
  unfold minG at hg
  split at hg
  · cases hg
    cases hx with
    | cons h1 h2 =>
      cases h2 with
      | cons h3 h4 =>
        cases h4
        rw [h1.int, h3.int]
        exact ⟨_, _, rfl, k _ F H (.same _ _) (.int _)⟩
  · cases hg
def intG : List PyData → Option PyData
  | [.int i] => some (.int i)
  | [.bool b] => some (.int (if b then 1 else 0))
  | _ => none
theorem n_int : OpN K (fun xs H Q => (∃ i, xs = [.int i] ∧ Q (.int i) H) ∨ ∃ k, xs = [.bl k] ∧ Q (.int (if k then 1 else 0)) H) intG := by
  intro F H xs ds z Q s hx hg k
  unfold intG at hg
  split at hg
  · cases hg
    cases hx with
    | cons h1 h2 =>
      cases h2
      rw [h1.int]
      exact .inl ⟨_, rfl, k _ F H (.same _ _) (.int _)⟩
  · cases hg
    cases hx with
    | cons h1 h2 =>
      cases h2
      rw [h1.bool]
      exact .inr ⟨_, rfl, k _ F H (.same _ _) (.int _)⟩
  · cases hg
def tupG : List PyData → Option PyData
  | [.tuple ds] => some (.tuple ds)
  | [.list ds] => some (.tuple ds)
  | _ => none
theorem n_tup : OpN K (fun xs H Q => ∃ p ys, xs = [.ref p] ∧ ((SqL K H p ys ∧ ∀ l, H l = none → Q (.ref l) (upd H l (.tup ys))) ∨ (SqT K H p ys ∧ Q (.ref p) H))) tupG := by
  intro F H xs ds z Q s hx hg k
  unfold tupG at hg
  split at hg
  · cases hg
    cases hx with
    | cons h1 h2 =>
      cases h2
      obtain ⟨a, us, rfl, q1, q2⟩ := h1.tup s
      refine ⟨a, us, rfl, .inr ⟨q1, ?_⟩⟩
      rcases h1 with w | ⟨_, _, _, _, w, _⟩
      · exact k _ F H (.same _ _) w
      · cases w
  · cases hg
    cases hx with
    | cons h1 h2 =>
      cases h2
      obtain ⟨a, us, rfl, q1, q2⟩ := h1.list s
      exact ⟨a, us, rfl, .inl ⟨q1, fun l hl => k _ (upd F l (.tup us)) _ (.inr ⟨l, _, hl, rfl, rfl⟩) (dp_tup q2 (s.free hl))⟩⟩
  · cases hg
def lstG : List PyData → Option (List PyData)
  | [.tuple ds] => some ds
  | [.list ds] => some ds
  | _ => none
theorem l_lst : OpL K (fun xs H Q => ∃ p ys, xs = [.ref p] ∧ (SqL K H p ys ∨ SqT K H p ys) ∧ ∀ l, H l = none → Q (.ref l) (upd H l (.lst ys))) lstG := by
  intro F H xs ds z Q s hx hg k
  unfold lstG at hg
  split at hg
  · cases hg
    cases hx with
    | cons h1 h2 =>
      cases h2
      obtain ⟨a, us, rfl, q1, q2⟩ := h1.tup s
      exact ⟨a, us, rfl, .inr q1, fun l hl => k l us hl q2⟩
  · cases hg
    cases hx with
    | cons h1 h2 =>
      cases h2
      obtain ⟨a, us, rfl, q1, q2⟩ := h1.list s
      exact ⟨a, us, rfl, .inl q1, fun l hl => k l us hl q2⟩
  · cases hg
/-- all ints -/
def toIs : List PyData → Option (List Int)
  | [] => some []
  | .int i :: ds => (toIs ds).map (i :: ·)
  | _ :: _ => none
theorem toIs_eq : ∀ {ds : List PyData} {ns : List Int}, toIs ds = some ns → ds = ns.map PyData.int
  | [], ns, h => by simp [toIs] at h; subst h; rfl
  | d :: ds, ns, h => by
    cases d <;> simp [toIs] at h
    obtain ⟨ms, e, rfl⟩ := h
    rw [toIs_eq e]
    rfl
theorem toIs_map (ns : List Int) : toIs (ns.map PyData.int) = some ns := by
  induction ns with
  | nil => rfl
  | cons n ns ih => simp [toIs, ih]
def sumG : List PyData → Option PyData
  | [.list ds] => (toIs ds).map fun ns => .int ns.sum
  | _ => none
theorem n_sum : OpN K (rSum K) sumG := by
  intro F H xs ds z Q s hx hg k
  unfold sumG at hg
  split at hg
  · rename_i es
    cases q : toIs es with
    | none => rw [q] at hg; cases hg
    | some ns =>
      rw [q] at hg
      cases hg
      cases hx with
      | cons h1 h2 =>
        cases h2
        obtain ⟨a, us, rfl, q1, q2⟩ := h1.list s
        rw [toIs_eq q] at q2
        rw [dpAll_ints q2] at q1
        exact ⟨a, ns, rfl, q1, k _ F H (.same _ _) (.int _)⟩
  · cases hg
/-! ## isinstance -/
def tyN : PyData → String
  | .none => "NoneType"
  | .bool _ => "bool"
  | .int _ => "int"
  | .str _ => "str"
  | .list _ => "list"
  | .tuple _ => "tuple"
  | .dict _ => "dict"
theorem tyX {F H : Hp} {v : V} {d : PyData} (s : Same F H) (h : PkR K F H v d) : TyX K H v (.type (tyN d)) := by
  have h := h.dp s
  cases h with
  | non => exact .base .non
  | bl b => exact .base (.bl b)
  | int i => exact .base (.int i)
  | str x => exact .base (.str x)
  | lst h1 h2 =>
    rcases h1 with (h | ⟨o, h⟩) | ⟨o, its, n, h, c, _⟩
    · exact .base (.lst h)
    · exact .base (.frz h)
    · exact .kList h c
  | tup h1 h2 =>
    rcases h1 with (h | ⟨o, h⟩) | ⟨o, its, n, h, c, _⟩
    · exact .base (.tup h)
    · exact .fTuple h
    · exact .kTuple h c
def isiG (n : String) (d : PyData) : Option PyData := (kitB (tyN d) n).map PyData.bool
end
end Pd

namespace Pd
open PySem PySem.Spec PyProof.Rows L2
section
variable {X : Cx} {TT : Addr → Prop} {W : WX} {a b c : Expr} {fa fb fc : M Rv} {pos : Pos} {es : List Expr} {fs : M (List Rv)} {x : Str} {p : Pos}
/-- isinstance(e, T) -/
theorem pd_isi {n : String} {y : Str} {p2 : Pos} (hm : X.mg "isinstance" = none) (hmy : X.mg y = none) (hv : bootBuiltins y = some (.type n)) (ha : PD X TT W a fa) (hg : Gl X "isinstance" := by rfl) (hgy : Gl X y := by rfl)
    (hny : y ≠ "__name__" := by decide) (hdy : (y == ("__debug__" : Str)) = false := by decide)
    (he : starEach [a, .Name y p2] X.env = (false, eval a X.env) :: starEach [.Name y p2] X.env := by rfl) (he2 : starEach [.Name y p2] X.env = (false, eval (.Name y p2) X.env) :: starEach [] X.env := by rfl) (hpl : (backTo pos (starEach [.Name y p2] X.env)).any (·.1) = false := by rfl) :
    PD X TT W (.Call (.Name "isinstance" p) [a, .Name y p2] [] pos) (bnd fa (app1 (isiG n))) := by
  obtain ⟨⟨ta, pa, qa⟩⟩ := ha
  refine ⟨⟨_, pe_callB call_isi hg hm boot_isinstance (pa_cons pa (pa_cons (pe_bltn (v := .ty n) hgy hmy hv rfl hny hdy) pa_nil he2) he) (by decide) (by decide) he hpl, fun g al en F σ H Q s h => ?_⟩⟩
  refine qa g al en F σ H _ s (Post.seq h fun r e1 F1 a1 H1 l1 s1 p1 v1 r1 => ?_)
  unfold app1 at p1
  cases e : peek e1 r with
  | none => rw [e] at p1; exact p1.elim
  | some d =>
    rw [e] at p1
    simp only at p1
    cases e2 : isiG n d with
    | none => rw [e2] at p1; exact p1.elim
    | some z =>
      rw [e2] at p1
      unfold isiG at e2
      cases e3 : kitB (tyN d) n with
      | none => rw [e3] at e2; cases e2
      | some k =>
        rw [e3] at e2
        cases e2
        exact ⟨v1, .ty n, .type (tyN d), .type n, k, rfl, .ty n, tyX s1.sub (peek_ok s1 r1 e), kit_ty e3, p1.here s1 _ (.bl k)⟩
/-- isinstance(e, (T, U)) -/
def isiG2 (n m : String) (d : PyData) : Option PyData := match kitB (tyN d) n, kitB (tyN d) m with
  | some b, some c => some (.bool (b || c))
  | _, _ => none
theorem kitAny2 {K : PySem.W.Frag} {t : Value} {n m : String} {b c : Bool} (h1 : PySem.W.kitOne K t (.type n) = some b) (h2 : PySem.W.kitOne K t (.type m) = some c) : PySem.W.kitAny K t [.type n, .type m] = some (b || c) := by
  have e : PySem.W.kitAny K t [.type m] = some c := kitAny_cons h2 (fun q => by rw [q]; rfl) fun q => q
  exact kitAny_cons h1 (fun q => by rw [q]; exact e) fun q => by rw [q]; rfl
theorem pd_isi2 {n m : String} {y z : Str} {p2 p3 p4 : Pos} {kk} (hm : X.mg "isinstance" = none) (hmy : X.mg y = none) (hmz : X.mg z = none) (hv : bootBuiltins y = some (.type n)) (hvz : bootBuiltins z = some (.type m)) (ha : PD X TT W a fa) (hg : Gl X "isinstance" := by rfl) (hgy : Gl X y := by rfl) (hgz : Gl X z := by rfl)
    (hny : y ≠ "__name__" := by decide) (hdy : (y == ("__debug__" : Str)) = false := by decide) (hnz : z ≠ "__name__" := by decide) (hdz : (z == ("__debug__" : Str)) = false := by decide)
    (he : starEach [a, .Tuple [.Name y p2, .Name z p3] kk p4] X.env = (false, eval a X.env) :: starEach [.Tuple [.Name y p2, .Name z p3] kk p4] X.env := by rfl) (he2 : starEach [.Tuple [.Name y p2, .Name z p3] kk p4] X.env = (false, eval (.Tuple [.Name y p2, .Name z p3] kk p4) X.env) :: starEach [] X.env := by rfl)
    (he3 : starEach [.Name y p2, .Name z p3] X.env = (false, eval (.Name y p2) X.env) :: starEach [.Name z p3] X.env := by rfl) (he4 : starEach [.Name z p3] X.env = (false, eval (.Name z p3) X.env) :: starEach [] X.env := by rfl)
    (hpl : (backTo pos (starEach [.Tuple [.Name y p2, .Name z p3] kk p4] X.env)).any (·.1) = false := by rfl) :
    PD X TT W (.Call (.Name "isinstance" p) [a, .Tuple [.Name y p2, .Name z p3] kk p4] [] pos) (bnd fa (app1 (isiG2 n m))) := by
  obtain ⟨⟨ta, pa, qa⟩⟩ := ha
  refine ⟨⟨_, pe_callB call_isiT hg hm boot_isinstance (pa_cons pa (pa_cons (pe_tup (pa_cons (pe_bltn (v := .ty n) hgy hmy hv rfl hny hdy) (pa_cons (pe_bltn (v := .ty m) hgz hmz hvz rfl hnz hdz) pa_nil he4) he3)) pa_nil he2) he) (by decide) (by decide) he hpl, fun g al en F σ H Q s h => ?_⟩⟩
  refine qa g al en F σ H _ s (Post.seq h fun r e1 F1 a1 H1 l1 s1 p1 v1 r1 => ?_)
  unfold app1 at p1
  cases e : peek e1 r with
  | none => rw [e] at p1; exact p1.elim
  | some d =>
    rw [e] at p1
    simp only at p1
    cases e2 : isiG2 n m d with
    | none => rw [e2] at p1; exact p1.elim
    | some z =>
      rw [e2] at p1
      unfold isiG2 at e2
      cases e3 : kitB (tyN d) n with
      | none => rw [e3] at e2; cases e2
      | some k =>
        cases e4 : kitB (tyN d) m with
        | none => rw [e3, e4] at e2; cases e2
        | some k2 =>
          rw [e3, e4] at e2
          cases e2
          refine ⟨by show 2 ≤ sizeLine; decide, fun tp htp => ?_⟩
          have s2 := s1.newF (.tup [.ty n, .ty m]) htp
          have l2 := le_newF s1 (.tup [V.ty n, V.ty m]) htp
          have pk : PkR X.K (upd F1 tp (.tup [.ty n, .ty m])) (upd H1 tp (.tup [.ty n, .ty m])) v1 d := by
            refine peek_ok s2 (r1.mono l2) e
          exact ⟨v1, tp, _, .type (tyN d), _, k || k2, rfl, upd_same, .cons (.ty n) (.cons (.ty m) .nil), tyX s2.sub pk, kitAny2 (kit_ty e3) (kit_ty e4), p1.at l2 s2 _ (.bl _)⟩

/-! ## freezing -/
def frz (r : Rv) : M PyData := fun en => match r with
  | .dat d => .ok d en
  | .own k => match en.ob[k]? with
    | some (.fz ds) => .ok (.list ds) en
    | some (.lst rs) => (match dats rs with
      | some ds => .ok (.list ds) { en with ob := en.ob.set k (.fz ds) }
      | none => .bad)
    | none => .bad
theorem frz_seq {α : Type} {K : PySem.W.Frag} {g : Gh} {al : List Addr} {en : En} {F : Hp} {σ : L2.St} {H : Hp} {r : Rv} {v : V} {k : PyData → M α} {R : α → En → Hp → List Addr → Hp → Prop} (s : Sv K TT g al en F σ H) (h : RvR K F al v r)
    (hp : Post K TT W g F al σ (bnd (frz r) k en) R) : ∃ d e' F', Sv K TT g al e' F' σ H ∧ Le F al F' al ∧ Dp K F' v d ∧ Post K TT W g F' al σ (k d e') R := by
  unfold bnd frz at hp
  cases r with
  | dat d => exact ⟨d, en, F, s, Le.refl _ _, h, hp⟩
  | own j =>
    obtain ⟨a, ea, rfl⟩ := h
    have hk : j < en.ob.length := by rw [← s.alen]; exact (List.getElem?_eq_some_iff.mp ea).1
    have eo : en.ob[j]? = some en.ob[j] := List.getElem?_eq_getElem hk
    cases q : en.ob[j] with
    | fz ds =>
      rw [q] at eo
      simp only [eo] at hp
      have o := s.objs j a _ ea eo
      obtain ⟨xs, hf, ha⟩ := o
      exact ⟨.list ds, en, F, s, Le.refl _ _, .lst (.inl (.inl hf)) ha, hp⟩
    | lst rs =>
      rw [q] at eo
      simp only [eo] at hp
      cases q2 : dats rs with
      | none => rw [q2] at hp; exact hp.elim
      | some ds =>
        rw [q2] at hp
        obtain ⟨fn, xs, hx, ha⟩ := s.lst ea eo
        have s2 := s.freeze ea eo q2 hx ha
        have l2 : Le F al (upd F a (.lst xs)) al := ⟨same_new fn, List.prefix_rfl⟩
        exact ⟨.list ds, _, _, s2, l2, dp_lst (rvAll_dats ha q2) fn, Post.up hp l2⟩
def frzAll : List Rv → M (List PyData)
  | [] => ret []
  | r :: rs => bnd (frz r) fun d => bnd (frzAll rs) fun ds => ret (d :: ds)
theorem bnd_assoc {α β γ : Type} (m : M α) (k : α → M β) (l : β → M γ) : bnd (bnd m k) l = bnd m fun a => bnd (k a) l := by
  funext e
  unfold bnd
  cases m e <;> rfl
theorem frzAll_seq {α : Type} {K : PySem.W.Frag} {g : Gh} {σ : L2.St} {H : Hp} : ∀ {rs : List Rv} {vs : List V} {al : List Addr} {en : En} {F : Hp} {k : List PyData → M α} {R : α → En → Hp → List Addr → Hp → Prop}, Sv K TT g al en F σ H → RvAll K F al vs rs →
    Post K TT W g F al σ (bnd (frzAll rs) k en) R → ∃ ds e' F', Sv K TT g al e' F' σ H ∧ Le F al F' al ∧ DpAll K F' vs ds ∧ Post K TT W g F' al σ (k ds e') R
  | [], _, al, en, F, k, R, s, h, hp => by
    cases h
    exact ⟨[], en, F, s, Le.refl _ _, .nil, hp⟩
  | r :: rs, _, al, en, F, k, R, s, h, hp => by
    cases h with
    | cons h1 h2 =>
      unfold frzAll at hp
      rw [bnd_assoc] at hp
      obtain ⟨d, e1, F1, s1, l1, d1, p1⟩ := frz_seq s h1 hp
      rw [bnd_assoc] at p1
      obtain ⟨ds, e2, F2, s2, l2, d2, p2⟩ := frzAll_seq s1 (h2.mono l1) p1
      exact ⟨d :: ds, e2, F2, s2, l1.trans l2, .cons (dp_mono l2.f _ _ d1) d2, p2⟩
/-! ## displays -/
def tupM (ds : List PyData) : M Rv := fun en => if ds.length ≤ sizeLine then .ok (.dat (.tuple ds)) en else .bad
def fTup (fs : M (List Rv)) : M Rv := bnd fs fun rs => bnd (frzAll rs) tupM
theorem pd_tup {x1} (ha : PAD X TT W es fs) : PD X TT W (.Tuple es x1 pos) (fTup fs) := by
  obtain ⟨⟨t, pt, q⟩⟩ := ha
  refine ⟨⟨_, pe_tup pt, fun g al en F σ H Q s h => ?_⟩⟩
  refine q g al en F σ H _ s (Post.seq h fun rs e1 F1 a1 H1 l1 s1 p1 vs r1 => ?_)
  obtain ⟨ds, e2, F2, s2, l2, d2, p2⟩ := frzAll_seq s1 r1 p1
  unfold tupM at p2
  split at p2
  · rename_i hz
    refine ⟨by rw [dpAll_len d2]; exact hz, fun p hp => ?_⟩
    exact p2.at (le_newF s2 _ hp) (s2.newF _ hp) _ (dp_tup d2 (s2.fnone hp))
  · exact p2.elim
def lstM (rs : List Rv) : M Rv := fun en => if rs.length ≤ sizeLine then newL rs en else .bad
def fLst (fs : M (List Rv)) : M Rv := bnd fs lstM
theorem pd_lst (ha : PAD X TT W es fs) : PD X TT W (.List es pos) (fLst fs) := by
  obtain ⟨⟨t, pt, q⟩⟩ := ha
  refine ⟨⟨_, pe_lst pt, fun g al en F σ H Q s h => ?_⟩⟩
  refine q g al en F σ H _ s (Post.seq h fun rs e1 F1 a1 H1 l1 s1 p1 vs r1 => ?_)
  unfold lstM at p1
  split at p1
  · rename_i hz
    exact ⟨by rw [r1.len]; exact hz, fun p hp => newL_post s1 hp r1 p1⟩
  · exact p1.elim
/-! ## slices -/
structure POD (X : Cx) (TT : Addr → Prop) (W : WX) (e : Option Expr) (f : M (Option Int)) : Prop where
  ex : ∃ t : TO, PO X e t ∧ ∀ g al en F σ H Q, Sv X.K TT g al en F σ H → Post X.K TT W g F al σ (f en) (fun o _ _ _ H' => Q o H') → t σ H Q
def toI (x : Rv) : M (Option Int) := fun en => match x with
  | .dat (.int i) => .ok (some i) en
  | _ => .bad
theorem od_none : POD X TT W none (ret none) := ⟨⟨_, po_none, fun g al en F σ H Q s h => h.here s⟩⟩
theorem od_some (ha : PD X TT W a fa) : POD X TT W (some a) (bnd fa toI) := by
  obtain ⟨⟨t, pt, q⟩⟩ := ha
  refine ⟨⟨_, po_some pt, fun g al en F σ H Q s h => ?_⟩⟩
  refine q g al en F σ H _ s (Post.seq h fun r e1 F1 a1 H1 l1 s1 p1 v1 r1 => ?_)
  unfold toI at p1
  split at p1
  · cases r1
    exact ⟨_, rfl, p1.here s1⟩
  · exact p1.elim
def cutD (xs : List PyData) (lo hi : Option Int) : List PyData := (xs.drop (HT.sIx xs.length 0 lo)).take (HT.sIx xs.length xs.length hi - HT.sIx xs.length 0 lo)
theorem cut_dp {K : PySem.W.Frag} {F : Hp} {vs : List V} {ds : List PyData} (h : DpAll K F vs ds) (lo hi : Option Int) : DpAll K F (cutV vs lo hi) (cutD ds lo hi) := by
  unfold cutV cutD
  rw [dpAll_len h]
  exact dpAll_take _ (dpAll_drop _ h)
def cutM (r : Rv) (lo hi : Option Int) : M Rv := fun en => match peek en r with
  | some (.tuple ds) => .ok (.dat (.tuple (cutD ds lo hi))) en
  | some (.list ds) => newL ((cutD ds lo hi).map Rv.dat) en
  | _ => .bad
variable {lo hi : Option Expr} {flo fhi : M (Option Int)}
theorem pd_slice {p2 : Pos} (ha : PD X TT W a fa) (hl : POD X TT W lo flo) (hh : POD X TT W hi fhi) : PD X TT W (.Subscript a (.Slice lo hi none p2) pos) (bnd fa fun r => bnd flo fun i => bnd fhi fun j => cutM r i j) := by
  obtain ⟨⟨t, pt, q⟩⟩ := ha
  obtain ⟨⟨t1, pt1, q1⟩⟩ := hl
  obtain ⟨⟨t2, pt2, q2⟩⟩ := hh
  refine ⟨⟨_, pe_slice (sl_list.or sl_tupA) pt pt1 pt2, fun g al en F σ H Q s h => ?_⟩⟩
  refine q g al en F σ H _ s (Post.seq h fun r e1 F1 a1 H1 l1 s1 p1 v1 r1 => ?_)
  refine q1 g a1 e1 F1 σ H1 _ s1 (Post.seq p1 fun i e2 F2 a2 H2 l2 s2 p2 => ?_)
  refine q2 g a2 e2 F2 σ H2 _ s2 (Post.seq p2 fun j e3 F3 a3 H3 l3 s3 p3 => ?_)
  have r3 := (r1.mono l2).mono l3
  unfold cutM at p3
  split at p3
  · rename_i ds e
    have k := peek_ok s3 r3 e
    obtain ⟨b, us, rfl, h1, h2⟩ := k.tup s3.sub
    have hl := dpAll_len h2
    refine .inr ⟨b, us, rfl, h1, fun w => ?_, fun w p hp => ?_⟩
    · have e4 : cutD ds i j = ds := by
        unfold cutD
        rw [← hl, w.1, w.2, List.drop_zero, Nat.sub_zero, hl, List.take_length]
      rw [e4] at p3
      rcases k with k | ⟨_, _, _, _, k, _⟩
      · exact p3.here s3 _ k
      · cases k
    · exact p3.at (le_newF s3 _ hp) (s3.newF _ hp) _ (dp_tup (cut_dp h2 i j) (s3.fnone hp))
  · rename_i ds e
    have k := peek_ok s3 r3 e
    obtain ⟨b, us, rfl, h1, h2⟩ := k.list s3.sub
    exact .inl ⟨b, us, rfl, h1, fun p hp => newL_post s3 hp (rvAll_dat (cut_dp h2 i j)) p3⟩
  · exact p3.elim
end
/-! ## calls of the program's defs -/
inductive Res where
  | ok (d : PyData)
  | exc (x : Ex)
  | bad
/-- what stood stands, what is newly frozen is new -/
structure Fr (TT : Addr → Prop) (F H F' H' : Hp) : Prop where
  f : Same F F'
  sub : Same F' H'
  tabs : Tabs TT F' H'
  keep : ∀ b o, H b = some o → ¬ TT b → H' b = some o
  new : ∀ b, F' b ≠ none → F b ≠ none ∨ H b = none
/-- the promise of a def upon plain data -/
def spD (K : PySem.W.Frag) (TT : Addr → Prop) (Fn : List PyData → Res) : Sp := fun vs H Q E => ∃ F ds, Same F H ∧ Tabs TT F H ∧ DpAll K F vs ds ∧
  match Fn ds with
  | .ok d => ∀ v F' H', Fr TT F H F' H' → Dp K F' v d → Q v H'
  | .exc x => ∀ cls dO F' H', Fr TT F H F' H' → ExAt K F' H' x cls dO → E cls dO H'
  | .bad => False
def callM (Fn : List PyData → Res) (ds : List PyData) : M Rv := fun en => match Fn ds with
  | .ok d => .ok (.dat d) en
  | .exc x => .exc x en
  | .bad => .bad
def fCall (Fn : List PyData → Res) (fs : M (List Rv)) : M Rv := bnd fs fun rs => bnd (frzAll rs) (callM Fn)
section
variable {X : Cx} {TT : Addr → Prop} {W : WX} {a b c : Expr} {fa fb fc : M Rv} {pos : Pos} {es : List Expr} {fs : M (List Rv)} {x : Str} {p : Pos}
theorem Sv.fr {K : PySem.W.Frag} {g : Gh} {al : List Addr} {en : En} {F F' : Hp} {σ : L2.St} {H H' : Hp} (s : Sv K TT g al en F σ H) (h : Fr TT F H F' H') : Sv K TT g al en F' σ H' := s.ext h.f h.sub h.tabs h.keep h.new
theorem Fr.le {F F' H H' : Hp} (h : Fr TT F H F' H') (al : List Addr) : Le F al F' al := ⟨h.f, List.prefix_rfl⟩
theorem pd_call {k : Nat} {f : Addr} {fd : FuncData} {ps : List Str} {Fn : List PyData → Res} (G : FnOk X.prog X.w X.K X.mg X.base (L2.CX X.prog X.w) k f fd ps (spD X.K TT Fn)) (hr : Room k X.A) (hm : X.mg x = some (.ref f)) (hk : PySem.W.keepIn X.K (.ref f) = true) (hb : Binds X.K fd ps [])
    (hx : ∀ σ, PassesAt (L2.CX X.prog X.w) X σ (WE W σ)) (ha : PAD X TT W (a :: es) fs) (hg : Gl X x := by rfl) (hdb : (x == ("__debug__" : Str)) = false := by decide) (he : starEach (a :: es) X.env = (false, eval a X.env) :: starEach es X.env := by rfl) (hpl : (backTo pos (starEach es X.env)).any (·.1) = false := by rfl) :
    PD X TT W (.Call (.Name x p) (a :: es) [] pos) (fCall Fn fs) := by
  obtain ⟨⟨t, pt, q⟩⟩ := ha
  refine ⟨⟨_, pe_callS (E := WE W) G hr hg hm hk hb hx pt hdb he hpl, fun g al en F σ H Q s h => ?_⟩⟩
  refine q g al en F σ H _ s (Post.seq h fun rs e1 F1 a1 H1 l1 s1 p1 vs r1 => ?_)
  obtain ⟨ds, e2, F2, s2, l2, d2, p2⟩ := frzAll_seq s1 r1 p1
  refine ⟨F2, ds, s2.sub, s2.tabs, d2, ?_⟩
  unfold callM at p2
  split
  · rename_i d e
    rw [e] at p2
    exact fun v F' H' hf hd => p2.at (hf.le a1) (s2.fr hf) v hd
  · rename_i x e
    rw [e] at p2
    exact fun cls dO F' H' hf hx => p2 F' a1 H' cls dO (hf.le a1) (s2.fr hf) hx
  · rename_i e
    rw [e] at p2
    exact p2
/-- a def that is lent its first argument, a list -/
inductive RRes where
  | ok (d : PyData) (row : List PyData)
  | exc (x : Ex) (row : List PyData)
  | bad
/-- as Fr, the list at a excepted -/
structure FrR (TT : Addr → Prop) (a : Addr) (F H F' H' : Hp) : Prop where
  f : Same F F'
  sub : Same F' H'
  tabs : Tabs TT F' H'
  keep : ∀ b o, H b = some o → ¬ TT b → b ≠ a → H' b = some o
  new : ∀ b, F' b ≠ none → F b ≠ none ∨ H b = none
def spR (K : PySem.W.Frag) (TT : Addr → Prop) (Fn : List PyData → List PyData → RRes) : Sp := fun vs H Q E => ∃ (F : Hp) (a : Addr) (us : List V) (rows : List PyData) (ws : List V) (ds : List PyData), vs = .ref a :: ws ∧ Same F H ∧ Tabs TT F H ∧ F a = none ∧ ¬ TT a ∧
  H a = some (.lst us) ∧ DpAll K F us rows ∧ DpAll K F ws ds ∧
  match Fn rows ds with
  | .ok d rows' => ∀ v F' H' us', FrR TT a F H F' H' → H' a = some (.lst us') → DpAll K F' us' rows' → Dp K F' v d → Q v H'
  | .exc x rows' => ∀ cls dO F' H' us', FrR TT a F H F' H' → H' a = some (.lst us') → DpAll K F' us' rows' → ExAt K F' H' x cls dO → E cls dO H'
  | .bad => False
def callRM (Fn : List PyData → List PyData → RRes) (r : Rv) (ds : List PyData) : M Rv := fun en => match r with
  | .dat _ => .bad
  | .own k => match en.ob[k]? with
    | some (.lst qs) => (match dats qs with
      | some rows => (match Fn rows ds with
        | .ok d rows' => .ok (.dat d) { en with ob := en.ob.set k (.lst (rows'.map Rv.dat)) }
        | .exc x rows' => .exc x { en with ob := en.ob.set k (.lst (rows'.map Rv.dat)) }
        | .bad => .bad)
      | none => .bad)
    | _ => .bad
def fCallR (Fn : List PyData → List PyData → RRes) (fa : M Rv) (fs : M (List Rv)) : M Rv := bnd fa fun r => bnd fs fun rs => bnd (frzAll rs) (callRM Fn r)
theorem Sv.frR {K : PySem.W.Frag} {g : Gh} {al : List Addr} {en : En} {F F' : Hp} {σ : L2.St} {H H' : Hp} {a : Addr} {k : Nat} {rs rs' : List Rv} {us' : List V} (s : Sv K TT g al en F σ H) (h : FrR TT a F H F' H') (e1 : al[k]? = some a) (e2 : en.ob[k]? = some (.lst rs)) (hu : H' a = some (.lst us')) (hr : RvAll K F' al us' rs') :
    Sv K TT g al { en with ob := en.ob.set k (.lst rs') } F' σ H' := by
  obtain ⟨fn, xs, hx, _⟩ := s.lst e1 e2
  have l : Le F al F' al := ⟨h.f, List.prefix_rfl⟩
  have fan : F' a = none := by
    cases q : F' a with
    | none => rfl
    | some o =>
      rcases h.new a (by rw [q]; intro z; cases z) with z | z
      · exact absurd fn z
      · rw [hx] at z; cases z
  exact {
  sub := h.sub
  frF := s.frF.trans h.f
  nF := fun b hb => by
    rcases h.new b hb with z | z
    · exact s.nF b z
    · exact .inr (.inl (s.g0 z))
  frame := fun b o e nt nb => by
    have ne : b ≠ a := fun q => by
      rcases s.anew k a e1 with w | w
      · rw [q, w] at e; cases e
      · exact nb (q ▸ w)
    exact h.keep b o (s.frame b o e nt nb) nt ne
  tabs := h.tabs
  len := s.len
  slots := fun i r e => by
    obtain ⟨v, f1, q⟩ := s.slots i r e
    exact ⟨v, f1, q.mono l⟩
  alen := by simp [s.alen]
  objs := fun j b oc f1 f2 => by
    by_cases hj : j = k
    · subst hj
      rw [e1] at f1
      cases f1
      rw [List.getElem?_set_self (by rw [← s.alen]; exact (List.getElem?_eq_some_iff.mp e1).1)] at f2
      cases f2
      exact ⟨fan, us', hu, hr⟩
    · rw [List.getElem?_set_ne (Ne.symm hj)] at f2
      have ne : b ≠ a := fun z => hj (nodup_get s.anod f1 (z ▸ e1))
      have nt := s.atab b (List.mem_of_getElem? f1)
      refine (s.objs j b oc f1 f2).mono (TT := TT) l (fun hne _ => ?_) nt fun hne hz => ?_
      · cases q : H b with
        | none => exact absurd q hne
        | some o => exact h.keep b o q nt ne
      · cases q : F' b with
        | none => rfl
        | some o =>
          rcases h.new b (by rw [q]; intro z; cases z) with z | z
          · exact absurd hz z
          · exact absurd z hne
  anew := s.anew
  bin := s.bin
  anod := s.anod
  atab := s.atab }
theorem pd_callR {k : Nat} {f : Addr} {fd : FuncData} {ps : List Str} {Fn : List PyData → List PyData → RRes} (G : FnOk X.prog X.w X.K X.mg X.base (L2.CX X.prog X.w) k f fd ps (spR X.K TT Fn)) (hr : Room k X.A) (hm : X.mg x = some (.ref f)) (hk : PySem.W.keepIn X.K (.ref f) = true) (hb : Binds X.K fd ps [])
    (hx : ∀ σ, PassesAt (L2.CX X.prog X.w) X σ (WE W σ)) (h0 : PD X TT W a fa) (ha : PAD X TT W es fs) (hg : Gl X x := by rfl) (hdb : (x == ("__debug__" : Str)) = false := by decide) (he : starEach (a :: es) X.env = (false, eval a X.env) :: starEach es X.env := by rfl) (hpl : (backTo pos (starEach es X.env)).any (·.1) = false := by rfl) :
    PD X TT W (.Call (.Name x p) (a :: es) [] pos) (fCallR Fn fa fs) := by
  obtain ⟨⟨t0, pt0, q0⟩⟩ := h0
  obtain ⟨⟨t, pt, q⟩⟩ := ha
  refine ⟨⟨_, pe_callS (E := WE W) G hr hg hm hk hb hx (pa_cons pt0 pt he) hdb he hpl, fun g al en F σ H Q s h => ?_⟩⟩
  refine q0 g al en F σ H _ s (Post.seq h fun r e0 F0 a0 H0 l0 s0 p0 v0 r0 => ?_)
  refine q g a0 e0 F0 σ H0 _ s0 (Post.seq p0 fun rs e1 F1 a1 H1 l1 s1 p1 vs r1 => ?_)
  obtain ⟨ds, e2, F2, s2, l2, d2, p2⟩ := frzAll_seq s1 r1 p1
  have r2 := (r0.mono l1).mono l2
  unfold callRM at p2
  cases r with
  | dat d => exact p2.elim
  | own j =>
    obtain ⟨ar, ea, rfl⟩ := r2
    simp only at p2
    have hk2 : j < e2.ob.length := by rw [← s2.alen]; exact (List.getElem?_eq_some_iff.mp ea).1
    have eo : e2.ob[j]? = some e2.ob[j] := List.getElem?_eq_getElem hk2
    cases q3 : e2.ob[j] with
    | fz _ => rw [eo, q3] at p2; exact p2.elim
    | lst qs =>
      rw [q3] at eo
      rw [eo] at p2
      simp only at p2
      cases q4 : dats qs with
      | none => rw [q4] at p2; exact p2.elim
      | some rows =>
        rw [q4] at p2
        simp only at p2
        obtain ⟨fn, us, hus, hra⟩ := s2.lst ea eo
        refine ⟨F2, ar, us, rows, vs, ds, rfl, s2.sub, s2.tabs, fn, s2.atab ar (List.mem_of_getElem? ea), hus, rvAll_dats hra q4, d2, ?_⟩
        split
        · rename_i d rows' e
          rw [e] at p2
          refine fun v F' H' us' hf hu hda hd => p2.at ⟨hf.f, List.prefix_rfl⟩ (s2.frR hf ea eo hu (rvAll_dat hda)) v hd
        · rename_i x rows' e
          rw [e] at p2
          exact fun cls dO F' H' us' hf hu hda hx => p2 F' a1 H' cls dO ⟨hf.f, List.prefix_rfl⟩ (s2.frR hf ea eo hu (rvAll_dat hda)) hx
        · rename_i e
          rw [e] at p2
          exact p2
end
end Pd

namespace Pd
open PySem PySem.Spec PyProof.Rows L2
/-! ## statements -/
inductive Fl where
  | nx
  | ret (r : Rv)
  | brk
  | cnt
def PostS (K : PySem.W.Frag) (TT : Addr → Prop) (W : WX) (g : Gh) (F : Hp) (al : List Addr) (o : Out Fl) (D : Ends) : Prop :=
  match o with
  | .ok .nx e => ∀ F' al' σ' H', Le F al F' al' → Sv K TT g al' e F' σ' H' → D.nx σ' H'
  | .ok (.ret r) e => ∀ v F' al' σ' H', Le F al F' al' → Sv K TT g al' e F' σ' H' → RvR K F' al' v r → D.rt v H'
  | .ok .brk e => ∀ F' al' σ' H', Le F al F' al' → Sv K TT g al' e F' σ' H' → D.bk σ' H'
  | .ok .cnt e => ∀ F' al' σ' H', Le F al F' al' → Sv K TT g al' e F' σ' H' → D.ct σ' H'
  | .exc x e => ∀ F' al' σ' H' cls dO, Le F al F' al' → Sv K TT g al' e F' σ' H' → ExAt K F' H' x cls dO → W cls dO σ' H'
  | .bad => False
structure PSD (X : Cx) (TT : Addr → Prop) (W : WX) (st : Stmt) (G : M Fl) : Prop where
  ex : ∃ t : TS, PS X st t ∧ ∀ g al en F σ H D, Sv X.K TT g al en F σ H → PostS X.K TT W g F al (G en) D → t D σ H
structure PSsD (X : Cx) (TT : Addr → Prop) (W : WX) (st : List Stmt) (G : M Fl) : Prop where
  ex : ∃ t : TS, PSs X st t ∧ ∀ g al en F σ H D, Sv X.K TT g al en F σ H → PostS X.K TT W g F al (G en) D → t D σ H
section
variable {K : PySem.W.Frag} {TT : Addr → Prop} {W : WX} {g : Gh} {al al' : List Addr} {en : En} {F F' : Hp} {σ : L2.St} {H : Hp} {D : Ends}
theorem PostS.up {o : Out Fl} (h : PostS K TT W g F al o D) (l : Le F al F' al') : PostS K TT W g F' al' o D := by
  cases o with
  | ok a e =>
    cases a with
    | nx => exact fun F2 a2 σ2 H2 l2 => h F2 a2 σ2 H2 (l.trans l2)
    | ret r => exact fun v F2 a2 σ2 H2 l2 => h v F2 a2 σ2 H2 (l.trans l2)
    | brk => exact fun F2 a2 σ2 H2 l2 => h F2 a2 σ2 H2 (l.trans l2)
    | cnt => exact fun F2 a2 σ2 H2 l2 => h F2 a2 σ2 H2 (l.trans l2)
  | exc x e => exact fun F2 a2 σ2 H2 c d l2 => h F2 a2 σ2 H2 c d (l.trans l2)
  | bad => exact h
/-- an expression first -/
theorem PostS.seq {α : Type} {m : M α} {k : α → M Fl} {R' : α → En → Hp → List Addr → Hp → Prop} (h : PostS K TT W g F al (bnd m k en) D)
    (hk : ∀ a e F' al' H', Le F al F' al' → Sv K TT g al' e F' σ H' → PostS K TT W g F' al' (k a e) D → R' a e F' al' H') : Post K TT W g F al σ (m en) R' := by
  unfold bnd at h
  cases q : m en with
  | ok a e =>
    rw [q] at h
    exact fun F2 a2 H2 l2 s2 => hk a e F2 a2 H2 l2 s2 (PostS.up h l2)
  | exc x e => rw [q] at h; exact fun F2 a2 H2 c d l2 s2 => h F2 a2 σ H2 c d l2 s2
  | bad => rw [q] at h; exact h
theorem PostS.next {e : En} (h : PostS K TT W g F al (.ok .nx e) D) (l : Le F al F' al') (s : Sv K TT g al' e F' σ H) : D.nx σ H := h F' al' σ H l s
/-- statement, then more -/
def sq (m k : M Fl) : M Fl := fun en => match m en with
  | .ok .nx e => k e
  | o => o
theorem PostS.sq {m k : M Fl} (h : PostS K TT W g F al (Pd.sq m k en) D) {u : Ends → L2.St → Hp → Prop} (hk : ∀ e F' al' σ' H', Le F al F' al' → Sv K TT g al' e F' σ' H' → PostS K TT W g F' al' (k e) D → u D σ' H') :
    PostS K TT W g F al (m en) { D with nx := u D } := by
  unfold Pd.sq at h
  cases q : m en with
  | ok a e =>
    rw [q] at h
    cases a with
    | nx => exact fun F2 a2 σ2 H2 l2 s2 => hk e F2 a2 σ2 H2 l2 s2 (PostS.up h l2)
    | ret r => exact h
    | brk => exact h
    | cnt => exact h
  | exc x e => rw [q] at h; exact h
  | bad => rw [q] at h; exact h
end
section
variable {X : Cx} {TT : Addr → Prop} {W : WX} {a b c : Expr} {fa fb fc : M Rv} {pos : Pos} {es : List Expr} {fs : M (List Rv)} {x : Str} {p : Pos} {st : Stmt} {rest : List Stmt} {G G2 : M Fl}
theorem sd_nil : PSsD X TT W [] (ret .nx) := ⟨⟨_, pss_nil, fun g al en F σ H D s h => h.next (Le.refl _ _) s⟩⟩
theorem sd_one (h : PSD X TT W st G) : PSsD X TT W [st] G := by
  obtain ⟨⟨t, pt, q⟩⟩ := h
  exact ⟨⟨t, pss_one pt, q⟩⟩
theorem sd_cons (h : PSD X TT W st G) (hr : PSsD X TT W rest G2) : PSsD X TT W (st :: rest) (sq G G2) := by
  obtain ⟨⟨t, pt, q⟩⟩ := h
  obtain ⟨⟨u, pu, q2⟩⟩ := hr
  exact ⟨⟨_, pss_cons pt pu, fun g al en F σ H D s h => q g al en F σ H _ s (h.sq (u := u) fun e F' al' σ' H' l s2 p => q2 g al' e F' σ' H' D s2 p)⟩⟩
theorem sd_pass : PSD X TT W (.Pass pos) (ret .nx) := ⟨⟨_, ps_pass, fun g al en F σ H D s h => h.next (Le.refl _ _) s⟩⟩
theorem sd_break : PSD X TT W (.Break pos) (ret .brk) := ⟨⟨_, ps_break, fun g al en F σ H D s h => h F al σ H (Le.refl _ _) s⟩⟩
theorem sd_continue : PSD X TT W (.Continue pos) (ret .cnt) := ⟨⟨_, ps_continue, fun g al en F σ H D s h => h F al σ H (Le.refl _ _) s⟩⟩
theorem sd_expr (ha : PD X TT W a fa) (hs : swapsWith a none pos.line X.env = pure false := by rfl) : PSD X TT W (.Expr a pos) (bnd fa fun _ => ret .nx) := by
  obtain ⟨⟨t, pt, q⟩⟩ := ha
  exact ⟨⟨_, ps_expr pt hs, fun g al en F σ H D s h => q g al en F σ H _ s (h.seq fun r e F' al' H' l s2 p v _ => p.next (Le.refl _ _) s2)⟩⟩
theorem sd_ret (ha : PD X TT W a fa) : PSD X TT W (.Return (some a) pos) (bnd fa fun r => ret (.ret r)) := by
  obtain ⟨⟨t, pt, q⟩⟩ := ha
  exact ⟨⟨_, ps_ret pt, fun g al en F σ H D s h => q g al en F σ H _ s (h.seq fun r e F' al' H' l s2 p v hv => p v F' al' σ H' (Le.refl _ _) s2 hv)⟩⟩
theorem sd_retN : PSD X TT W (.Return none pos) (ret (.ret (.dat .none))) :=
  ⟨⟨_, ps_retN, fun g al en F σ H D s h => h .non F al σ H (Le.refl _ _) s Dp.non⟩⟩
theorem sd_if {body orelse : List Stmt} {gc : M Bool} (hc : PBt X TT W c gc) (h1 : PSsD X TT W body G) (h2 : PSsD X TT W orelse G2) : PSD X TT W (.If c body orelse pos) (bnd gc fun k => if k = true then G else G2) := by
  obtain ⟨⟨t, pt, q⟩⟩ := hc
  obtain ⟨⟨t1, pt1, q1⟩⟩ := h1
  obtain ⟨⟨t2, pt2, q2⟩⟩ := h2
  refine ⟨⟨_, ps_if pt pt1 pt2, fun g al en F σ H D s h => q g al en F σ H _ s (h.seq fun k e F' al' H' l s2 p => ?_)⟩⟩
  cases k with
  | true => rw [if_pos rfl] at p ⊢; exact q1 g al' e F' σ H' D s2 p
  | false => rw [if_neg Bool.false_ne_true] at p ⊢; exact q2 g al' e F' σ H' D s2 p
/-! ## targets -/
def setM (i : Nat) (r : Rv) : En → Option En := fun en => some { en with sl := en.sl.set i (some r) }
def asg (h : Rv → En → Option En) (r : Rv) : M Fl := fun en => match h r en with
  | some e => .ok .nx e
  | none => .bad
/-- the slots ws alone may differ -/
structure Sm (ws : List Nat) (σ σ' : L2.St) : Prop where
  len : σ'.length = σ.length
  same : ∀ i, i ∉ ws → σ'[i]? = σ[i]?
theorem Sm.refl (σ : L2.St) : Sm [] σ σ := ⟨rfl, fun _ _ => rfl⟩
theorem Sm.set (σ : L2.St) (i : Nat) (v : Option V) : Sm [i] σ (σ.set i v) := ⟨by rw [List.length_set], fun j hj => List.getElem?_set_ne (fun z => hj (by simp [z]))⟩
theorem Sm.trans {ws us : List Nat} {σ σ1 σ2 : L2.St} (h : Sm ws σ σ1) (h' : Sm us σ1 σ2) : Sm (ws ++ us) σ σ2 :=
  ⟨h'.len.trans h.len, fun i hi => by
    simp only [List.mem_append, not_or] at hi
    rw [h'.same i hi.2, h.same i hi.1]⟩
theorem wipe_in {σ : L2.St} {i : Nat} (hl : i < σ.length) : ∀ {vs : List Nat}, i ∈ vs → (wipe σ vs)[i]? = some none
  | [], h => by cases h
  | v :: vs, h => by
    unfold wipe
    by_cases hv : v = i
    · subst hv
      exact List.getElem?_set_self (by rw [wipe_length]; exact hl)
    · rw [List.getElem?_set_ne hv]
      rcases List.mem_cons.mp h with z | z
      · exact absurd z.symm hv
      · exact wipe_in hl z
theorem Sm.wipe {ws vs : List Nat} {σ σ' : L2.St} (h : Sm ws σ σ') (hs : ∀ i, i ∈ ws → i ∈ vs) : L2.wipe σ' vs = L2.wipe σ vs := by
  apply List.ext_getElem?
  intro i
  by_cases hi : i ∈ vs
  · by_cases hl : i < σ.length
    · rw [wipe_in hl hi, wipe_in (by rw [h.len]; exact hl) hi]
    · rw [List.getElem?_eq_none (by rw [wipe_length, h.len]; omega), List.getElem?_eq_none (by rw [wipe_length]; omega)]
  · rw [wipe_get hi, wipe_get hi]
    exact h.same i fun z => hi (hs i z)
structure PGD (X : Cx) (TT : Addr → Prop) (tg : Expr) (h : Rv → En → Option En) (ws : List Nat) : Prop where
  ex : ∃ t : TG, PG X tg t ∧ ∀ v r g al en e F σ H (Q : L2.St → Hp → Prop), Sv X.K TT g al en F σ H → RvR X.K F al v r → h r en = some e → (∀ σ', Sv X.K TT g al e F σ' H → Sm ws σ σ' → Q σ' H) → t v σ H Q
structure PGsD (X : Cx) (TT : Addr → Prop) (tg : List Expr) (h : List PyData → En → Option En) (ws : List Nat) : Prop where
  ex : ∃ t : TGs, PGs X tg t ∧ ∀ vs ds g al en e F σ H (Q : L2.St → Hp → Prop), Sv X.K TT g al en F σ H → DpAll X.K F vs ds → h ds en = some e → (∀ σ', Sv X.K TT g al e F σ' H → Sm ws σ σ' → Q σ' H) → t vs σ H Q
theorem gd_name (i : Nat) {y : Str} (hN : X.N.Nodup) (hi : X.N[i]? = some y := by rfl) (hx : Loc X.env.scope y := by first | exact Or.inl rfl | exact Or.inr rfl) (hf : X.fn y = true ∨ X.env.scope.names.lookup y = some .local := by first | exact .inl rfl | exact .inr rfl | assumption) : PGD X TT (.Name y pos) (setM i) [i] :=
  ⟨⟨_, pg_name hN hi hx hf, fun v r g al en e F σ H Q s hv h k => by cases h; exact k _ (s.setS hv) (Sm.set _ _ _)⟩⟩
def gNl (ds : List PyData) : En → Option En := fun en => match ds with
  | [] => some en
  | _ :: _ => none
def gCn (h1 : Rv → En → Option En) (h2 : List PyData → En → Option En) (ds : List PyData) : En → Option En := fun en => match ds with
  | d :: ds => (match h1 (.dat d) en with
    | some e => h2 ds e
    | none => none)
  | [] => none
theorem gsd_nil : PGsD X TT [] gNl [] := by
  refine ⟨⟨_, pgs_nil, fun vs ds g al en e F σ H Q s hv h k => ?_⟩⟩
  cases hv with
  | nil => cases h; exact ⟨rfl, k σ s (Sm.refl σ)⟩
  | cons _ _ => cases h
theorem gsd_cons {tg : Expr} {tgs : List Expr} {h1 : Rv → En → Option En} {h2 : List PyData → En → Option En} {ws us : List Nat} (ha : PGD X TT tg h1 ws) (hr : PGsD X TT tgs h2 us) (hs : (assignEach (tg :: tgs) X.env).map (·.2) = assign tg X.env :: (assignEach tgs X.env).map (·.2) := by rfl) :
    PGsD X TT (tg :: tgs) (gCn h1 h2) (ws ++ us) := by
  obtain ⟨⟨t, pt, q⟩⟩ := ha
  obtain ⟨⟨u, pu, q2⟩⟩ := hr
  refine ⟨⟨_, pgs_cons pt pu hs, fun vs ds g al en e F σ H Q s hv h k => ?_⟩⟩
  cases hv with
  | nil => cases h
  | cons h3 h4 =>
    rename_i v vs d ds
    unfold gCn at h
    simp only at h
    cases hq : h1 (.dat d) en with
    | none => rw [hq] at h; cases h
    | some e2 =>
      rw [hq] at h
      exact ⟨_, _, rfl, q _ (.dat _) g al en e2 F σ H _ s h3 hq fun σ' s' m => q2 _ _ g al e2 e F σ' H Q s' h4 h fun σ2 s2 m2 => k σ2 s2 (m.trans m2)⟩
def tupleG (n : Nat) (h : List PyData → En → Option En) (r : Rv) : En → Option En := fun en => match r with
  | .dat (.tuple ds) => if ds.length = n then h ds en else none
  | _ => none
theorem gd_tup {tgs : List Expr} {kk : Nat} {n : Nat} {h1 : List PyData → En → Option En} {ws : List Nat} (hc : X.calm = true) (hr : PGsD X TT tgs h1 ws) (hn : (assignEach tgs X.env).length = n := by rfl) (hst : (assignEach tgs X.env).findIdx? (·.1) = none := by rfl) : PGD X TT (.Tuple tgs kk pos) (tupleG n h1) ws := by
  obtain ⟨⟨u, pu, q2⟩⟩ := hr
  refine ⟨⟨_, pg_tup hc pu hn hst, fun v r g al en e F σ H Q s hv h k => ?_⟩⟩
  unfold tupleG at h
  split at h
  · split at h
    · rename_i ds hz
      cases hv with
      | tup h3 h4 => exact ⟨_, _, rfl, sameT s.sub h3, by rw [dpAll_len h4]; exact hz, q2 _ _ g al en e F σ H Q s h4 h k⟩
    · cases h
  · cases h
/-! ## assignments -/
theorem asg_post {K : PySem.W.Frag} {g : Gh} {al : List Addr} {en : En} {F : Hp} {r : Rv} {h1 : Rv → En → Option En} {D : Ends} (h : PostS K TT W g F al (asg h1 r en) D) : ∃ e, h1 r en = some e ∧ PostS K TT W g F al (.ok .nx e) D := by
  unfold asg at h
  cases q : h1 r en with
  | none => rw [q] at h; exact h.elim
  | some e => rw [q] at h; exact ⟨e, rfl, h⟩
theorem sd_set (i : Nat) {y : Str} {py : Pos} (hN : X.N.Nodup) (ha : PD X TT W a fa) (hi : X.N[i]? = some y := by rfl) (hx : Loc X.env.scope y := by first | exact Or.inl rfl | exact Or.inr rfl) (hs : swapsWith a (some (.Name y py)) pos.line X.env = pure false := by rfl)
    (hf : X.fn y = true ∨ X.env.scope.names.lookup y = some .local := by first | exact .inl rfl | exact .inr rfl | assumption) : PSD X TT W (.Assign [.Name y py] a pos) (bnd fa (asg (setM i))) := by
  obtain ⟨⟨t, pt, q⟩⟩ := ha
  exact ⟨⟨_, ps_set hN hi hx pt hs hf, fun g al en F σ H D s h => q g al en F σ H _ s (h.seq fun r e F' al' H' l s2 p v hv => p.next (Le.refl _ _) (s2.setS hv))⟩⟩
theorem sd_asg {tg : Expr} {h1 : Rv → En → Option En} {ws : List Nat} (ha : PD X TT W a fa) (hg : PGD X TT tg h1 ws) (hs : swapsWithSole [tg] a pos.line X.env = pure false := by rfl) (hw : swappedStores [tg] a X.env = pure none := by rfl)
    (h2 : (assignEach [tg] X.env).map (·.2) = [assign tg X.env] := by rfl) : PSD X TT W (.Assign [tg] a pos) (bnd fa (asg h1)) := by
  obtain ⟨⟨t, pt, q⟩⟩ := ha
  obtain ⟨⟨u, pu, q2⟩⟩ := hg
  refine ⟨⟨_, ps_asg pt pu hs hw h2, fun g al en F σ H D s h => q g al en F σ H _ s (h.seq fun r e F' al' H' l s2 p v hv => ?_)⟩⟩
  obtain ⟨e2, hq, p2⟩ := asg_post p
  exact q2 v r g al' e e2 F' σ H' _ s2 hv hq fun σ' s' _ => p2.next (Le.refl _ _) s'
/-- a, b = x, y -/
def par2 (i j : Nat) (rs : List Rv) : M Fl := fun en => match rs with
  | [r, q] => .ok .nx { en with sl := (en.sl.set i (some r)).set j (some q) }
  | _ => .bad
theorem sd_par (i j : Nat) {y z : Str} {px py pt : Pos} {kt k2 pt2} (hc : X.calm = true) (hN : X.N.Nodup) (ha : PAD X TT W [a, b] fs) (hi : X.N[i]? = some y := by rfl) (hj : X.N[j]? = some z := by rfl) (hij : i ≠ j := by decide)
    (hx : X.env.scope.names.lookup y = some .local := by rfl) (hy : X.env.scope.names.lookup z = some .local := by rfl)
    (hw : swappedStores [.Tuple [.Name y px, .Name z py] kt pt] (.Tuple [a, b] k2 pt2) X.env = pure (some [y, z]) := by rfl)
    (hs : swapsWithSole [.Tuple [.Name y px, .Name z py] kt pt] (.Tuple [a, b] k2 pt2) pos.line X.env = pure false := by rfl) :
    PSD X TT W (.Assign [.Tuple [.Name y px, .Name z py] kt pt] (.Tuple [a, b] k2 pt2) pos) (bnd fs (par2 i j)) := by
  obtain ⟨⟨t, pt, q⟩⟩ := ha
  refine ⟨⟨_, ps_par hc hN hi hj hij hx hy pt hw hs, fun g al en F σ H D s h => q g al en F σ H _ s (h.seq fun rs e F' al' H' l s2 p vs hv => ?_)⟩⟩
  unfold par2 at p
  split at p
  · cases hv with
    | cons h1 h2 =>
      cases h2 with
      | cons h3 h4 =>
        cases h4
        exact ⟨_, _, rfl, p.next (Le.refl _ _) ((s2.setS h1).setS h3)⟩
  · exact p.elim
/-- xs[i] = e, an owned list -/
def setIx (r ri v : Rv) : M Fl := fun en => match r, ri with
  | .own k, .dat (.int i) => (match en.ob[k]? with
    | some (.lst qs) => (match ixN qs.length i with
      | some j => .ok .nx { en with ob := en.ob.set k (.lst (qs.set j v)) }
      | none => .bad)
    | _ => .bad)
  | _, _ => .bad
theorem sd_setIx {e o i : Expr} {fe fo fi : M Rv} {p2 : Pos} (he : PD X TT W e fe) (ho : PD X TT W o fo) (hi : PD X TT W i fi) (hs : swapsWithSole [.Subscript o i p2] e pos.line X.env = pure false := by rfl) (hw : swappedStores [.Subscript o i p2] e X.env = pure none := by rfl)
    (h2 : (assignEach [.Subscript o i p2] X.env).map (·.2) = [assign (.Subscript o i p2) X.env] := by rfl)
    (ha : ∀ v, assign (.Subscript o i p2) X.env v = (do
      let ov ← holding [v] (eval o X.env)
      let iv ← holding [v, ov] (eval i X.env)
      standAt p2
      holding [v, ov, iv] (setItem ov iv v)
      release [v, ov, iv] []) := by intro _; rfl) : PSD X TT W (.Assign [.Subscript o i p2] e pos) (bnd fe fun v => bnd fo fun r => bnd fi fun ri => setIx r ri v) := by
  obtain ⟨⟨t, pt, q⟩⟩ := he
  obtain ⟨⟨t1, pt1, q1⟩⟩ := ho
  obtain ⟨⟨t2, pt2, q2⟩⟩ := hi
  refine ⟨⟨_, ps_asg pt (pg_sub pt1 pt2 set_list ha) hs hw h2, fun g al en F σ H D s h => q g al en F σ H _ s (h.seq fun v e F1 a1 H1 l1 s1 p1 vv hv => ?_)⟩⟩
  refine q1 g a1 e F1 σ H1 _ s1 (p1.seq fun r e2 F2 a2 H2 l2 s2 p2 v2 r2 => ?_)
  refine q2 g a2 e2 F2 σ H2 _ s2 (p2.seq fun ri e3 F3 a3 H3 l3 s3 p3 v3 r3 => ?_)
  unfold setIx at p3
  split at p3
  · rename_i k i
    obtain ⟨ar, ea, rfl⟩ := r2.mono l3
    cases r3
    split at p3
    · rename_i qs eo
      split at p3
      · rename_i j ej
        obtain ⟨fn, us, hus, hra⟩ := s3.lst ea eo
        refine ⟨ar, us, i, j, rfl, rfl, hus, by rw [hra.len]; exact ej, ?_⟩
        exact p3.next (Le.refl _ _) (s3.write ea eo (RvAll.set j hra ((hv.mono l2).mono l3)))
      · exact p3.elim
    · exact p3.elim
  · exact p3.elim
/-- xs.append(e) -/
def appM (r v : Rv) : M Rv := fun en => match r with
  | .own k => (match en.ob[k]? with
    | some (.lst qs) => if qs.length < sizeLine then .ok (.dat .none) { en with ob := en.ob.set k (.lst (qs ++ [v])) } else .bad
    | _ => .bad)
  | _ => .bad
/-- it is an owned list -/
def chkL (r : Rv) : M Unit := fun en => match r with
  | .own k => (match en.ob[k]? with
    | some (.lst _) => .ok () en
    | _ => .bad)
  | _ => .bad
theorem pd_append {o e : Expr} {fo fe : M Rv} {apos : Pos} (ho : PD X TT W o fo) (he : PD X TT W e fe) (hbase : attributeBase o "append" X.env (eval o X.env) = eval o X.env := by rfl)
    (hfew : ((backTo pos (starEach [e] X.env)).all (fun x => !x.1) && (backToKw pos (keywordEach [] X.env)).all (fun x => x.1.isSome)
      && decide (([e] : List Expr).length + ([] : List Keyword).length + (if ([] : List Keyword).isEmpty then 0 else 1) < 30)) = true := by rfl)
    (hline : (apos.endLine == pos.line) = true := by rfl) (hs : starEach [e] X.env = (false, eval e X.env) :: starEach [] X.env := by rfl) (hplain : (backTo pos (starEach [] X.env)).any (·.1) = false := by rfl) :
    PD X TT W (.Call (.Attribute o "append" apos) [e] [] pos) (bnd fo fun r => bnd (chkL r) fun _ => bnd fe fun v => appM r v) := by
  obtain ⟨⟨t1, pt1, q1⟩⟩ := ho
  obtain ⟨⟨t2, pt2, q2⟩⟩ := he
  refine ⟨⟨_, pe_bm PySem.F.plainAttrs_list PySem.F.slot_list_append PySem.F.type_list_append mt_append pt1 (pa_cons pt2 pa_nil hs) hbase hfew hline hs hplain, fun g al en F σ H Q s h => ?_⟩⟩
  refine q1 g al en F σ H _ s (Post.seq h fun r e1 F1 a1 H1 l1 s1 p1 v1 r1 => ?_)
  unfold chkL at p1
  cases r with
  | dat d => exact p1.elim
  | own k =>
    obtain ⟨ar, ea, rfl⟩ := r1
    simp only [bnd] at p1
    have hk2 : k < e1.ob.length := by rw [← s1.alen]; exact (List.getElem?_eq_some_iff.mp ea).1
    have eo : e1.ob[k]? = some e1.ob[k] := List.getElem?_eq_getElem hk2
    cases q3 : e1.ob[k] with
    | fz _ => rw [eo, q3] at p1; exact p1.elim
    | lst qs =>
      rw [q3] at eo
      rw [eo] at p1
      obtain ⟨fn, us, hus, hra⟩ := s1.lst ea eo
      refine ⟨.inl ⟨rfl, us, .of hus⟩, ?_⟩
      have p1 : Post X.K TT W g F1 a1 σ (bnd fe (fun v => appM (.own k) v) e1) (fun r _ F' al' H' => ∀ v, RvR X.K F' al' v r → Q v H') := p1
      refine q2 g a1 e1 F1 σ H1 _ s1 (Post.seq p1 fun v e2 F2 a2 H2 l2 s2 p2 v2 r2 => ?_)
      unfold appM at p2
      simp only at p2
      split at p2
      · rename_i qs2 eo2
        split at p2
        · rename_i hz
          have ea2 := pre_get l2.a ea
          obtain ⟨fn2, us2, hus2, hra2⟩ := s2.lst ea2 eo2
          exact ⟨ar, us2, v2, rfl, rfl, hus2, by rw [hra2.len]; exact hz, p2.at (Le.refl _ _) (s2.write ea2 eo2 (RvAll.app hra2 (.cons r2 .nil))) _ Dp.non⟩
        · exact p2.elim
      · exact p2.elim
end
end Pd

namespace Pd
open PySem PySem.Spec PyProof.Rows L2
/-! ## what is walked -/
/-- J yields the data rs, whatever else happens -/
def Wk (K : PySem.W.Frag) (TT : Addr → Prop) (J : It) (rs : List PyData) (F0 : Hp) : Prop := ∀ g al en F σ H, Same F0 F → Sv K TT g al en F σ H → ∀ i,
  (∀ r, rs[i]? = some r → J.go i H ∧ ∀ x H', J.yld i H x H' → ∃ F', RStep F H F' H' ∧ Dp K F' x r) ∧ (rs.length ≤ i → J.stop i H)
structure PID (X : Cx) (TT : Addr → Prop) (W : WX) (tg iter : Expr) (f : M (List PyData)) : Prop where
  ex : ∃ w : TI, PI X tg iter w ∧ ∀ g al en F σ H R, Sv X.K TT g al en F σ H → Post X.K TT W g F al σ (f en) (fun rs _ F' al' H' => ∀ J, Wk X.K TT J rs F' → R J H') → w σ H R
def tupI (r : Rv) : M (List PyData) := fun en => match r with
  | .dat (.tuple ds) => .ok ds en
  | _ => .bad
def lsD (d : PyData) : M (List PyData) := fun en => match d with
  | .list ds => .ok ds en
  | _ => .bad
def lstI (r : Rv) : M (List PyData) := bnd (frz r) lsD
section
variable {X : Cx} {TT : Addr → Prop} {W : WX} {a b c : Expr} {fa fb fc : M Rv} {pos : Pos} {es : List Expr} {fs : M (List Rv)} {x : Str} {p : Pos} {tg : Expr}
theorem id_tup (ha : PD X TT W a fa) : PID X TT W tg a (bnd fa tupI) := by
  obtain ⟨⟨t, pt, q⟩⟩ := ha
  refine ⟨⟨_, pi_tup pt, fun g al en F σ H R s h => q g al en F σ H _ s (Post.seq h fun r e F1 a1 H1 l1 s1 p1 v hv => ?_)⟩⟩
  unfold tupI at p1
  split at p1
  · rename_i ds
    cases hv with
    | tup h1 h2 =>
      rename_i ar us
      refine ⟨ar, rfl, ⟨us, sameT s1.sub h1⟩, p1.here s1 _ fun g al en F σ H hs s2 i => ⟨fun r hr => ?_, fun hi => ?_⟩⟩
      · have hq : SqT X.K H ar us := sameT s2.sub (sameT hs h1)
        obtain ⟨v, e1, e2⟩ := dpAll_get h2 hr
        refine ⟨⟨us, v, hq, e1⟩, fun x H' hy => ?_⟩
        obtain ⟨rfl, hy⟩ := hy
        have e3 := hy us hq
        rw [e1] at e3
        cases e3
        exact ⟨F, .same _ _, dp_mono hs _ _ e2⟩
      · exact ⟨us, sameT s2.sub (sameT hs h1), by rw [dpAll_len h2]; exact hi⟩
  · exact p1.elim
theorem id_lst (ha : PD X TT W a fa) : PID X TT W tg a (bnd fa lstI) := by
  obtain ⟨⟨t, pt, q⟩⟩ := ha
  refine ⟨⟨_, pi_list pt, fun g al en F σ H R s h => q g al en F σ H _ s (Post.seq h fun r e F1 a1 H1 l1 s1 p1 v hv => ?_)⟩⟩
  unfold lstI at p1
  obtain ⟨d, e2, F2, s2, l2, d2, p2⟩ := frz_seq s1 hv p1
  unfold lsD at p2
  split at p2
  · rename_i ds
    cases d2 with
    | lst h1 h2 =>
      rename_i ar us
      refine ⟨ar, rfl, ⟨us, s2.sub.seq h1⟩, p2.here s2 _ fun g al en F σ H hs s2 i => ⟨fun r hr => ?_, fun hi => ?_⟩⟩
      · have hq : SqL X.K H ar us := s2.sub.seq (hs.seq h1)
        obtain ⟨v, e1, e2⟩ := dpAll_get h2 hr
        refine ⟨⟨us, v, hq, e1⟩, fun x H' hy => ?_⟩
        obtain ⟨rfl, hy⟩ := hy
        have e3 := hy us hq
        rw [e1] at e3
        cases e3
        exact ⟨F, .same _ _, dp_mono hs _ _ e2⟩
      · exact ⟨us, s2.sub.seq (hs.seq h1), by rw [dpAll_len h2]; exact hi⟩
  · exact p2.elim
/-- lo, lo + 1, .. -/
def upI (lo : Int) (n : Nat) : List PyData := (List.range n).map fun (i : Nat) => PyData.int (lo + (i : Int))
theorem wk_range {K : PySem.W.Frag} (lo : Int) (n : Nat) (F0 : Hp) : Wk K TT (Itr lo n) (upI lo n) F0 := fun g al en F σ H hs s i => by
  refine ⟨fun r hr => ?_, fun hi => by simpa [upI, Itr] using hi⟩
  unfold upI at hr
  rw [List.getElem?_map] at hr
  by_cases hi : i < n
  · rw [List.getElem?_range hi] at hr
    cases hr
    refine ⟨hi, fun x H' hy => ?_⟩
    obtain ⟨rfl, rfl⟩ := hy
    exact ⟨F, .same _ _, .int _⟩
  · rw [List.getElem?_eq_none (by simpa using hi)] at hr
    cases hr
def rng1I (rs : List Rv) : M (List PyData) := fun en => match rs with
  | [.dat (.int j)] => if -(2 ^ 62) ≤ j ∧ j < 2 ^ 62 then .ok (upI 0 j.toNat) en else .bad
  | _ => .bad
def rng2I (rs : List Rv) : M (List PyData) := fun en => match rs with
  | [.dat (.int i), .dat (.int j)] => if -(2 ^ 62) ≤ i ∧ i < 2 ^ 62 ∧ -(2 ^ 62) ≤ j ∧ j < 2 ^ 62 then .ok (upI i (j - i).toNat) en else .bad
  | _ => .bad
theorem id_range1 (hm : X.mg "range" = none) (ha : PAD X TT W [a] fs) (hg : Gl X "range" := by rfl) (hs : starEach [a] X.env = [(false, eval a X.env)] := by rfl) : PID X TT W tg (.Call (.Name "range" p) [a] [] pos) (bnd fs rng1I) := by
  obtain ⟨⟨t, pt, q⟩⟩ := ha
  refine ⟨⟨_, pi_range1 hg hm pt hs, fun g al en F σ H R s h => q g al en F σ H _ s (Post.seq h fun rs e F1 a1 H1 l1 s1 p1 vs hv => ?_)⟩⟩
  unfold rng1I at p1
  split at p1
  · split at p1
    · rename_i j hz
      cases hv with
      | cons h1 h2 =>
        cases h2
        cases h1
        exact ⟨j, rfl, hz.1, hz.2, p1.here s1 _ (wk_range 0 _ _)⟩
    · exact p1.elim
  · exact p1.elim
theorem id_range2 (hm : X.mg "range" = none) (ha : PAD X TT W [a, b] fs) (hg : Gl X "range" := by rfl) (hs : starEach [a, b] X.env = [(false, eval a X.env), (false, eval b X.env)] := by rfl) (hs2 : starEach [b] X.env = [(false, eval b X.env)] := by rfl) : PID X TT W tg (.Call (.Name "range" p) [a, b] [] pos) (bnd fs rng2I) := by
  obtain ⟨⟨t, pt, q⟩⟩ := ha
  refine ⟨⟨_, pi_range2 hg hm pt hs hs2, fun g al en F σ H R s h => q g al en F σ H _ s (Post.seq h fun rs e F1 a1 H1 l1 s1 p1 vs hv => ?_)⟩⟩
  unfold rng2I at p1
  split at p1
  · split at p1
    · rename_i i j hz
      cases hv with
      | cons h1 h2 =>
        cases h2 with
        | cons h3 h4 =>
          cases h4
          cases h1
          cases h3
          exact ⟨i, j, rfl, hz, p1.here s1 _ (wk_range i _ _)⟩
    · exact p1.elim
  · exact p1.elim
/-- zip of two tuples -/
def zipI (ds es : List PyData) : List PyData := List.zipWith (fun d e => PyData.tuple [d, e]) ds es
def zipTI (rs : List Rv) : M (List PyData) := fun en => match rs with
  | [.dat (.tuple ds), .dat (.tuple es)] => .ok (zipI ds es) en
  | _ => .bad
theorem zip_get {ds es : List PyData} {i : Nat} {r : PyData} (h : (zipI ds es)[i]? = some r) : ∃ d e, ds[i]? = some d ∧ es[i]? = some e ∧ r = .tuple [d, e] := by
  unfold zipI at h
  rw [List.getElem?_zipWith] at h
  cases q1 : ds[i]? with
  | none => rw [q1] at h; simp at h
  | some d =>
    cases q2 : es[i]? with
    | none => rw [q1, q2] at h; simp at h
    | some e => rw [q1, q2] at h; simp at h; exact ⟨d, e, rfl, rfl, h.symm⟩
theorem id_zipT {elts : List Expr} {kk : Nat} {tpos : Pos} (hm : X.mg "zip" = none) (ha : PAD X TT W [a, b] fs) (hg : Gl X "zip" := by rfl) (hs : starEach [a, b] X.env = (false, eval a X.env) :: starEach [b] X.env := by rfl) (hpl : (backTo pos (starEach [b] X.env)).any (·.1) = false := by rfl) :
    PID X TT W (.Tuple elts kk tpos) (.Call (.Name "zip" p) [a, b] [] pos) (bnd fs zipTI) := by
  obtain ⟨⟨t, pt, q⟩⟩ := ha
  refine ⟨⟨_, RZ.pi_zipA hg hm pt hs hpl, fun g al en F σ H R s h => q g al en F σ H _ s (Post.seq h fun rs e F1 a1 H1 l1 s1 p1 vs hv => ?_)⟩⟩
  unfold zipTI at p1
  split at p1
  · rename_i ds es
    cases hv with
    | cons h1 h2 =>
      cases h2 with
      | cons h3 h4 =>
        cases h4
        cases h1 with
        | tup q1 q2 =>
          cases h3 with
          | tup q3 q4 =>
            rename_i a1 us a2 ws
            refine ⟨a1, a2, us, ws, rfl, .inr ⟨sameT s1.sub q1, sameT s1.sub q3, p1.here s1 _ fun g al en F σ H hs s i => ⟨fun r hr => ?_, fun hi => ?_⟩⟩⟩
            · have hq : SqT X.K H a1 us := sameT s.sub (sameT hs q1)
              have hq2 : SqT X.K H a2 ws := sameT s.sub (sameT hs q3)
              obtain ⟨d, e, g1, g2, rfl⟩ := zip_get hr
              obtain ⟨v1, e1, f1⟩ := dpAll_get q2 g1
              obtain ⟨v2, e2, f2⟩ := dpAll_get q4 g2
              refine ⟨⟨us, ws, v1, v2, hq, hq2, e1, e2⟩, fun x H' hy => ?_⟩
              obtain ⟨T, x1, x2, rfl, hT, rfl, y1, y2⟩ := hy
              have z1 := y1 us hq
              have z2 := y2 ws hq2
              rw [e1] at z1
              rw [e2] at z2
              cases z1
              cases z2
              exact ⟨upd F T (.tup [v1, v2]), .inr ⟨T, _, hT, rfl, rfl⟩, dp_tup (.cons (dp_mono hs _ _ f1) (.cons (dp_mono hs _ _ f2) .nil)) (s.fnone hT)⟩
            · refine ⟨us, ws, sameT s.sub (sameT hs q1), sameT s.sub (sameT hs q3), ?_⟩
              rw [dpAll_len q2, dpAll_len q4]
              unfold zipI at hi
              rw [List.length_zipWith] at hi
              omega
  · exact p1.elim
/-! ## for -/
def forM (h : Rv → En → Option En) (G : M Fl) : List PyData → M Fl
  | [] => ret .nx
  | r :: rs => fun en => match h (.dat r) en with
    | none => .bad
    | some e => (match G e with
      | .ok .nx e2 => forM h G rs e2
      | .ok .cnt e2 => forM h G rs e2
      | .ok .brk e2 => .ok .nx e2
      | .ok (.ret q) e2 => .ok (.ret q) e2
      | .exc x e2 => .exc x e2
      | .bad => .bad)
theorem sd_for {body : List Stmt} {f : M (List PyData)} {h1 : Rv → En → Option En} {ws : List Nat} {G : M Fl} (hp : PassesOwn (model X.prog X.w) X.A X.env X.xe) (hc : X.calm = true) (hi : PID X TT W tg a f) (hg : PGD X TT tg h1 ws) (hb : PSsD X TT W body G)
    (hs : ∀ x, foldedSetIterable a X.env x = pure x := by intro _; rfl) : PSD X TT W (.For tg a body [] pos) (bnd f (forM h1 G)) := by
  obtain ⟨⟨w, pw, qw⟩⟩ := hi
  obtain ⟨⟨t, pt, qt⟩⟩ := hg
  obtain ⟨⟨u, pu, qu⟩⟩ := hb
  refine ⟨⟨_, ps_for hp hc pw pt pu hs, fun g al en F σ H D s h => qw g al en F σ H _ s (h.seq fun rs e0 F0 a0 H0 l0 s0 p0 J hJ => ?_)⟩⟩
  refine ⟨fun i m σ H => m = rs.length - i ∧ i ≤ rs.length ∧ ∃ al en F, Le F0 a0 F al ∧ Sv X.K TT g al en F σ H ∧ PostS X.K TT W g F al (forM h1 G (rs.drop i) en) D,
    ⟨rs.length, rfl, Nat.zero_le _, a0, e0, F0, Le.refl _ _, s0, by simpa using p0⟩, ?_⟩
  rintro i m σ1 H1 ⟨rfl, hi, al1, en1, F1, l1, s1, p1⟩
  obtain ⟨hgo, hstop⟩ := hJ g al1 en1 F1 σ1 H1 l1.f s1 i
  by_cases hlt : i < rs.length
  · have er : rs[i]? = some rs[i] := List.getElem?_eq_getElem hlt
    obtain ⟨go, yl⟩ := hgo _ er
    rw [List.drop_eq_getElem_cons hlt] at p1
    refine .inr ⟨go, fun σ' H' => ∃ al en F, Le F0 a0 F al ∧ Sv X.K TT g al en F σ' H' ∧ PostS X.K TT W g F al (forM h1 G (rs.drop (i + 1)) en) D, fun σ' H' hN => ⟨rs.length - (i + 1), by omega, rfl, hlt, hN⟩, fun x H' hy => ?_⟩
    obtain ⟨F2, hst, hd⟩ := yl x H' hy
    obtain ⟨s2, l2⟩ := s1.rstep hst
    have p2 := p1.up l2
    unfold forM at p2
    cases q1 : h1 (.dat rs[i]) en1 with
    | none => simp only [q1] at p2; exact p2.elim
    | some e3 =>
      simp only [q1] at p2
      refine qt x (.dat rs[i]) g al1 en1 e3 F2 σ1 H' _ s2 hd q1 fun σ3 s3 _ => ?_
      refine qu g al1 e3 F2 σ3 H' _ s3 ?_
      have l3 := l1.trans l2
      cases q2 : G e3 with
      | ok fl e4 =>
        rw [q2] at p2
        cases fl with
        | nx => exact fun F5 a5 σ5 H5 l5 s5 => ⟨a5, e4, F5, l3.trans l5, s5, p2.up l5⟩
        | cnt => exact fun F5 a5 σ5 H5 l5 s5 => ⟨a5, e4, F5, l3.trans l5, s5, p2.up l5⟩
        | brk => exact p2
        | ret r => exact p2
      | exc x e4 => rw [q2] at p2; exact p2
      | bad => rw [q2] at p2; exact p2
  · have e : i = rs.length := by omega
    subst e
    rw [List.drop_length] at p1
    exact .inl ⟨hstop (Nat.le_refl _), p1.next (Le.refl _ _) s1⟩
/-! ## while -/
def whileN (gc : M Bool) (G : M Fl) : Nat → En → Option (Out Fl)
  | 0, _ => none
  | n + 1, en => match gc en with
    | .ok true e => (match G e with
      | .ok .nx e2 => whileN gc G n e2
      | .ok .cnt e2 => whileN gc G n e2
      | .ok .brk e2 => some (.ok .nx e2)
      | .ok (.ret q) e2 => some (.ok (.ret q) e2)
      | .exc x e2 => some (.exc x e2)
      | .bad => some .bad)
    | .ok false e => some (.ok .nx e)
    | .exc x e => some (.exc x e)
    | .bad => some .bad
theorem whileN_more {gc : M Bool} {G : M Fl} : ∀ {n : Nat} {en : En} {o : Out Fl}, whileN gc G n en = some o → whileN gc G (n + 1) en = some o
  | 0, _, _, h => by cases h
  | n + 1, en, o, h => by
    unfold whileN at h ⊢
    cases q : gc en with
    | ok b e =>
      rw [q] at h
      cases b with
      | false => exact h
      | true =>
        simp only at h ⊢
        cases q2 : G e with
        | ok fl e2 =>
          rw [q2] at h
          cases fl with
          | nx => exact whileN_more h
          | cnt => exact whileN_more h
          | brk => exact h
          | ret r => exact h
        | exc x e2 => rw [q2] at h; exact h
        | bad => rw [q2] at h; exact h
    | exc x e => rw [q] at h; exact h
    | bad => rw [q] at h; exact h
theorem whileN_le {gc : M Bool} {G : M Fl} {n m : Nat} {en : En} {o : Out Fl} (h : whileN gc G n en = some o) (l : n ≤ m) : whileN gc G m en = some o := by
  induction l with
  | refl => exact h
  | step _ ih => exact whileN_more ih
open Classical in
noncomputable def whileM (gc : M Bool) (G : M Fl) : M Fl := fun en => if h : ∃ o n, whileN gc G n en = some o then h.choose else .bad
theorem whileM_eq {gc : M Bool} {G : M Fl} {n : Nat} {en : En} {o : Out Fl} (h : whileN gc G n en = some o) : whileM gc G en = o := by
  have hx : ∃ o n, whileN gc G n en = some o := ⟨o, n, h⟩
  unfold whileM
  rw [dif_pos hx]
  obtain ⟨m, hm⟩ := hx.choose_spec
  have h1 := whileN_le h (Nat.le_max_left n m)
  have h2 := whileN_le hm (Nat.le_max_right n m)
  rw [h1] at h2
  exact (Option.some.inj h2).symm
theorem sd_while {body : List Stmt} {gc : M Bool} {G : M Fl} (hp : PassesOwn (model X.prog X.w) X.A X.env X.xe) (hc : PBt X TT W c gc) (hb : PSsD X TT W body G) : PSD X TT W (.While c body [] pos) (whileM gc G) := by
  obtain ⟨⟨t, pt, qt⟩⟩ := hc
  obtain ⟨⟨u, pu, qu⟩⟩ := hb
  refine ⟨⟨_, ps_while hp pt pu, fun g al en F σ H D s h => ?_⟩⟩
  by_cases hx : ∃ o n, whileN gc G n en = some o
  · obtain ⟨o, n, hn⟩ := hx
    rw [whileM_eq hn] at h
    refine ⟨fun m σ1 H1 => ∃ al1 en1 F1 o, whileN gc G m en1 = some o ∧ Le F al F1 al1 ∧ Sv X.K TT g al1 en1 F1 σ1 H1 ∧ PostS X.K TT W g F1 al1 o D, ⟨n, al, en, F, o, hn, Le.refl _ _, s, h⟩, ?_⟩
    rintro m σ1 H1 ⟨al1, en1, F1, o1, hm, l1, s1, p1⟩
    cases m with
    | zero => cases hm
    | succ m =>
      unfold whileN at hm
      refine qt g al1 en1 F1 σ1 H1 _ s1 ?_
      cases q : gc en1 with
      | ok b e2 =>
        rw [q] at hm
        intro F2 a2 H2 l2 s2
        cases b with
        | false =>
          simp only [Option.some.injEq] at hm
          subst hm
          rw [if_neg Bool.false_ne_true]
          exact p1 F2 a2 σ1 H2 l2 s2
        | true =>
          simp only at hm
          rw [if_pos rfl]
          refine ⟨fun σ' H' => ∃ m', m' < m + 1 ∧ ∃ al1 en1 F1 o, whileN gc G m' en1 = some o ∧ Le F al F1 al1 ∧ Sv X.K TT g al1 en1 F1 σ' H' ∧ PostS X.K TT W g F1 al1 o D, fun σ' H' h => h, ?_⟩
          refine qu g a2 e2 F2 σ1 H2 _ s2 ?_
          cases q2 : G e2 with
          | ok fl e4 =>
            rw [q2] at hm
            cases fl with
            | nx => exact fun F5 a5 σ5 H5 l5 s5 => ⟨m, Nat.lt_succ_self m, a5, e4, F5, o1, hm, (l1.trans l2).trans l5, s5, (p1.up l2).up l5⟩
            | cnt => exact fun F5 a5 σ5 H5 l5 s5 => ⟨m, Nat.lt_succ_self m, a5, e4, F5, o1, hm, (l1.trans l2).trans l5, s5, (p1.up l2).up l5⟩
            | brk => simp only [Option.some.injEq] at hm; subst hm; exact p1.up l2
            | ret r => simp only [Option.some.injEq] at hm; subst hm; exact p1.up l2
          | exc x e4 => rw [q2] at hm; simp only [Option.some.injEq] at hm; subst hm; exact p1.up l2
          | bad => rw [q2] at hm; simp only [Option.some.injEq] at hm; subst hm; exact p1
      | exc x e2 =>
        rw [q] at hm
        simp only [Option.some.injEq] at hm
        subst hm
        exact fun F2 a2 H2 cls dO l2 s2 => p1 F2 a2 σ1 H2 cls dO l2 s2
      | bad =>
        rw [q] at hm
        simp only [Option.some.injEq] at hm
        subst hm
        exact p1
  · unfold whileM at h
    rw [dif_neg hx] at h
    exact h.elim
end
end Pd

namespace Pd
open PySem PySem.Spec PyProof.Rows L2
/-! ## comprehensions -/
abbrev W0 : WX := fun _ _ _ _ => False
structure PTsD (X : Cx) (TT : Addr → Prop) (ifs : List Expr) (f : M Bool) : Prop where
  ex : ∃ t : L2.TT, PTs X ifs t ∧ ∀ g al en F σ H Q, Sv X.K TT g al en F σ H → Post X.K TT W0 g F al σ (f en) (fun b _ _ _ H' => Q b H') → t σ H Q
/-- what a turn does: the list at k grows -/
def compL (h : Rv → En → Option En) (gt : M Bool) (fe : M Rv) (sl : List (Option Rv)) (k : Nat) : List PyData → En → Option En
  | [], en => some en
  | r :: rs, en => match h (.dat r) en with
    | none => none
    | some e1 => (match gt e1 with
      | .ok false e2 => compL h gt fe sl k rs { e2 with sl := sl }
      | .ok true e2 => (match fe e2 with
        | .ok v e3 => (match e3.ob[k]? with
          | some (.lst acc) => if acc.length < sizeLine then compL h gt fe sl k rs { sl := sl, ob := e3.ob.set k (.lst (acc ++ [v])) } else none
          | _ => none)
        | _ => none)
      | _ => none)
def compM (vs : List Nat) (h : Rv → En → Option En) (gt : M Bool) (fe : M Rv) (rs : List PyData) : M Rv := fun en =>
  match compL h gt fe (wipeL en.sl vs) en.ob.length rs { sl := wipeL en.sl vs, ob := en.ob ++ [.lst []] } with
  | some e => .ok (.own en.ob.length) { e with sl := en.sl }
  | none => .bad
section
variable {X : Cx} {TT : Addr → Prop} {W : WX} {a b c : Expr} {fa fb fc : M Rv} {pos : Pos} {es : List Expr} {fs : M (List Rv)} {x : Str} {p : Pos} {tg : Expr}
theorem ts_nil : PTsD X TT [] (ret true) := ⟨⟨_, pts_nil, fun g al en F σ H Q s h => h.here s⟩⟩
theorem ts_one {gc : M Bool} (hc : PBt X TT W0 c gc) : PTsD X TT [c] gc := by
  obtain ⟨⟨t, pt, q⟩⟩ := hc
  exact ⟨⟨_, pts_one pt, q⟩⟩
theorem PE.stronger {e : Expr} {t t' : TE} (h : PE X e t) (i : ∀ σ H Q, t' σ H Q → t σ H Q) : PE X e t' := ⟨fun pins s σ H Q I w => h.run pins s σ H Q I (i σ H Q w)⟩
theorem PTs.stronger {e : List Expr} {t t' : L2.TT} (h : PTs X e t) (i : ∀ σ H Q, t' σ H Q → t σ H Q) : PTs X e t' := ⟨fun pins s σ H Q I w => h.run pins s σ H Q I (i σ H Q w)⟩
theorem PG.stronger {e : Expr} {t t' : TG} (h : PG X e t) (i : ∀ v σ H Q, t' v σ H Q → t v σ H Q) : PG X e t' := ⟨fun pins s σ H v u Q I r w => h.run pins s σ H v u Q I r (i v σ H Q w)⟩
/-- the context of a comprehension's turn -/
abbrev Bk (X : Cx) (scope : Scope) (z : Shared × Hp × Addr × List (Str × Addr) × List Addr) : Cx := X.blk z.1 z.2.1 scope (compEnvC scope z.2.2.2.1 z.2.2.1 X.env) z.2.2.2.2
/-- a comprehension's own reading: all that its turns ask -/
theorem comp_core {elt iter : Expr} {ifs : List Expr} {scope : Scope} {own : List (Str × Nat)} {f : M (List PyData)} {h : Rv → En → Option En} {gt : M Bool} {fe : M Rv} {ws : List Nat}
    (hi : PID X TT W tg iter f) (hg : ∀ z, PGD (Bk X scope z) TT tg h ws) (hws : ∀ i, i ∈ ws → i ∈ own.map (·.2)) (ht : ∀ z, PTsD (Bk X scope z) TT ifs gt) (he : ∀ z, PD (Bk X scope z) TT W0 elt fe) :
    ∃ (wi : TI) (g : TG) (tt : L2.TT) (te : TE), PI X tg iter wi ∧ (∀ z, PG (Bk X scope z) tg g) ∧ (∀ z, PTs (Bk X scope z) ifs tt) ∧ (∀ z, PE (Bk X scope z) elt te) ∧
      ∀ gh al en F σ H Q, Sv X.K TT gh al en F σ H → Post X.K TT W gh F al σ (bnd f (compM (own.map (·.2)) h gt fe) en) (fun r _ F' al' H' => ∀ v, RvR X.K F' al' v r → Q v H') → tLc wi g tt te (own.map (·.2)) σ H Q := by
  obtain ⟨⟨wi, pw, qw⟩⟩ := hi
  refine ⟨wi, fun v σ H Q => ∀ z, (hg z).ex.choose v σ H Q, fun σ H Q => ∀ z, (ht z).ex.choose σ H Q, fun σ H Q => ∀ z, (he z).ex.choose σ H Q, pw, fun z => PG.stronger (hg z).ex.choose_spec.1 fun v σ H Q k => k z,
    fun z => PTs.stronger (ht z).ex.choose_spec.1 fun σ H Q k => k z, fun z => PE.stronger (he z).ex.choose_spec.1 fun σ H Q k => k z, fun gh al en F σ H Q s hP => ?_⟩
  generalize hvs : own.map (·.2) = vs at hws hP ⊢
  refine qw gh al en F σ H _ s (Post.seq hP fun rs e0 F0 a0 H0 l0 s0 p0 J hJ => ?_)
  intro D hD
  unfold compM at p0
  cases qc : compL h gt fe (wipeL e0.sl vs) e0.ob.length rs { sl := wipeL e0.sl vs, ob := e0.ob ++ [.lst []] } with
  | none => rw [qc] at p0; exact p0.elim
  | some eE =>
    rw [qc] at p0
    have sW := (s0.wiped vs).newOwn hD (xs := []) (rs := []) .nil
    have lD : Le F0 a0 F0 (a0 ++ [D]) := le_own
    have eD : (a0 ++ [D])[e0.ob.length]? = some D := by rw [← s0.alen, List.getElem?_append_right (Nat.le_refl _)]; simp
    refine ⟨fun i m H => m = rs.length - i ∧ i ≤ rs.length ∧ ∃ al1 en1 F1, Le F0 (a0 ++ [D]) F1 al1 ∧ en1.sl = wipeL e0.sl vs ∧ Sv X.K TT gh al1 en1 F1 (wipe σ vs) H ∧ compL h gt fe (wipeL e0.sl vs) e0.ob.length (rs.drop i) en1 = some eE,
      ⟨rs.length, rfl, Nat.zero_le _, _, _, F0, Le.refl _ _, rfl, sW, by simpa using qc⟩, ?_⟩
    rintro i m H1 ⟨rfl, hi, al1, en1, F1, l1, el, s1, p1⟩
    obtain ⟨hgo, hstop⟩ := hJ gh al1 en1 F1 _ H1 l1.f s1 i
    by_cases hlt : i < rs.length
    · have er : rs[i]? = some rs[i] := List.getElem?_eq_getElem hlt
      obtain ⟨go, yl⟩ := hgo _ er
      rw [List.drop_eq_getElem_cons hlt] at p1
      refine .inr ⟨go, fun H' => ∃ al1 en1 F1, Le F0 (a0 ++ [D]) F1 al1 ∧ en1.sl = wipeL e0.sl vs ∧ Sv X.K TT gh al1 en1 F1 (wipe σ vs) H' ∧ compL h gt fe (wipeL e0.sl vs) e0.ob.length (rs.drop (i + 1)) en1 = some eE, fun H' hN => ⟨rs.length - (i + 1), by omega, rfl, hlt, hN⟩, fun x H' hy z => ?_⟩
      obtain ⟨F2, hst, hd⟩ := yl x H' hy
      obtain ⟨s2, l2⟩ := s1.rstep hst
      unfold compL at p1
      cases q1 : h (.dat rs[i]) en1 with
      | none => simp only [q1] at p1; cases p1
      | some e3 =>
        simp only [q1] at p1
        refine (hg z).ex.choose_spec.2 x (.dat rs[i]) gh al1 en1 e3 F2 _ H' _ s2 hd q1 fun σ3 s3 m3 => ?_
        have w3 : wipe σ3 vs = wipe σ vs := by
          have z2 := m3.wipe hws
          rw [z2]
          apply List.ext_getElem?
          intro j
          by_cases hj : j ∈ vs
          · by_cases hl : j < σ.length
            · rw [wipe_in (by rw [wipe_length]; exact hl) hj, wipe_in hl hj]
            · rw [List.getElem?_eq_none (by rw [wipe_length, wipe_length]; omega), List.getElem?_eq_none (by rw [wipe_length]; omega)]
          · rw [wipe_get hj]
        have l3 := l1.trans l2
        -- back to the wiped slots
        have back : ∀ {al' : List Addr} {e' : En} {F' : Hp} {H'' : Hp}, Le F2 al1 F' al' → Sv X.K TT gh al' e' F' σ3 H'' → Sv X.K TT gh al' { e' with sl := wipeL e0.sl vs } F' (wipe σ vs) H'' := fun {al' e' F' H''} l s => by
          refine s.reslot ?_ fun j r ej => ?_
          · rw [wipe_length, wipeL_len]; exact s0.len
          · obtain ⟨v, f1, f2⟩ := s1.slots j r (by rw [el]; exact ej)
            exact ⟨v, f1, f2.mono (l2.trans l)⟩
        refine ⟨w3, fun z2 => ?_⟩
        refine (ht z2).ex.choose_spec.2 gh al1 e3 F2 σ3 H' _ s3 ?_
        cases q2 : gt e3 with
        | bad => simp only [q2] at p1; cases p1
        | exc _ _ => simp only [q2] at p1; cases p1
        | ok k e4 =>
          simp only [q2] at p1
          intro F4 a4 H4 l4 s4
          cases k with
          | false =>
            simp only at p1
            rw [if_neg Bool.false_ne_true]
            exact ⟨a4, _, F4, l3.trans l4, rfl, back l4 s4, p1⟩
          | true =>
            simp only at p1
            rw [if_pos rfl]
            intro z3
            refine (he z3).ex.choose_spec.2 gh a4 e4 F4 σ3 H4 _ s4 ?_
            cases q3 : fe e4 with
            | bad => simp only [q3] at p1; cases p1
            | exc _ _ => simp only [q3] at p1; cases p1
            | ok v e5 =>
              simp only [q3] at p1
              intro F5 a5 H5 l5 s5 y hy5
              cases q4 : e5.ob[e0.ob.length]? with
              | none => simp only [q4] at p1; cases p1
              | some oc =>
                cases oc with
                | fz _ => simp only [q4] at p1; cases p1
                | lst acc =>
                  simp only [q4] at p1
                  split at p1
                  · rename_i hz
                    have eD5 : a5[e0.ob.length]? = some D := pre_get (((l1.trans l2).trans l4).trans l5).a eD
                    obtain ⟨fn, us, hus, hra⟩ := s5.lst eD5 q4
                    refine ⟨us, hus, by rw [hra.len]; exact hz, a5, _, F5, (l3.trans l4).trans l5, rfl, ?_, p1⟩
                    exact back (l4.trans l5) (s5.write eD5 q4 (RvAll.app hra (.cons hy5 .nil)))
                  · cases p1
    · have e : i = rs.length := by omega
      subst e
      rw [List.drop_length] at p1
      refine .inl ⟨hstop (Nat.le_refl _), ?_⟩
      have e2 : en1 = eE := by
        unfold compL at p1
        exact Option.some.inj p1
      subst e2
      have sE : Sv X.K TT gh al1 { en1 with sl := e0.sl } F1 σ H1 := s1.reslot s0.len fun j r ej => by
        obtain ⟨v, f1, f2⟩ := s0.slots j r ej
        exact ⟨v, f1, f2.mono (lD.trans l1)⟩
      exact p0.at (lD.trans l1) sE (.ref D) ⟨D, pre_get l1.a eD, rfl⟩
variable {elt iter : Expr} {ifs : List Expr} {scope : Scope} {own : List (Str × Nat)} {f : M (List PyData)} {h : Rv → En → Option En} {gt : M Bool} {fe : M Rv} {ws : List Nat}
theorem pd_lc (own : List (Str × Nat)) (hc : X.calm = true) (hN : X.N.Nodup) (hi : PID X TT W tg iter f) (ok : BlkOk X.N X.env.scope scope own) (hg : ∀ z, PGD (Bk X scope z) TT tg h ws) (ht : ∀ z, PTsD (Bk X scope z) TT ifs gt) (he : ∀ z, PD (Bk X scope z) TT W0 elt fe) (hws : ∀ i, i ∈ ws → i ∈ own.map (·.2) := by decide)
    (hs : ∀ x, foldedSetIterable iter X.env x = pure x := by intro _; rfl) : PD X TT W (.ListComp elt [⟨tg, iter, ifs, 0⟩] scope pos) (bnd f (compM (own.map (·.2)) h gt fe)) := by
  obtain ⟨wi, g, tt, te, pw, pg, ptt, pte, q⟩ := comp_core hi hg hws ht he
  exact ⟨⟨_, pe_lc hc hN pw ok (fun s H C cl fp => pg (s, H, C, cl, fp)) (fun s H C cl fp => ptt (s, H, C, cl, fp)) (fun s H C cl fp => pte (s, H, C, cl, fp)) hs, q⟩⟩
theorem sd_setLc (i : Nat) (own : List (Str × Nat)) {y : Str} {py : Pos} {spos : Pos} (hc : X.calm = true) (hN : X.N.Nodup) (hsw : swapsWith (.ListComp elt [⟨tg, iter, ifs, 0⟩] scope pos) (some (.Name y py)) spos.line X.env = pure true) (hi : PID X TT W tg iter f) (ok : BlkOk X.N X.env.scope scope own)
    (hg : ∀ z, PGD (Bk X scope z) TT tg h ws) (ht : ∀ z, PTsD (Bk X scope z) TT ifs gt) (he : ∀ z, PD (Bk X scope z) TT W0 elt fe) (hws : ∀ i, i ∈ ws → i ∈ own.map (·.2) := by decide)
    (hy : X.N[i]? = some y := by rfl) (hyl : X.env.scope.names.lookup y = some .local := by rfl) (hs : ∀ x, foldedSetIterable iter X.env x = pure x := by intro _; rfl) :
    PSD X TT W (.Assign [.Name y py] (.ListComp elt [⟨tg, iter, ifs, 0⟩] scope pos) spos) (bnd (bnd f (compM (own.map (·.2)) h gt fe)) (asg (setM i))) := by
  obtain ⟨wi, g, tt, te, pw, pg, ptt, pte, q⟩ := comp_core hi hg hws ht he
  refine ⟨⟨_, ps_setLc hc hN hy hyl hsw pw ok (fun s H C cl fp => pg (s, H, C, cl, fp)) (fun s H C cl fp => ptt (s, H, C, cl, fp)) (fun s H C cl fp => pte (s, H, C, cl, fp)) hs, fun gh al en F σ H D s hh => ?_⟩⟩
  exact q gh al en F σ H _ s (hh.seq fun r e F' al' H' l s2 p v hv => p.next (Le.refl _ _) (s2.setS hv))
end
end Pd

namespace Pd
open PySem PySem.Spec PyProof.Rows L2
/-! ## defs -/
theorem frz_ok {K : PySem.W.Frag} {TT : Addr → Prop} {g : Gh} {al : List Addr} {en e' : En} {F : Hp} {σ : L2.St} {H : Hp} {r : Rv} {v : V} {d : PyData} (s : Sv K TT g al en F σ H) (h : RvR K F al v r) (e : frz r en = .ok d e') :
    ∃ F', Sv K TT g al e' F' σ H ∧ Le F al F' al ∧ Dp K F' v d := by
  have hp : Post K TT (fun _ _ _ _ => True) g F al σ (bnd (frz r) ret en) (fun d' e'' _ _ _ => d' = d ∧ e'' = e') := by
    unfold bnd
    rw [e]
    exact fun F' al' H' _ _ => ⟨rfl, rfl⟩
  obtain ⟨d2, e2, F2, s2, l2, dd, p2⟩ := frz_seq s h hp
  obtain ⟨rfl, rfl⟩ := p2.here s2
  exact ⟨F2, s2, l2, dd⟩
/-- the slots at a def's start -/
def slots0 (n : Nat) (ds : List PyData) : List (Option Rv) := ds.map (fun d => some (.dat d)) ++ List.replicate (n - ds.length) none
/-- a def upon plain data: np its parameters, n its names -/
def runD (np n : Nat) (G : M Fl) (ds : List PyData) : Res := if ds.length = np then (match G { sl := slots0 n ds, ob := [] } with
  | .ok .nx _ => .ok .none
  | .ok (.ret r) e => (match frz r e with
    | .ok d _ => .ok d
    | _ => .bad)
  | .exc x _ => .exc x
  | _ => .bad) else .bad
/-- .. lent a list -/
def rowOf (e : En) : Option (List PyData) := match e.ob[0]? with
  | some (Oc.lst rs) => dats rs
  | _ => none
def runR (np n : Nat) (G : M Fl) (rows ds : List PyData) : RRes := if ds.length + 1 = np then (match G { sl := some (.own 0) :: slots0 (n - 1) ds, ob := [.lst (rows.map Rv.dat)] } with
  | .ok .nx e => (match rowOf e with
    | some rows' => .ok .none rows'
    | none => .bad)
  | .ok (.ret r) e => (match frz r e with
    | .ok d e' => (match rowOf e' with
      | some rows' => .ok d rows'
      | none => .bad)
    | _ => .bad)
  | .exc x e => (match rowOf e with
    | some rows' => .exc x rows'
    | none => .bad)
  | _ => .bad) else .bad
theorem start_slots {K : PySem.W.Frag} {F : Hp} {al : List Addr} {N : List Str} {vs : List V} {ds : List PyData} (h : DpAll K F vs ds) : (L2.start N vs).length = (slots0 N.length ds).length ∧ ∀ (i : Nat) (r : Rv), (slots0 N.length ds)[i]? = some (some r) → ∃ v, (L2.start N vs)[i]? = some (some v) ∧ RvR K F al v r := by
  have hl := dpAll_len h
  refine ⟨by simp [L2.start, slots0, hl], fun i r e => ?_⟩
  unfold slots0 at e
  unfold L2.start
  by_cases hi : i < ds.length
  · rw [List.getElem?_append_left (by simpa using hi), List.getElem?_map] at e
    rw [List.getElem?_append_left (by simpa [hl] using hi), List.getElem?_map]
    cases q : ds[i]? with
    | none => rw [q] at e; cases e
    | some d =>
      rw [q] at e
      cases e
      obtain ⟨v, e1, e2⟩ := dpAll_get h q
      exact ⟨v, by rw [e1]; rfl, e2⟩
  · rw [List.getElem?_append_right (by simpa using hi)] at e
    by_cases hr : i - (List.map (fun d => some (Rv.dat d)) ds).length < N.length - ds.length
    · rw [List.getElem?_replicate_of_lt hr] at e; cases e
    · rw [List.getElem?_eq_none (by simpa using hr)] at e; cases e
section
variable {P : Program} {w : World} {K : PySem.W.Frag} {mg : Str → Option Value} {base : Heap} {TT : Addr → Prop} {x qual : Str} {params : Arguments} {body : List Stmt} {scope : Scope} {f : Addr} {fd : FuncData} {N ps : List Str} {k : Nat} {G : M Fl}
theorem Sv.start {F H : Hp} {vs : List V} {ds : List PyData} (h1 : Same F H) (h2 : Tabs TT F H) (h3 : DpAll K F vs ds) : Sv K TT ⟨F, H, fun _ => False⟩ [] { sl := slots0 N.length ds, ob := [] } F (L2.start N vs) H where
  sub := h1
  frF := Same.refl _
  nF := fun b hb => .inl hb
  frame := fun b o e _ _ => e
  tabs := h2
  len := (start_slots (al := []) (N := N) h3).1
  slots := (start_slots (al := []) (N := N) h3).2
  alen := rfl
  objs := fun k a oc e _ => by simp at e
  anew := fun k a e => by simp at e
  bin := fun b hb => hb.elim
  anod := List.nodup_nil
  atab := fun a ha => by cases ha
theorem Sv.toFr {F H F' H' : Hp} {al : List Addr} {en : En} {σ : L2.St} (s : Sv K TT ⟨F, H, fun _ => False⟩ al en F' σ H') : Fr TT F H F' H' where
  f := s.frF
  sub := s.sub
  tabs := s.tabs
  keep := fun b o e nt => s.frame b o e nt fun z => z
  new := fun b hb => by
    rcases s.nF b hb with z | z | z
    · exact .inl z
    · exact .inr z
    · exact z.elim
theorem okc {CX : CXT} {sp : Sp} (F : FunD K x qual params body scope [] [] f fd) (S : FnScope N ps scope) (len : ∀ vs H Q E, sp vs H Q E → vs.length = ps.length)
    (hbody : ∀ (A : Around) (outer : List Env) (s : Shared) (H : Hp) (vs : List V) (Q : VK) (E : XK), Room k (A.deeper (envOfC qual scope s.heap.objs.size f fd.code)) → sp vs H Q E →
      ∃ t, PSs (cxOf CX P w K mg base N qual scope f fd.code A outer s H E) body t ∧ t { nx := fun _ H' => Q .non H', rt := Q } (L2.start N vs) H) : FnOk P w K mg base CX (k + 1) f fd ps sp := by
  obtain ⟨oc, od, dV, kV, doc, pm, an, cdv, ct, osl, rfl, lk, hcd, _, _⟩ := F.ex
  exact fn_of lk hcd S len fun A outer s H vs Q E hr hsp => hbody A outer s H vs Q E hr hsp
/-- the context of a def's body -/
abbrev Cb (P : Program) (w : World) (K : PySem.W.Frag) (mg : Str → Option Value) (base : Heap) (N : List Str) (qual : Str) (scope : Scope) (f : Addr) (z : Value × Around × List Env × Shared × Hp) (E : XK) : Cx := cxOf (L2.CX P w) P w K mg base N qual scope f z.1 z.2.1 z.2.2.1 z.2.2.2.1 z.2.2.2.2 E
theorem okD (Fd : FunD K x qual params body scope [] [] f fd) (S : FnScope N ps scope) (hG : ∀ z E, Room k (z.2.1.deeper (envOfC qual scope z.2.2.2.1.heap.objs.size f z.1)) → z.1 = fd.code → PSsD (Cb P w K mg base N qual scope f z E) TT (fun cls d _ H => E cls d H) body G) :
    FnOk P w K mg base (L2.CX P w) (k + 1) f fd ps (spD K TT (runD ps.length N.length G)) := by
  refine okc Fd S (fun vs H Q E h => ?_) (fun A outer s H vs Q E hr h => ?_)
  · obtain ⟨F, ds, _, _, h3, h4⟩ := h
    by_cases e : ds.length = ps.length
    · rw [dpAll_len h3]; exact e
    · unfold runD at h4
      rw [if_neg e] at h4
      exact h4.elim
  · obtain ⟨F, ds, h1, h2, h3, h4⟩ := h
    obtain ⟨⟨t, pt, q⟩⟩ := hG (fd.code, A, outer, s, H) E hr rfl
    refine ⟨t, pt, q ⟨F, H, fun _ => False⟩ [] { sl := slots0 N.length ds, ob := [] } F (L2.start N vs) H _ (Sv.start h1 h2 h3) ?_⟩
    unfold runD at h4
    by_cases e0 : ds.length = ps.length
    · rw [if_pos e0] at h4
      cases qg : G { sl := slots0 N.length ds, ob := [] } with
      | bad => rw [qg] at h4; exact h4.elim
      | exc x e =>
        rw [qg] at h4
        exact fun F' al' σ' H' cls dO l s2 hx => h4 cls dO F' H' s2.toFr hx
      | ok fl e =>
        rw [qg] at h4
        cases fl with
        | brk => exact h4.elim
        | cnt => exact h4.elim
        | nx => exact fun F' al' σ' H' l s2 => h4 .non F' H' s2.toFr .non
        | ret r =>
          simp only at h4
          intro v F' al' σ' H' l s2 hv
          cases qf : frz r e with
          | bad => rw [qf] at h4; exact h4.elim
          | exc _ _ => rw [qf] at h4; exact h4.elim
          | ok d e2 =>
            rw [qf] at h4
            obtain ⟨F3, s3, l3, d3⟩ := frz_ok s2 hv qf
            exact h4 v F3 H' s3.toFr d3
    · rw [if_neg e0] at h4
      exact h4.elim
theorem Sv.startR {F H : Hp} {a : Addr} {us vs : List V} {n : Str} {rows ds : List PyData} (h1 : Same F H) (h2 : Tabs TT F H) (hF : F a = none) (hT : ¬ TT a) (hH : H a = some (.lst us)) (hu : DpAll K F us rows) (h3 : DpAll K F vs ds) :
    Sv K TT ⟨F, H, fun b => b = a⟩ [a] { sl := some (.own 0) :: slots0 N.length ds, ob := [.lst (rows.map Rv.dat)] } F (L2.start (n :: N) (.ref a :: vs)) H where
  sub := h1
  frF := Same.refl _
  nF := fun b hb => .inl hb
  frame := fun b o e _ _ => e
  tabs := h2
  len := by
    have e : L2.start (n :: N) (V.ref a :: vs) = some (V.ref a) :: L2.start N vs := by simp [L2.start]
    rw [e, List.length_cons, List.length_cons, (start_slots (al := [a]) (N := N) h3).1]
  slots := fun i r e => by
    have e2 : L2.start (n :: N) (V.ref a :: vs) = some (V.ref a) :: L2.start N vs := by simp [L2.start]
    rw [e2]
    cases i with
    | zero =>
      simp only [List.getElem?_cons_zero, Option.some.injEq] at e
      subst e
      exact ⟨.ref a, rfl, a, rfl, rfl⟩
    | succ j =>
      rw [List.getElem?_cons_succ] at e ⊢
      exact (start_slots (al := [a]) (N := N) h3).2 j r e
  alen := rfl
  objs := fun k b oc e1 e2 => by
    cases k with
    | succ j => simp at e1
    | zero =>
      simp only [List.getElem?_cons_zero, Option.some.injEq] at e1 e2
      subst e1 e2
      exact ⟨hF, us, hH, rvAll_dat hu⟩
  anew := fun k b e => by
    cases k with
    | succ j => simp at e
    | zero =>
      simp only [List.getElem?_cons_zero, Option.some.injEq] at e
      exact .inr e.symm
  bin := fun b hb => List.mem_singleton.mpr hb
  anod := by simp
  atab := fun b hb => by
    have e : b = a := by simpa using hb
    rw [e]; exact hT
theorem Sv.toFrR {F H F' H' : Hp} {a : Addr} {al : List Addr} {en : En} {σ : L2.St} {rows' : List PyData} (s : Sv K TT ⟨F, H, fun b => b = a⟩ al en F' σ H') (ha : al[0]? = some a) (hr : rowOf en = some rows') :
    FrR TT a F H F' H' ∧ ∃ us', H' a = some (.lst us') ∧ DpAll K F' us' rows' := by
  unfold rowOf at hr
  split at hr
  · rename_i rs eo
    obtain ⟨fn, us, hus, hra⟩ := s.lst ha eo
    refine ⟨⟨s.frF, s.sub, s.tabs, fun b o e nt ne => s.frame b o e nt ne, fun b hb => ?_⟩, us, hus, rvAll_dats hra hr⟩
    rcases s.nF b hb with z | z | z
    · exact .inl z
    · exact .inr z
    · have z : b = a := z
      rw [z] at hb
      exact absurd fn hb
  · cases hr
theorem okR {n : Str} {N ps : List Str} (Fd : FunD K x qual params body scope [] [] f fd) (S : FnScope (n :: N) ps scope) (hG : ∀ z E, Room k (z.2.1.deeper (envOfC qual scope z.2.2.2.1.heap.objs.size f z.1)) → z.1 = fd.code → PSsD (Cb P w K mg base (n :: N) qual scope f z E) TT (fun cls d _ H => E cls d H) body G) :
    FnOk P w K mg base (L2.CX P w) (k + 1) f fd ps (spR K TT (runR ps.length (N.length + 1) G)) := by
  refine okc Fd S (fun vs H Q E h => ?_) (fun A outer s H vs Q E hr h => ?_)
  · obtain ⟨F, a, us, rows, ws, ds, rfl, _, _, _, _, _, _, h3, h4⟩ := h
    by_cases e : ds.length + 1 = ps.length
    · rw [List.length_cons, dpAll_len h3]; exact e
    · unfold runR at h4
      rw [if_neg e] at h4
      exact h4.elim
  · obtain ⟨F, a, us, rows, ws, ds, rfl, h1, h2, hF, hT, hH, hu, h3, h4⟩ := h
    obtain ⟨⟨t, pt, q⟩⟩ := hG (fd.code, A, outer, s, H) E hr rfl
    refine ⟨t, pt, q ⟨F, H, fun b => b = a⟩ [a] { sl := some (.own 0) :: slots0 N.length ds, ob := [.lst (rows.map Rv.dat)] } F (L2.start (n :: N) (.ref a :: ws)) H _ (Sv.startR h1 h2 hF hT hH hu h3) ?_⟩
    unfold runR at h4
    rw [Nat.add_sub_cancel] at h4
    by_cases e0 : ds.length + 1 = ps.length
    · rw [if_pos e0] at h4
      cases qg : G { sl := some (.own 0) :: slots0 N.length ds, ob := [.lst (rows.map Rv.dat)] } with
      | bad => rw [qg] at h4; exact h4.elim
      | exc x e =>
        rw [qg] at h4
        simp only at h4
        cases qr : rowOf e with
        | none => rw [qr] at h4; exact h4.elim
        | some rows' =>
          rw [qr] at h4
          intro F' al' σ' H' cls dO l s2 hx
          obtain ⟨fr, us', hus', hd'⟩ := s2.toFrR (pre_get l.a rfl) qr
          exact h4 cls dO F' H' us' fr hus' hd' hx
      | ok fl e =>
        rw [qg] at h4
        cases fl with
        | brk => exact h4.elim
        | cnt => exact h4.elim
        | nx =>
          simp only at h4
          cases qr : rowOf e with
          | none => rw [qr] at h4; exact h4.elim
          | some rows' =>
            rw [qr] at h4
            intro F' al' σ' H' l s2
            obtain ⟨fr, us', hus', hd'⟩ := s2.toFrR (pre_get l.a rfl) qr
            exact h4 .non F' H' us' fr hus' hd' .non
        | ret r =>
          simp only at h4
          intro v F' al' σ' H' l s2 hv
          cases qf : frz r e with
          | bad => rw [qf] at h4; exact h4.elim
          | exc _ _ => rw [qf] at h4; exact h4.elim
          | ok d e2 =>
            rw [qf] at h4
            simp only at h4
            cases qr : rowOf e2 with
            | none => rw [qr] at h4; exact h4.elim
            | some rows' =>
              rw [qr] at h4
              obtain ⟨F3, s3, l3, d3⟩ := frz_ok s2 hv qf
              obtain ⟨fr, us', hus', hd'⟩ := s3.toFrR (pre_get l.a rfl) qr
              exact h4 v F3 H' us' fr hus' hd' d3
    · rw [if_neg e0] at h4
      exact h4.elim
end
end Pd

namespace Pd
open PySem PySem.Spec PyProof.Rows L2
/-! ## a generator expression's element: straight code, whatever frames run -/
/-- what stands in a state in which such code runs: m its names, cv its captured ones -/
structure RC (K : PySem.W.Frag) (mg : Str → Option Value) (env : Env) (m : Str → Option Value) (cv : List (Str × V)) (h : Heap) : Prop where
  kind : env.scope.kind = .function
  gl : env.globals = mainGlobals
  bl : env.builtins = builtinsNs
  ns : h.Ns env.locals m
  kin : K.In h
  glob : h.Ns mainGlobals mg
  blt : ∃ mb, h.Ns builtinsNs mb ∧ ∀ x : Str, x ≠ "__name__" → mb x = bootBuiltins x
  lim : h.NoLimit
  cap : ∀ y v, (y, v) ∈ cv → env.kindOf y = some .free ∧ ∃ c u, env.cells.lookup y = some c ∧ h.IsCell c (some u) ∧ RelV v u
theorem RC.up {K : PySem.W.Frag} {mg : Str → Option Value} {env : Env} {m : Str → Option Value} {cv : List (Str × V)} {h h' : Heap} (r : RC K mg env m cv h) (k : ∀ b o, h.get? b = some o → h'.get? b = some o) : RC K mg env m cv h' :=
  ⟨r.kind, r.gl, r.bl, r.ns.keeps k, r.kin.keeps k, r.glob.keeps k, (let ⟨mb, a, b⟩ := r.blt; ⟨mb, a.keeps k, b⟩), r.lim.keeps k, fun y v hm => by
    obtain ⟨a, c, u, e, ⟨o, ho, hd⟩, q⟩ := r.cap y v hm
    exact ⟨a, c, u, e, ⟨o, k _ _ ho, hd⟩, q⟩⟩
def RE (P : Program) (w : World) (K : PySem.W.Frag) (mg : Str → Option Value) (D U : Nat) (env : Env) (m : Str → Option Value) (cv : List (Str × V)) (e : Expr) (p : Value → Prop) : Prop :=
  ∀ (A : Around) (E : Value → Shared → Prop) (s : Shared), A.handled = none → A.depth ≤ D → A.units ≤ U → RC K mg env m cv s.heap → wpAny (model P w) A (eval e env) (fun u s' => p u ∧ Keeps s s') E s
theorem kp_refl (s : Shared) : Keeps s s := ⟨s.heap, s.toks, rfl, fun _ _ e => e⟩
theorem kp_tok (s : Shared) (t : Nat) : Keeps s { s with toks := t } := ⟨s.heap, t, rfl, fun _ _ e => e⟩
theorem kp_trans {s s1 s2 : Shared} (a : Keeps s s1) (b : Keeps s1 s2) : Keeps s s2 := by
  obtain ⟨h1, t1, rfl, k1⟩ := a
  obtain ⟨h2, t2, rfl, k2⟩ := b
  exact ⟨h2, t2, rfl, fun c o e => k2 c o (k1 c o e)⟩
theorem kp_heap {s s' : Shared} (a : Keeps s s') : ∀ b o, s.heap.get? b = some o → s'.heap.get? b = some o := by
  obtain ⟨h1, t1, rfl, k1⟩ := a
  exact k1
section
variable {P : Program} {w : World} {K : PySem.W.Frag} {mg : Str → Option Value} {D U : Nat} {env : Env} {m : Str → Option Value} {cv : List (Str × V)} {a b c : Expr} {pos : Pos} {p q : Value → Prop}
theorem mono3 {α : Type} {M : Model} {A : Around} {t : Sem α} {Q Q' : α → Shared → Prop} {E : Value → Shared → Prop} {s : Shared} (h : wpAny M A t Q E s) (i : ∀ a s, Q a s → Q' a s) : wpAny M A t Q' E s := wpAny_mono h i fun _ _ x => x
theorem re_loc {x : Str} {u : Value} (hk : env.kindOf x = some .local) (hm : m x = some u) (hp : p u) (hd : (x == ("__debug__" : Str)) = false := by decide) : RE P w K mg D U env m cv (.Name x pos) p :=
  fun A E s _ _ _ r => wpAny_Name (wpAny_loadName_local r.kind hk r.ns hm ⟨hp, kp_refl s⟩) hd
theorem re_cap {x : Str} {v : V} (hm : (x, v) ∈ cv) (hp : ∀ u, RelV v u → p u) (hd : (x == ("__debug__" : Str)) = false := by decide) (hcd : (x == ("__classdict__" : Str)) = false := by decide) : RE P w K mg D U env m cv (.Name x pos) p :=
  fun A E s _ _ _ r => by
    obtain ⟨hk, cc, u, e, hc, q⟩ := r.cap x v hm
    exact wpAny_Name (wpAny_loadName_free r.kind hk e hc ⟨hp u q, kp_refl s⟩ hcd) hd
theorem re_int {i : Int} {j} : RE P w K mg D U env m cv (.Constant (.int i) j pos) (fun u => ∃ t, u = .int i t) :=
  fun A E s _ _ _ r => wpAny_Constant_int ⟨⟨_, rfl⟩, kp_tok s _⟩
/-- two in a row -/
theorem re_two {f : Value → Value → Sem Value} {A : Around} {E : Value → Shared → Prop} {s : Shared} {Q : Value → Shared → Prop} (h1 : A.handled = none) (h2 : A.depth ≤ D) (h3 : A.units ≤ U) (r : RC K mg env m cv s.heap) (ha : RE P w K mg D U env m cv a p) (hb : RE P w K mg D U env m cv b q)
    (hf : ∀ u v s', p u → q v → Keeps s s' → wpAny (model P w) A (f u v) Q E s') :
    wpAny (model P w) A (eval a env) (fun u s1 => wpAny (model P w) A (eval b env) (fun v s2 => wpAny (model P w) A (f u v) Q E s2) E s1) E s := by
  refine mono3 (ha A E s h1 h2 h3 r) fun u s1 ⟨pu, k1⟩ => ?_
  refine mono3 (hb A E s1 h1 h2 h3 (r.up (kp_heap k1))) fun v s2 ⟨pv, k2⟩ => ?_
  exact hf u v s2 pu pv (kp_trans k1 k2)
theorem re_sub {i j : Int} (ha : RE P w K mg D U env m cv a (fun u => ∃ t, u = .int i t)) (hb : RE P w K mg D U env m cv b (fun u => ∃ t, u = .int j t)) : RE P w K mg D U env m cv (.BinOp a .Sub b pos) (fun u => ∃ t, u = .int (i - j) t) :=
  fun A E s h1 h2 h3 r => wpAny_BinOp (re_two h1 h2 h3 r ha hb fun u v s' ⟨t, e1⟩ ⟨t', e2⟩ k => by
    subst e1 e2
    exact sub_int ⟨⟨_, rfl⟩, kp_trans k (kp_tok s' _)⟩)
theorem re_cmp {op : CmpOp} {i j : Int} {f : Int → Int → Bool} (rule : ∀ (A : Around) (E : Value → Shared → Prop) (t u : Tok) (Q : Value → Shared → Prop) (s : Shared), Q (.bool (f i j)) s → wpAny (model P w) A (compareOp op (.int i t) (.int j u)) Q E s) (hm : behindInMarks op b = false)
    (ha : RE P w K mg D U env m cv a (fun u => ∃ t, u = .int i t)) (hb : RE P w K mg D U env m cv b (fun u => ∃ t, u = .int j t)) : RE P w K mg D U env m cv (.Compare a [op] [b] pos) (fun u => u = .bool (f i j)) :=
  fun A E s h1 h2 h3 r => wpAny_Compare1 (re_two h1 h2 h3 r ha hb fun u v s' ⟨t, e1⟩ ⟨t', e2⟩ k => by
    subst e1 e2
    exact rule A E t t' _ s' ⟨rfl, k⟩) hm
theorem re_lt {i j : Int} (ha : RE P w K mg D U env m cv a (fun u => ∃ t, u = .int i t)) (hb : RE P w K mg D U env m cv b (fun u => ∃ t, u = .int j t)) : RE P w K mg D U env m cv (.Compare a [.Lt] [b] pos) (fun u => u = .bool (decide (i < j))) :=
  re_cmp (f := fun i j => decide (i < j)) (fun _ _ _ _ _ _ h => lt_int h) (nomark _) ha hb
theorem re_le {i j : Int} (ha : RE P w K mg D U env m cv a (fun u => ∃ t, u = .int i t)) (hb : RE P w K mg D U env m cv b (fun u => ∃ t, u = .int j t)) : RE P w K mg D U env m cv (.Compare a [.LtE] [b] pos) (fun u => u = .bool (decide (i ≤ j))) :=
  re_cmp (f := fun i j => decide (i ≤ j)) (fun _ _ _ _ _ _ h => le_int h) (nomark _) ha hb
/-- x != a number, x of a flat kind -/
theorem re_and {k l : Bool} {rest : List Expr} (ha : RE P w K mg D U env m cv a (fun u => u = .bool k)) (hb : k = true → RE P w K mg D U env m cv (.BoolOp .And (b :: rest) pos) (fun u => u = .bool l)) :
    RE P w K mg D U env m cv (.BoolOp .And (a :: b :: rest) pos) (fun u => u = .bool (k && l)) :=
  fun A E s h1 h2 h3 r => BoolOp_and (mono3 (ha A E s h1 h2 h3 r) fun u s1 ⟨e, k1⟩ => by
    subst e
    refine wpAny_truthy_bool ?_
    cases k with
    | true => exact mono3 (hb rfl A E s1 h1 h2 h3 (r.up (kp_heap k1))) fun v s2 ⟨e2, k2⟩ => ⟨by rw [e2]; rfl, kp_trans k1 k2⟩
    | false => exact ⟨rfl, k1⟩)
theorem re_one {op} (ha : RE P w K mg D U env m cv a p) : RE P w K mg D U env m cv (.BoolOp op [a] pos) p := fun A E s h1 h2 h3 r => BoolOp_one (ha A E s h1 h2 h3 r)
theorem re_not {k : Bool} (ha : RE P w K mg D U env m cv a (fun u => u = .bool k)) : RE P w K mg D U env m cv (.UnaryOp .Not a pos) (fun u => u = .bool (!k)) :=
  fun A E s h1 h2 h3 r => UnaryOp_ (mono3 (ha A E s h1 h2 h3 r) fun u s1 ⟨e, k1⟩ => by
    subst e
    exact not_of (wpAny_truthy_bool ⟨rfl, k1⟩))
theorem re_chain {i j l : Int} (ha : RE P w K mg D U env m cv a (fun u => ∃ t, u = .int i t)) (hb : RE P w K mg D U env m cv b (fun u => ∃ t, u = .int j t)) (hc : RE P w K mg D U env m cv c (fun u => ∃ t, u = .int l t))
    (hm : lastMarks [.LtE, .LtE] [b, c] = false := by with_unfolding_all rfl) : RE P w K mg D U env m cv (.Compare a [.LtE, .LtE] [b, c] pos) (fun u => u = .bool (decide (i ≤ j) && decide (j ≤ l))) :=
  fun A E s h1 h2 h3 r => by
    refine Compare_chain (mono3 (ha A E s h1 h2 h3 r) fun u s1 ⟨⟨t, e⟩, k1⟩ => ?_) hm
    subst e
    have r1 := r.up (kp_heap k1)
    refine chain_link (mono3 (hb A E s1 h1 h2 h3 r1) fun v s2 ⟨⟨t2, e2⟩, k2⟩ => ?_)
    subst e2
    refine le_int (wpAny_truthy_bool ?_)
    have r2 := r1.up (kp_heap k2)
    by_cases hij : i ≤ j
    · rw [decide_eq_true hij]
      refine ite_tt (chain_last (mono3 (hc A E s2 h1 h2 h3 r2) fun v s3 ⟨⟨t3, e3⟩, k3⟩ => ?_))
      subst e3
      exact le_int ⟨by rw [Bool.true_and], kp_trans k1 (kp_trans k2 k3)⟩
    · rw [decide_eq_false hij]
      exact ite_ff ⟨rfl, kp_trans k1 k2⟩
/-- a flat value's type -/
def tyV (v : V) : String := match v with
  | .non => "NoneType"
  | .bl _ => "bool"
  | .int _ => "int"
  | _ => "str"
theorem kit_flat {v : V} {u : Value} (f : flatV v = true) (r : RelV v u) : ∃ H, PySem.W.KitX K u (.type (tyV v)) H ∧ (∀ h, H h) ∧ ∀ z, u ≠ .builtin z := by
  cases v with
  | non => cases r; exact ⟨_, PySem.W.kitx_none, fun _ => True.intro, fun _ z => nomatch z⟩
  | bl y => cases r; exact ⟨_, PySem.W.kitx_bool, fun _ => True.intro, fun _ z => nomatch z⟩
  | int i => obtain ⟨t, q⟩ := r; cases q; exact ⟨_, PySem.W.kitx_int, fun _ => True.intro, fun _ z => nomatch z⟩
  | str y => obtain ⟨t, q⟩ := r; cases q; exact ⟨_, PySem.W.kitx_str, fun _ => True.intro, fun _ z => nomatch z⟩
  | _ => cases f
theorem re_isi {v : V} {y : Str} {n : String} {k : Bool} {p1 p2 : Pos} (f : flatV v = true) (hg : env.kindOf "isinstance" = some .globalImplicit) (hm : mg "isinstance" = none) (hgy : env.kindOf y = some .globalImplicit) (hmy : mg y = none) (hv : bootBuiltins y = some (.type n)) (hk : kitB (tyV v) n = some k)
    (ha : RE P w K mg D U env m cv a (RelV v)) (hny : y ≠ "__name__" := by decide) (hdy : (y == ("__debug__" : Str)) = false := by decide)
    (he : starEach [a, .Name y p2] env = (false, eval a env) :: starEach [.Name y p2] env := by rfl) (he2 : starEach [.Name y p2] env = (false, eval (.Name y p2) env) :: starEach [] env := by rfl) (hpl : (backTo pos (starEach [.Name y p2] env)).any (·.1) = false := by rfl) :
    RE P w K mg D U env m cv (.Call (.Name "isinstance" p1) [a, .Name y p2] [] pos) (fun u => u = .bool k) := fun A E s h1 h2 h3 r => by
  obtain ⟨mb, hb, hbb⟩ := r.blt
  refine wpAny_Call_Name_kw (Calls.Name_function_global r.kind hg (Calls.loadGlobal_builtin (by rw [r.gl]; exact r.glob) hm (by rw [r.bl]; exact hb) ((hbb _ (by decide)).trans boot_isinstance) ?_))
  refine PyProof.Rows.callWith_builtin1 ?_ he hpl
  rw [he]
  show wpAny _ _ (spliced ((false, eval a env) :: backTo pos (starEach [.Name y p2] env))) _ _ s
  refine Calls.spliced_cons (mono3 (ha A E s h1 h2 h3 r) fun u s1 ⟨ru, k1⟩ => ?_)
  rw [he2]
  show wpAny _ _ (spliced ((false, eval (.Name y p2) env) :: backTo pos (starEach [] env))) _ _ s1
  have r1 := r.up (kp_heap k1)
  obtain ⟨mb1, hb1, hbb1⟩ := r1.blt
  refine Calls.spliced_cons (Calls.Name_function_global r1.kind hgy (Calls.loadGlobal_builtin (by rw [r1.gl]; exact r1.glob) hmy (by rw [r1.bl]; exact hb1) ((hbb1 _ hny).trans hv) ?_) hdy)
  refine Calls.spliced_nil ?_
  obtain ⟨H, Z, hH, hx⟩ := kit_flat (K := K) f ru
  exact PySem.W.kia_one Z r1.kin (hH _) (kit_ty hk) (hx _) fun tk => ⟨rfl, kp_trans k1 (kp_tok s1 tk)⟩
theorem kb_ii : kitB "int" "int" = some true := by decide +kernel
theorem kb_ib : kitB "int" "bool" = some false := by decide +kernel
theorem kb_bi : kitB "bool" "int" = some true := by decide +kernel
theorem kb_bb : kitB "bool" "bool" = some true := by decide +kernel
theorem kb_ni : kitB "NoneType" "int" = some false := by decide +kernel
theorem kb_nb : kitB "NoneType" "bool" = some false := by decide +kernel
theorem kb_si : kitB "str" "int" = some false := by decide +kernel
theorem kb_sb : kitB "str" "bool" = some false := by decide +kernel
/-- is_number's answer -/
def isNumV (v : V) (lo hi : Int) : Bool := match v with
  | .int i => decide (lo ≤ i) && decide (i ≤ hi)
  | _ => false
/-- is_number(e, lo, hi), the def as the program has it -/
theorem re_isnum {v : V} {lo hi : Int} {f : Addr} {x qual : Str} {params : Arguments} {body : List Stmt} {scope : Scope} {fd : FuncData} {p1 p2 p3 p4 p5 p6 p7 p8 p9 p10 p11 p12 p13 p14 p15 p0 : Pos} (Fd : FunD K x qual params body scope [] [] f fd)
    (hbody : body = [.Return (some (.BoolOp .And [.Call (.Name "isinstance" p1) [.Name "value" p2, .Name "int" p3] [] p4, .UnaryOp .Not (.Call (.Name "isinstance" p5) [.Name "value" p6, .Name "bool" p7] [] p8) p9, .Compare (.Name "low" p10) [.LtE, .LtE] [.Name "value" p11, .Name "high" p12] p13] p14)) p15])
    (S : FnScope ["value", "low", "high"] ["value", "low", "high"] scope) (hb : Binds K fd ["value", "low", "high"] []) (hl : ∀ y ∈ (["value", "low", "high"] : List Str), scope.names.lookup y = some .local)
    (hgl : ∀ y ∈ (["isinstance", "int", "bool"] : List Str), scope.names.lookup y = some .globalImplicit) (hm1 : mg "isinstance" = none) (hm2 : mg "int" = none) (hm3 : mg "bool" = none)
    (fl : flatV v = true) (hD : D + 1 < recursionLimit) (hg : env.kindOf "is_number" = some .globalImplicit) (hm : mg "is_number" = some (.ref f))
    (ha : RE P w K mg D U env m cv a (RelV v)) (hlo : RE P w K mg D U env m cv b (fun u => ∃ t, u = .int lo t)) (hhi : RE P w K mg D U env m cv c (fun u => ∃ t, u = .int hi t))
    (he : starEach [a, b, c] env = (false, eval a env) :: starEach [b, c] env := by rfl) (he2 : starEach [b, c] env = (false, eval b env) :: starEach [c] env := by rfl) (he3 : starEach [c] env = (false, eval c env) :: starEach [] env := by rfl) (hpl : (backTo pos (starEach [b, c] env)).any (·.1) = false := by rfl) :
    RE P w K mg D U env m cv (.Call (.Name "is_number" p0) [a, b, c] [] pos) (fun u => u = .bool (isNumV v lo hi)) := fun A E s h1 h2 h3 r => by
  have hkp := Fd.kp
  obtain ⟨oc, od, dV, kV, doc, pm, an, cdv, ct, osl, rfl, lk, hcd, hdf, hkw⟩ := Fd.ex
  refine wpAny_Call_Name_kw (Calls.Name_function_global r.kind hg (Calls.loadGlobal_global (by rw [r.gl]; exact r.glob) hm ?_))
  refine PySem.W.callWith_K (h₀ := s.heap) r.kin hkp ?_ he hpl
  rw [he]
  show wpAny _ _ (spliced ((false, eval a env) :: backTo pos (starEach [b, c] env))) _ _ s
  refine Calls.spliced_cons (mono3 (ha A E s h1 h2 h3 r) fun u1 s1 ⟨ru, k1⟩ => ?_)
  have r1 := r.up (kp_heap k1)
  rw [he2]
  show wpAny _ _ (spliced ((false, eval b env) :: backTo pos (starEach [c] env))) _ _ s1
  refine Calls.spliced_cons (mono3 (hlo A E s1 h1 h2 h3 r1) fun u2 s2 ⟨⟨t2, e2⟩, k2⟩ => ?_)
  have r2 := r1.up (kp_heap k2)
  rw [he3]
  show wpAny _ _ (spliced ((false, eval c env) :: backTo pos (starEach [] env))) _ _ s2
  refine Calls.spliced_cons (mono3 (hhi A E s2 h1 h2 h3 r2) fun u3 s3 ⟨⟨t3, e3⟩, k3⟩ => ?_)
  have r3 := r2.up (kp_heap k3)
  have k0 := kp_trans k1 (kp_trans k2 k3)
  subst e2 e3
  refine Calls.spliced_nil ⟨r3.kin, ?_⟩
  have hbind := hb s3 [u1, .int lo t2, .int hi t3] r3.kin rfl
  rw [List.append_nil] at hbind
  have hroom : A.depth < recursionLimit := by omega
  refine wpAny_call (Att.call_fn (binds := (["value", "low", "high"] : List Str).zip [u1, .int lo t2, .int hi t3]) r3.kin r3.lim lk hcd hroom hbind ?_ (fun s4 IC => ?_) S.co S.gen S.kind)
  · simp only [List.all_eq_true]
    intro z hz
    have hm : z.1 ∈ (["value", "low", "high"] : List Str) := (List.of_mem_zip hz).1
    rw [hl z.1 hm]
    rfl
  · subst hbody
    have kI := IC.toInCall.keep
    have hn := IC.toInCall.ns
    obtain ⟨h4, t4, e4⟩ := IC.toInCall.same
    have kp4 : Keeps s3 s4 := ⟨h4, t4, e4, by rw [e4] at kI; exact kI⟩
    have hk : ∀ y : Str, (envOfC qual scope s3.heap.objs.size f cdv).kindOf y = scope.names.lookup y := fun _ => rfl
    have ndp : (["value", "low", "high"] : List Str).Nodup := S.nd
    have look : ∀ (i : Nat) (y : Str) (u : Value), (["value", "low", "high"] : List Str)[i]? = some y → ([u1, .int lo t2, .int hi t3] : List Value)[i]? = some u → bindL (envOfC qual scope s3.heap.objs.size f cdv).kindOf ((["value", "low", "high"] : List Str).zip [u1, .int lo t2, .int hi t3]) (fun _ => none) y = some u := fun i y u q1 q2 =>
      bindL_get ndp q1 q2 (by rw [hk]; exact hl y (List.mem_of_getElem? q1))
    have rc : RC K mg (envOfC qual scope s3.heap.objs.size f cdv) (bindL (envOfC qual scope s3.heap.objs.size f cdv).kindOf ((["value", "low", "high"] : List Str).zip [u1, .int lo t2, .int hi t3]) (fun _ => none)) [] s4.heap :=
      ⟨S.kind, rfl, rfl, hn, r3.kin.keeps kI, r3.glob.keeps kI, (let ⟨mb, x1, x2⟩ := r3.blt; ⟨mb, x1.keeps kI, x2⟩), r3.lim.keeps kI, fun y v z => by cases z⟩
    have lval : ∀ {pp : Pos}, RE P w K mg (D + 1) (U + 3) (envOfC qual scope s3.heap.objs.size f cdv) (bindL (envOfC qual scope s3.heap.objs.size f cdv).kindOf ((["value", "low", "high"] : List Str).zip [u1, .int lo t2, .int hi t3]) (fun _ => none)) [] (.Name "value" pp) (RelV v) :=
      re_loc (by rw [hk]; exact hl _ (by simp)) (look 0 _ _ rfl rfl) ru
    have llo : ∀ {pp : Pos}, RE P w K mg (D + 1) (U + 3) (envOfC qual scope s3.heap.objs.size f cdv) (bindL (envOfC qual scope s3.heap.objs.size f cdv).kindOf ((["value", "low", "high"] : List Str).zip [u1, .int lo t2, .int hi t3]) (fun _ => none)) [] (.Name "low" pp) (fun u => ∃ t, u = .int lo t) :=
      re_loc (by rw [hk]; exact hl _ (by simp)) (look 1 _ _ rfl rfl) ⟨_, rfl⟩
    have lhi : ∀ {pp : Pos}, RE P w K mg (D + 1) (U + 3) (envOfC qual scope s3.heap.objs.size f cdv) (bindL (envOfC qual scope s3.heap.objs.size f cdv).kindOf ((["value", "low", "high"] : List Str).zip [u1, .int lo t2, .int hi t3]) (fun _ => none)) [] (.Name "high" pp) (fun u => ∃ t, u = .int hi t) :=
      re_loc (by rw [hk]; exact hl _ (by simp)) (look 2 _ _ rfl rfl) ⟨_, rfl⟩
    have g1 : (envOfC qual scope s3.heap.objs.size f cdv).kindOf "isinstance" = some .globalImplicit := by rw [hk]; exact hgl _ (by simp)
    have g2 : (envOfC qual scope s3.heap.objs.size f cdv).kindOf "int" = some .globalImplicit := by rw [hk]; exact hgl _ (by simp)
    have g3 : (envOfC qual scope s3.heap.objs.size f cdv).kindOf "bool" = some .globalImplicit := by rw [hk]; exact hgl _ (by simp)
    have key : RE P w K mg (D + 1) (U + 3) (envOfC qual scope s3.heap.objs.size f cdv) (bindL (envOfC qual scope s3.heap.objs.size f cdv).kindOf ((["value", "low", "high"] : List Str).zip [u1, .int lo t2, .int hi t3]) (fun _ => none)) []
        (.BoolOp .And [.Call (.Name "isinstance" p1) [.Name "value" p2, .Name "int" p3] [] p4, .UnaryOp .Not (.Call (.Name "isinstance" p5) [.Name "value" p6, .Name "bool" p7] [] p8) p9, .Compare (.Name "low" p10) [.LtE, .LtE] [.Name "value" p11, .Name "high" p12] p13] p14) (fun u => u = .bool (isNumV v lo hi)) := by
      cases v with
      | non => exact re_and (k := false) (l := true) (re_isi (n := "int") fl g1 hm1 g2 hm2 boot_int kb_ni lval) (fun z => nomatch z)
      | str y => exact re_and (k := false) (l := true) (re_isi (n := "int") fl g1 hm1 g2 hm2 boot_int kb_si lval) (fun z => nomatch z)
      | bl y => exact re_and (k := true) (l := false) (re_isi (n := "int") fl g1 hm1 g2 hm2 boot_int kb_bi lval) fun _ => re_and (k := false) (l := true) (re_not (k := true) (re_isi (n := "bool") fl g1 hm1 g3 hm3 boot_bool kb_bb lval)) fun z => nomatch z
      | int i =>
        have lval' : ∀ {pp : Pos}, RE P w K mg (D + 1) (U + 3) (envOfC qual scope s3.heap.objs.size f cdv) (bindL (envOfC qual scope s3.heap.objs.size f cdv).kindOf ((["value", "low", "high"] : List Str).zip [u1, .int lo t2, .int hi t3]) (fun _ => none)) [] (.Name "value" pp) (fun u => ∃ t, u = .int i t) := lval
        exact re_and (k := true) (l := decide (lo ≤ i) && decide (i ≤ hi)) (re_isi (n := "int") fl g1 hm1 g2 hm2 boot_int kb_ii lval) fun _ => re_and (k := true) (l := decide (lo ≤ i) && decide (i ≤ hi)) (re_not (k := false) (re_isi (n := "bool") fl g1 hm1 g3 hm3 boot_bool kb_ib lval)) fun _ => re_one (re_chain llo lval' lhi)
      | _ => cases fl
    show wpAny _ _ (execs _ _) _ _ _
    refine wpAny_execs_cons (wpAny_Return_some (mono3 (key _ _ s4 h1 (by show A.depth + 1 ≤ D + 1; omega) (by show A.units + 3 ≤ U + 3; omega) rc) fun u s5 ⟨e5, k5⟩ => ?_))
    exact ⟨e5, kp_trans k0 (kp_trans kp4 k5)⟩
end
end Pd

namespace Pd
open PySem PySem.Spec PyProof.Rows L2 GxR
/-! ## all, any of a generator expression -/
/-- the generator's names: its own, those captured of the def -/
structure GS (sc scope : Scope) : Prop where
  kind : scope.kind = .function
  co : scope.isCoroutine = false
  cell : ∀ y ∈ scope.names, y.2 ≠ .cell
  dot : scope.names.lookup (".0" : Str) = some NameKind.local
  free : ∀ y ∈ scope.names, y.2 = .free → sc.names.lookup y.1 = some .cell ∨ sc.names.lookup y.1 = some .free
section
variable {X : Cx} {pins : List (Addr × Obj)} {σ : L2.St} {H H1 : Hp} {s s1 : Shared} {P c : Addr} {scope : Scope}
theorem GS.cl (S : GS X.env.scope scope) (I : Inv X pins σ H s) : ∀ y ∈ scope.names, y.2 = .free → ∃ c, X.env.cells.lookup y.1 = some c := fun y hy e => I.ok.has y.1 (S.free y hy e)
/-- what the captured names hold -/
def CapOk (X : Cx) (scope : Scope) (σ : L2.St) (cv : List (Str × V)) : Prop :=
  ∀ y v, (y, v) ∈ cv → scope.names.lookup y = some .free ∧ ∃ i : Nat, X.N[i]? = some y ∧ σ[i]? = some (some v)
theorem gen_rc {cv : List (Str × V)} {C : Addr} {code : Value} {h' : Heap} {m : Str → Option Value} (S : GS X.env.scope scope) (I : Inv X pins σ H s) (hP : ∀ b, H b = none → b ≠ P) (hc : CapOk X scope σ cv) (kk : ∀ b o, b ≠ P → s.heap.get? b = some o → h'.get? b = some o) (hn : h'.Ns C m) :
    RC X.K X.mg (genEnv scope (cloFrom X.env.cells scope.names []) C code builtinsNs X.env) m cv h' := by
  have kb : ∀ b o, X.base.get? b = some o → h'.get? b = some o := fun b o e => kk b o (hP b (I.bs b o e).2) (I.bk b o e)
  obtain ⟨mb, x1, x2⟩ := I.mod.blt
  refine ⟨S.kind, I.ok.glob, rfl, hn, I.mod.kin.keeps kb, I.mod.glob.keeps kb, ⟨mb, x1.keeps kb, x2⟩, I.mod.nolimit.keeps kb, fun y v hm => ?_⟩
  obtain ⟨hf, i, hi, hs⟩ := hc y v hm
  refine ⟨hf, ?_⟩
  have hmem := PySem.mem_of_lookup hf
  have hk := S.free _ hmem rfl
  obtain ⟨mm, _, hl⟩ := I.loc
  obtain ⟨u, r, lk⟩ := hl i y v hi hs (by rcases hk with z | z; exact .inr (.inl z); exact .inr (.inr z))
  rcases lk with ⟨z, _⟩ | ⟨_, cc, e, ic⟩
  · have z' : X.env.scope.names.lookup y = some .local := z
    rcases hk with q | q
    · rw [q] at z'; cases z'
    · rw [q] at z'; cases z'
  · refine ⟨cc, u, NdefX.clo_has (S.cl I) hmem e, ?_, r⟩
    obtain ⟨o, ho, hd⟩ := ic
    exact ⟨o, kk cc o (hP cc (I.freeC y cc e)) ho, hd⟩
/-- the code object: found, or made -/
theorem gen_mid {gpos : Pos} {qn : Str} {h2 : Heap} {R : Value → Addr → Shared → Prop} {ps : Array Value} (TB : TabB X.base X.mg c P) (hcode : X.env.code = .ref c) (I1 : Inv X pins σ H1 s1) (hP : H1 P = some (.tbl ps)) (ht : TriplesOk ps.toList)
    (hk2 : ∀ b o, s1.heap.get? b = some o → h2.get? b = some o)
    (h : ∀ code h4 tk more, (∀ b o, b ≠ P → h2.get? b = some o → h4.get? b = some o) → h2.objs.size ≤ h4.objs.size → h4.get? P = some { cls := .none, data := .fields (ps ++ more) } → TriplesOk (ps ++ more).toList → R code builtinsNs { s1 with heap := h4, toks := tk }) :
    wpAny (model X.prog X.w) X.A (genexprCode X.env gpos qn scope) (fun code s3 => wpAny (model X.prog X.w) X.A (builtinsFor X.env.globals X.env.builtins) (fun bi s4 => R code bi s4) X.xe s3) X.xe { s1 with heap := h2 } := by
  have hP1 : s1.heap.get? P = some { cls := .none, data := .fields ps } := I1.hok P _ hP
  have hP2 : h2.get? P = some { cls := .none, data := .fields ps } := hk2 _ _ hP1
  have cd : PySem.W.CodeHd h2 c P := TB.code.keeps fun b u e => hk2 _ _ (I1.bk b u e)
  obtain ⟨bm, ob, e1, e2, e3, e4, e5, e6, e7, e8⟩ := TB.bm
  have fin : ∀ (code : Value) (h4 : Heap) (tk : Nat) (more : Array Value), (∀ b o, b ≠ P → h2.get? b = some o → h4.get? b = some o) → h2.objs.size ≤ h4.objs.size → h4.get? P = some { cls := .none, data := .fields (ps ++ more) } → TriplesOk (ps ++ more).toList →
      wpAny (model X.prog X.w) X.A (builtinsFor X.env.globals X.env.builtins) (fun bi s4 => R code bi s4) X.xe { s1 with heap := h4, toks := tk } := fun code h4 tk more a1 a2 a3 a4 => by
    have glob4 : h4.Ns mainGlobals X.mg := by
      obtain ⟨o', es, ep, ho, r⟩ := I1.mod.glob
      exact ⟨o', es, ep, a1 _ _ TB.gP (hk2 _ _ (I1.bk _ _ ho)), r⟩
    refine wpAny_builtinsFor (m := X.mg) (by rw [I1.ok.glob]; exact glob4) e1 e2 (a1 _ _ e4 (hk2 _ _ (I1.bk _ _ e5))) e6 e7 e8 ?_
    exact h code h4 tk more a1 a2 a3 a4
  cases hf : codeAmong gpos ps.toList with
  | none =>
    refine wpAny_genexprCodeX (s := { s1 with heap := h2 }) hcode (cd.code hP2 ht) (cd.tab hP2) hf fun c' h' tk hx hge hlt hco' _ htab' _ => ?_
    obtain ⟨o1, vs, f1, tf, fl, tg, inF, tx, tt, op, _, _, _, _, _, _, _, _, _, htr, _⟩ := hco'
    exact fin _ h' tk _ (fun b o nb e => hx b o nb e) (Nat.le_trans hge (Nat.le_of_lt hlt)) htab'.2 htr
  | some cv =>
    refine wpAny_genexprCode_hit (s := { s1 with heap := h2 }) hcode (cd.code hP2 ht) hf ?_
    exact fin cv h2 s1.toks #[] (fun b o _ e => e) (Nat.le_refl _) (by simpa using hP2) (by simpa using ht)
/-- the made generator, ready to be walked -/
def Rdy (X : Cx) (pins : List (Addr × Obj)) (σ : L2.St) (H1 : Hp) (P : Addr) (bs : List Bool) (g : Addr) (s5 : Shared) : Prop :=
  ∃ (fp wr : List Addr) (G : Array GenState → Array GenState → Prop) (F : Nat → Value → Prop) (St : Nat → Shared → Prop),
    WalksS X.prog X.w X.A.in1 g fp wr G bs.length F St ∧ St 0 s5 ∧ TruthOf X.prog X.w X.A.in1 F (fun i => bs.getD i false) ∧ ∀ s', Moved wr G s5 s' → ∃ H2, Tabbed P H1 H2 ∧ Inv X pins σ H2 s'
theorem rdy_of {bs : List Bool} {wr : List Addr} {h4 : Heap} {ps more : Array Value} {g : Addr} {gs : GenState} {h5 : Heap} {tk5 : Nat} {gfp : List Addr} {St : Nat → Shared → Prop} {C gz : Nat} {F : Nat → Value → Prop} (hF : ∀ i y, i < bs.length → F i y → y = .bool (bs.getD i false)) (I1 : Inv X pins σ H1 s1) (hP : H1 P = some (.tbl ps)) (hk4 : ∀ b o, b ≠ P → s1.heap.get? b = some o → h4.get? b = some o) (hP4 : h4.get? P = some { cls := .none, data := .fields (ps ++ more) }) (ht : TriplesOk (ps ++ more).toList)
    (hwr : ∀ b ∈ wr, s1.heap.objs.size ≤ b) (hC : s1.heap.objs.size ≤ C) (hgb : gs.bare = true) (hk5 : ∀ b o, h4.get? b = some o → h5.get? b = some o)
    (W5 : WalksS X.prog X.w X.A.in4 g gfp (C :: wr) (GenOnlyQ gz) (passing (fun _ => true) bs.length 0).length (fun j y => ∃ i, (passing (fun _ => true) bs.length 0)[j]? = some i ∧ F i y) St)
    (hst : St 0 { s1 with heap := h5, toks := tk5, gens := s1.gens.push gs }) : Rdy X pins σ H1 P bs g { s1 with heap := h5, toks := tk5, gens := s1.gens.push gs } := by
  simp only [GxR.passing_true, List.length_range] at W5
  refine ⟨_, _, _, _, _, W5.in4_1, hst, ?_, fun s' hm => ?_⟩
  · intro j y sj Qj Ej hy hQj
    obtain ⟨i, hij, hf⟩ := hy
    obtain ⟨hj, ej⟩ := List.getElem?_eq_some_iff.mp hij
    rw [List.getElem_range] at ej
    subst ej
    rw [List.length_range] at hj
    have e := hF _ y hj hf
    subst e
    exact wpAny_truthy_bool hQj
  · have nwr : ∀ b u, s1.heap.get? b = some u → b ∉ C :: wr := fun b u e hb => by
      have hl := Heap.lt_size e
      rcases List.mem_cons.mp hb with z | z
      · subst z; exact Nat.lt_irrefl _ (Nat.lt_of_lt_of_le hl hC)
      · exact Nat.lt_irrefl _ (Nat.lt_of_lt_of_le hl (hwr b z))
    have hPs : s1.heap.get? P = some { cls := .none, data := .fields ps } := I1.hok P _ hP
    have J := inv_tab (more := more) (h' := s'.heap) (g' := s'.gens) (d' := s'.drawn) (t' := s'.toks) I1 hP (fun b u hb e => hm.heap b u (nwr b u e) (hk5 b u (hk4 b u hb e)))
      (hm.heap P _ (nwr P _ hPs) (hk5 P _ hP4)) (AllBare.movedS (I1.bare.push hgb) hm)
    rw [sh_eta s1 s' hm.os] at J
    exact ⟨upd H1 P (.tbl (ps ++ more)), ⟨⟨ps ++ more, upd_same, ht⟩, fun b hb => upd_ne hb⟩, J⟩
/-- a walk's read -/
def quant (q : Bool) (bs : List Bool) : Bool := if q then bs.all id else bs.any id
theorem range_all (bs : List Bool) : (List.range bs.length).all (fun i => bs.getD i false) = bs.all id := by
  rw [Bool.eq_iff_iff, List.all_eq_true, List.all_eq_true]
  constructor
  · intro h b hb
    obtain ⟨j, hj, e⟩ := List.getElem_of_mem hb
    have q := h j (List.mem_range.mpr hj)
    rw [List.getD_eq_getElem?_getD, List.getElem?_eq_getElem hj] at q
    rw [← e]; exact q
  · intro h j hj
    have hj' := List.mem_range.mp hj
    rw [List.getD_eq_getElem?_getD, List.getElem?_eq_getElem hj']
    exact h _ (List.getElem_mem hj')
theorem range_any (bs : List Bool) : (List.range bs.length).any (fun i => bs.getD i false) = bs.any id := by
  rw [Bool.eq_iff_iff, List.any_eq_true, List.any_eq_true]
  constructor
  · intro ⟨j, hj, h⟩
    have hj' := List.mem_range.mp hj
    rw [List.getD_eq_getElem?_getD, List.getElem?_eq_getElem hj'] at h
    exact ⟨bs[j], List.getElem_mem hj', h⟩
  · intro ⟨b, hb, h⟩
    obtain ⟨j, hj, e⟩ := List.getElem_of_mem hb
    refine ⟨j, List.mem_range.mpr hj, ?_⟩
    rw [List.getD_eq_getElem?_getD, List.getElem?_eq_getElem hj, Option.getD_some, e]
    exact h
def qNam (q : Bool) : Str := if q then "all" else "any"
def qBlt (q : Bool) : String := if q then "all" else "any"
/-- all or any called with what a generator is -/
theorem quant_call {q : Bool} {ge : Expr} {p pos : Pos} (hg : Gl X (qNam q)) (hm : X.mg (qNam q) = none) (hb : bootBuiltins (qNam q) = some (.builtin (qBlt q))) (he : starEach [ge] X.env = (false, eval ge X.env) :: starEach [] X.env) {K2 : L2.VK}
    (h : ∀ Q', (∀ (g : Addr) (s5 : Shared) (bs : List Bool) (H1 : Hp) , Rdy X pins σ H1 P bs g s5 → (∀ H2, Tabbed P H1 H2 → K2 (.bl (quant q bs)) H2) → Q' (.ref g) s5) → wpAny (model X.prog X.w) X.A (eval ge X.env) Q' X.xe s) (I : Inv X pins σ H s) (hn : qNam q ≠ "__name__") (hd : (qNam q == ("__debug__" : Str)) = false) :
    wpAny (model X.prog X.w) X.A (eval (.Call (.Name (qNam q) p) [ge] [] pos) X.env) (fun u s' => ∃ v H', Inv X pins σ H' s' ∧ RelV v u ∧ K2 v H') X.xe s := by
  refine wpAny_Call_Name_kw (ld_blt I hg hm hb ?_ hn hd)
  refine PyProof.Rows.callWith_builtin1 ?_ he (by rfl)
  rw [he]
  show wpAny _ _ (spliced ((false, eval ge X.env) :: backTo pos (starEach [] X.env))) _ _ s
  refine Calls.spliced_cons (h _ fun g s5 bs H1 hG hK => ?_)
  obtain ⟨fp, wr, G, F, St, W, hst, htr, hI⟩ := hG
  refine Calls.spliced_nil ?_
  cases q with
  | true =>
    refine call_all_walkS (W.self 0 _ _ _ hst ⟨g, fp, wr, G, _, F, St, _, rfl, W, hst, htr, fun s' hmv => ?_⟩)
    obtain ⟨H2, hT, J⟩ := hI s' hmv
    exact ⟨.bl _, H2, J, rfl, by rw [range_all]; exact hK H2 hT⟩
  | false =>
    refine call_any_walkS (W.self 0 _ _ _ hst ⟨g, fp, wr, G, _, F, St, _, rfl, W, hst, htr, fun s' hmv => ?_⟩)
    obtain ⟨H2, hT, J⟩ := hI s' hmv
    exact ⟨.bl _, H2, J, rfl, by rw [range_any]; exact hK H2 hT⟩
end
end Pd

namespace Pd
open PySem PySem.Spec PyProof.Rows L2 GxR
section
variable {X : Cx} {P c : Addr} {scope : Scope} {elt iter : Expr} {x xa xb : Str} {px pa pb pt p pos gpos zp zpos : Pos} {kt k : Nat} {q : Bool}
def teQ1 (X : Cx) (P : Addr) (scope : Scope) (x : Str) (elt : Expr) (q : Bool) (t : TE) : TE := fun σ H Q => t σ H fun v H1 => ∃ (a : Addr) (xs : List V) (ps : Array Value) (cv : List (Str × V)) (bs : List Bool), v = .ref a ∧ SqT X.K H1 a xs ∧ H1 P = some (.tbl ps) ∧ TriplesOk ps.toList ∧ CapOk X scope σ cv ∧ bs.length = xs.length ∧
  (∀ (i : Nat) (w : V) (b : Bool), xs[i]? = some w → bs[i]? = some b → ∀ (cenv : Env) (m : Str → Option Value) (u : Value), cenv.scope = scope → RelV w u → m x = some u → RE X.prog X.w X.K X.mg (X.A.depth + 1) (X.A.units + 8) cenv m cv elt (fun y => y = .bool b)) ∧ ∀ H2, Tabbed P H1 H2 → Q (.bl (quant q bs)) H2
def teQ2 (X : Cx) (P : Addr) (scope : Scope) (xa xb : Str) (elt : Expr) (q : Bool) (t : TA) : TE := fun σ H Q => t σ H fun us H1 => ∃ (a b : Addr) (xs ys : List V) (ps : Array Value) (cv : List (Str × V)) (bs : List Bool), us = [.ref a, .ref b] ∧ SqT X.K H1 a xs ∧ SqT X.K H1 b ys ∧ H1 P = some (.tbl ps) ∧ TriplesOk ps.toList ∧ CapOk X scope σ cv ∧ bs.length = min xs.length ys.length ∧
  (∀ (i : Nat) (w z : V) (b : Bool), xs[i]? = some w → ys[i]? = some z → bs[i]? = some b → ∀ (cenv : Env) (m : Str → Option Value) (u u2 : Value), cenv.scope = scope → RelV w u → RelV z u2 → m xa = some u → m xb = some u2 → RE X.prog X.w X.K X.mg (X.A.depth + 1) (X.A.units + 8) cenv m cv elt (fun y => y = .bool b)) ∧ ∀ H2, Tabbed P H1 H2 → Q (.bl (quant q bs)) H2
theorem vals_getR {xs : List V} {us : List Value} (r : Vals xs us) {i : Nat} {u : Value} (e : us[i]? = some u) : ∃ w, xs[i]? = some w ∧ RelV w u := by
  have hl : i < xs.length := by rw [r.length]; exact (List.getElem?_eq_some_iff.mp e).1
  obtain ⟨u2, e2, rw_⟩ := r.get (List.getElem?_eq_getElem hl)
  rw [e] at e2
  cases e2
  exact ⟨_, List.getElem?_eq_getElem hl, rw_⟩
theorem getD_some {bs : List Bool} {i : Nat} {b : Bool} (h : bs[i]? = some b) : bs.getD i false = b := by rw [List.getD_eq_getElem?_getD, h]; rfl
theorem tupNe {h : Heap} {a P : Addr} {its ps : Array Value} (t : h.IsTuple a its) (hp : h.get? P = some { cls := .none, data := .fields ps }) : a ≠ P := fun e => by
  obtain ⟨o, ho, hc, _⟩ := t
  rw [e, hp] at ho
  cases ho
  cases hc
theorem noLim {pins : List (Addr × Obj)} {σ : L2.St} {H1 : Hp} {s1 : Shared} {h' : Heap} (I1 : Inv X pins σ H1 s1) (hP : ∀ b, H1 b = none → b ≠ P) (kk : ∀ b o, b ≠ P → s1.heap.get? b = some o → h'.get? b = some o) : h'.NoLimit :=
  I1.mod.nolimit.keeps fun b o e => kk b o (hP b (I1.bs b o e).2) (I1.bk b o e)
theorem pe_q1 {t : TE} (hr : Room k X.A) (hg : Gl X (qNam q)) (hm : X.mg (qNam q) = none) (hb : bootBuiltins (qNam q) = some (.builtin (qBlt q))) (TB : TabB X.base X.mg c P) (hcode : X.env.code = .ref c) (S : GS X.env.scope scope) (hx : scope.names.lookup x = some .local) (hi : PE X iter t)
    (hs : ∀ v, genFold iter X.env v = pure v) (hn : qNam q ≠ "__name__") (hd : (qNam q == ("__debug__" : Str)) = false)
    (he : starEach [.GeneratorExp elt [⟨.Name x px, iter, [], 0⟩] scope gpos] X.env = (false, eval (.GeneratorExp elt [⟨.Name x px, iter, [], 0⟩] scope gpos) X.env) :: starEach [] X.env) :
    PE X (.Call (.Name (qNam q) p) [.GeneratorExp elt [⟨.Name x px, iter, [], 0⟩] scope gpos] [] pos) (teQ1 X P scope x elt q t) := by
  refine ⟨fun pins s σ H Q I h => ?_⟩
  refine quant_call (P := P) hg hm hb he (fun Q' hQ' => ?_) I hn hd
  refine wpAny_GeneratorExp_walksQD hr.hd S.co (closure_ok (S.cl I)) S.cell S.dot hx S.kind (by have := hr.dp; omega) ?_ hs
  refine thn (hi.run pins s σ H _ I h) fun xv s1 ⟨v, H1, I1, r1, q1⟩ => ?_
  obtain ⟨a, xs, ps, cv, bs, rfl, hq, hP, ht, hc, hl, hel, hK⟩ := q1
  have r1' : xv = .ref a := r1
  subst r1'
  obtain ⟨its, rv, p1, _⟩ := I1.tuple hq
  have p2 : s1.heap.IsTuple a its.toArray := p1
  have hPn : ∀ b, H1 b = none → b ≠ P := fun b e z => by rw [z, hP] at e; cases e
  have hP1 : s1.heap.get? P = some { cls := .none, data := .fields ps } := I1.hok P _ hP
  have hPlt : P < s1.heap.objs.size := Heap.lt_size hP1
  have halt : a < s1.heap.objs.size := let ⟨_, ho, _⟩ := p2; Heap.lt_size ho
  have hcl : cStatics < s1.heap.objs.size := let ⟨_, hns, _⟩ := I1.nolimit; hns.lt
  refine wpAny_pyIter_tuple p2 ⟨I1.nolimit.push _, ?_⟩
  refine gen_mid TB hcode I1 hP ht (fun b o e => Heap.get?_push_of_some _ e) fun code h4 tk more a1 a2 a3 a4 => ?_
  have kk4 : ∀ b o, b ≠ P → s1.heap.get? b = some o → h4.get? b = some o := fun b o nb e => a1 b o nb (Heap.get?_push_of_some _ e)
  have sz4 : s1.heap.objs.size + 1 ≤ h4.objs.size := by rw [Heap.size_push] at a2; exact a2
  have hlen : bs.length = its.toArray.size := by rw [hl, rv.length]; simp
  refine ⟨s1.heap.objs.size, [s1.heap.objs.size, a], [s1.heap.objs.size], bs.length, (fun i v => its.toArray[i]? = some v), (fun i h => h.IsTupleIter s1.heap.objs.size a i ∧ h.IsTuple a its.toArray), (fun _ => true), (fun i y => ∃ b, bs[i]? = some b ∧ y = .bool b), rfl, fun A' hA => by rw [hlen]; exact Walks.tuple hA s1.heap.objs.size a (Nat.ne_of_lt halt) its.toArray, ⟨⟨_, a1 _ _ (Nat.ne_of_gt hPlt) (Heap.get?_push_size _ rfl), rfl, rfl⟩, p2.at fun o e => kk4 a o (tupNe p2 hP1) e⟩, ?_, noLim I1 hPn kk4, ?_, ?_, ?_⟩
  · intro b hb
    show b < h4.objs.size
    rcases List.mem_cons.mp hb with z | z
    · rw [z]; exact sz4
    · rcases List.mem_cons.mp z with z | z
      · rw [z]; exact Nat.lt_of_lt_of_le halt (Nat.le_trans (Nat.le_succ _) sz4)
      · cases z
  · intro z
    rcases List.mem_cons.mp z with z | z
    · exact Nat.ne_of_lt hcl z
    · cases z
  · intro href hhref
    refine ⟨fun A' E' i v s₂ m₂ hA hD hU hPv hn hm hk => ?_, fun A' E' i v s₂ m₂ hA hD hU hPv hp hn hm hk => ?_⟩
    · simp only [List.forIn_nil]
      exact wpAny_pure ⟨rfl, kp_refl _⟩
    · have hPv' : its[i]? = some v := by simpa using hPv
      obtain ⟨w, hw, rw_⟩ := vals_getR rv hPv'
      have hi2 : i < bs.length := by rw [hl]; exact (List.getElem?_eq_some_iff.mp hw).1
      have hb2 : bs[i]? = some bs[i] := List.getElem?_eq_getElem hi2
      have kk2 : ∀ b o, b ≠ P → s1.heap.get? b = some o → s₂.heap.get? b = some o := fun b o nb e => by
        have hl := Heap.lt_size e
        refine hk b (List.mem_range.mpr (Nat.lt_of_lt_of_le hl (Nat.le_trans (Nat.le_succ _) sz4))) (fun z => ?_) o (hhref b o (kk4 b o nb e))
        rcases List.mem_cons.mp z with z | z
        · rw [z] at hl; exact Nat.lt_irrefl _ hl
        · cases z
      refine mono3 (hel i w _ hw hb2 _ m₂ v rfl rw_ hm A' E' s₂ hA hD hU (gen_rc S I1 hPn hc kk2 hn)) fun y s3 ⟨e, kp⟩ => ⟨⟨_, hb2, e⟩, kp⟩
  · intro g h5 tk5 gs hgb hag hsz5 hk5 W5 hat
    refine hQ' g _ bs H1 (rdy_of (s1 := s1) (fun i y hi ⟨b, e1, e2⟩ => by rw [e2, getD_some e1]) I1 hP kk4 a3 a4 (fun b hb => ?_) (Nat.le_trans (Nat.le_succ _) sz4) hgb hk5 W5 hat) hK
    rcases List.mem_cons.mp hb with z | z
    · rw [z]; exact Nat.le_refl _
    · cases z
theorem pe_q2 {t : TA} {e1 e2 : Expr} (hr : Room k X.A) (hg : Gl X (qNam q)) (hm : X.mg (qNam q) = none) (hb : bootBuiltins (qNam q) = some (.builtin (qBlt q))) (hgz : Gl X "zip") (hmz : X.mg "zip" = none) (TB : TabB X.base X.mg c P) (hcode : X.env.code = .ref c) (S : GS X.env.scope scope) (hxa : scope.names.lookup xa = some .local) (hxb : scope.names.lookup xb = some .local) (hab : xa ≠ xb)
    (ha : PA X [e1, e2] t) (hsz : starEach [e1, e2] X.env = (false, eval e1 X.env) :: starEach [e2] X.env) (hpl : (backTo zpos (starEach [e2] X.env)).any (·.1) = false)
    (hs : ∀ v, genFold (.Call (.Name "zip" zp) [e1, e2] [] zpos) X.env v = pure v) (hn : qNam q ≠ "__name__") (hd : (qNam q == ("__debug__" : Str)) = false)
    (he : starEach [.GeneratorExp elt [⟨.Tuple [.Name xa pa, .Name xb pb] kt pt, .Call (.Name "zip" zp) [e1, e2] [] zpos, [], 0⟩] scope gpos] X.env = (false, eval (.GeneratorExp elt [⟨.Tuple [.Name xa pa, .Name xb pb] kt pt, .Call (.Name "zip" zp) [e1, e2] [] zpos, [], 0⟩] scope gpos) X.env) :: starEach [] X.env) :
    PE X (.Call (.Name (qNam q) p) [.GeneratorExp elt [⟨.Tuple [.Name xa pa, .Name xb pb] kt pt, .Call (.Name "zip" zp) [e1, e2] [] zpos, [], 0⟩] scope gpos] [] pos) (teQ2 X P scope xa xb elt q t) := by
  refine ⟨fun pins s σ H Q I h => ?_⟩
  refine quant_call (P := P) hg hm hb he (fun Q' hQ' => ?_) I hn hd
  refine wpAny_GeneratorExp_walksQTD hr.hd S.co (closure_ok (S.cl I)) S.cell S.dot hxa hxb hab S.kind (by have := hr.dp; omega) ?_ hs
  refine Call_ (ld_blt I hgz hmz PyProof.Rows.boot_zip (PyProof.Rows.callWith_type1 (thn (ha.run zpos pins s σ H _ I h) fun us s1 ⟨vs, H1, I1, r1, q1⟩ => ?_) hsz hpl))
  obtain ⟨a, b, xs, ys, ps, cv, bs, ex, hqx, hqy, hP, ht, hc, hl, hel, hK⟩ := q1
  subst ex
  cases r1 with
  | cons r rr =>
    cases rr with
    | cons r' rr =>
      cases rr
      cases r
      cases r'
      obtain ⟨its, rv, p1, _⟩ := I1.tuple hqx
      obtain ⟨its2, rv2, p2, _⟩ := I1.tuple hqy
      have t1 : s1.heap.IsTuple a its.toArray := p1
      have t2 : s1.heap.IsTuple b its2.toArray := p2
      have hPn : ∀ b, H1 b = none → b ≠ P := fun b e z => by rw [z, hP] at e; cases e
      have hP1 : s1.heap.get? P = some { cls := .none, data := .fields ps } := I1.hok P _ hP
      have hPlt : P < s1.heap.objs.size := Heap.lt_size hP1
      have halt : a < s1.heap.objs.size := let ⟨_, ho, _⟩ := t1; Heap.lt_size ho
      have hblt : b < s1.heap.objs.size := let ⟨_, ho, _⟩ := t2; Heap.lt_size ho
      have hcl : cStatics < s1.heap.objs.size := let ⟨_, hns, _⟩ := I1.nolimit; hns.lt
      refine zip_begins2 (begins_tuple a its.toArray) (begins_tuple b its2.toArray) t1 t2 fun h2 hz hTI hTO g1 g2 hsz2 hk2 => wpAny_pyIter_zip hz ⟨I1.nolimit.keeps hk2, ?_⟩
      refine gen_mid TB hcode I1 hP ht hk2 fun code h4 tk more a1 a2 a3 a4 => ?_
      have kk4 : ∀ b o, b ≠ P → s1.heap.get? b = some o → h4.get? b = some o := fun b o nb e => a1 b o nb (hk2 _ _ e)
      have sz4 : s1.heap.objs.size + 5 ≤ h4.objs.size := by rw [hsz2] at a2; exact a2
      have nP : ∀ i : Nat, (s1.heap.objs.size + i : Nat) ≠ P := fun i => Nat.ne_of_gt (Nat.lt_of_lt_of_le hPlt (Nat.le_add_right _ _))
      have hlen : bs.length = min its.toArray.size its2.toArray.size := by rw [hl, rv.length, rv2.length]; simp
      have ZS := zip_sep2 (N := s1.heap.objs.size) (fp1 := [a]) (fp2 := [b]) (fun b hb => by rcases List.mem_cons.mp hb with z | z; rw [z]; exact halt; cases z) (fun c hb => by rcases List.mem_cons.mp hb with z | z; rw [z]; exact hblt; cases z)
      have inw : ∀ b, b ∈ ([s1.heap.objs.size + 4, s1.heap.objs.size + 3, s1.heap.objs.size, s1.heap.objs.size + 1] : List Addr) → s1.heap.objs.size ≤ b := fun b hb => by
        have hb' : b = s1.heap.objs.size + 4 ∨ b = s1.heap.objs.size + 3 ∨ b = s1.heap.objs.size ∨ b = s1.heap.objs.size + 1 := by simpa using hb
        rcases hb' with z | z | z | z
        · rw [z]; exact Nat.le_add_right _ _
        · rw [z]; exact Nat.le_add_right _ _
        · rw [z]; exact Nat.le_refl _
        · rw [z]; exact Nat.le_add_right _ _
      refine ⟨s1.heap.objs.size + 4, (s1.heap.objs.size + 4) :: (s1.heap.objs.size + 2) :: (s1.heap.objs.size + 3) :: ([s1.heap.objs.size, a] ++ [s1.heap.objs.size + 1, b]), [s1.heap.objs.size + 4, s1.heap.objs.size + 3, s1.heap.objs.size, s1.heap.objs.size + 1], bs.length,
        (fun i vals => ∃ x1 x2, its.toArray[i]? = some x1 ∧ its2.toArray[i]? = some x2 ∧ vals = #[x1, x2]),
        (fun i h => IsZip h (s1.heap.objs.size + 4) (s1.heap.objs.size + 2) (s1.heap.objs.size + 3) .none ∧ IsTupOf2 h (s1.heap.objs.size + 2) (.ref s1.heap.objs.size) (.ref (s1.heap.objs.size + 1)) ∧ (∃ a1 a2, IsTupOf2 h (s1.heap.objs.size + 3) a1 a2) ∧ (h.IsTupleIter s1.heap.objs.size a i ∧ h.IsTuple a its.toArray) ∧ (h.IsTupleIter (s1.heap.objs.size + 1) b i ∧ h.IsTuple b its2.toArray)), _, (fun _ => true), (fun i y => ∃ b, bs[i]? = some b ∧ y = .bool b), rfl,
        fun A' hA => by rw [hlen]; exact (WalksT.zipD2 ZS (Draws.tuple (A := A'.in1) hA s1.heap.objs.size a (Nat.ne_of_lt halt) its.toArray) (Draws.tuple (A := A'.in1) hA (s1.heap.objs.size + 1) b (Nat.ne_of_lt (Nat.lt_succ_of_lt hblt)) its2.toArray)).toU,
        fun i vals ⟨x1, x2, _, _, e⟩ => ⟨x1, x2, e⟩, ?_, ?_, noLim I1 hPn kk4, ?_, ?_, ?_⟩
      · exact ⟨a1 _ _ (nP 4) hz, a1 _ _ (nP 2) hTI, ⟨_, _, a1 _ _ (nP 3) hTO⟩, ⟨⟨_, a1 _ _ (nP 0) g1, rfl, rfl⟩, t1.at fun o e => kk4 a o (tupNe t1 hP1) e⟩, ⟨⟨_, a1 _ _ (nP 1) g2, rfl, rfl⟩, t2.at fun o e => kk4 b o (tupNe t2 hP1) e⟩⟩
      · intro d hd
        show d < h4.objs.size
        have hd' : d = s1.heap.objs.size + 4 ∨ d = s1.heap.objs.size + 2 ∨ d = s1.heap.objs.size + 3 ∨ d = s1.heap.objs.size ∨ d = a ∨ d = s1.heap.objs.size + 1 ∨ d = b := by simpa [or_assoc] using hd
        have sz4' : (s1.heap.objs.size : Nat) + 5 ≤ h4.objs.size := sz4
        have l1 : (a : Nat) < s1.heap.objs.size := halt
        have l2 : (b : Nat) < s1.heap.objs.size := hblt
        have key : (d : Nat) < h4.objs.size := by
          rcases hd' with z | z | z | z | z | z | z
          all_goals first | (rw [z]; exact Nat.lt_of_lt_of_le halt (Nat.le_trans (Nat.le_add_right _ 5) sz4)) | (rw [z]; exact Nat.lt_of_lt_of_le hblt (Nat.le_trans (Nat.le_add_right _ 5) sz4)) | (rw [z]; show (_ : Nat) < _; omega)
        exact key
      · intro z
        exact absurd (inw _ z) (Nat.not_le_of_lt hcl)
      · intro href hhref
        refine ⟨fun A' E' i va vb s₂ m₂ hA hD hU hPv hn hma hmb hk => ?_, fun A' E' i va vb s₂ m₂ hA hD hU hPv hp hn hma hmb hk => ?_⟩
        · simp only [List.forIn_nil]
          exact wpAny_pure ⟨rfl, kp_refl _⟩
        · obtain ⟨x1, x2, hx1, hx2, ee⟩ := hPv
          have ee2 : va = x1 ∧ vb = x2 := by simpa using ee
          obtain ⟨rfl, rfl⟩ := ee2
          have hx1' : its[i]? = some va := by simpa using hx1
          have hx2' : its2[i]? = some vb := by simpa using hx2
          obtain ⟨w, hw, rw_⟩ := vals_getR rv hx1'
          obtain ⟨z, hz2, rz⟩ := vals_getR rv2 hx2'
          have hi2 : i < bs.length := by
            have y1 := (List.getElem?_eq_some_iff.mp hw).1
            have y2 := (List.getElem?_eq_some_iff.mp hz2).1
            rw [hl]; omega
          have hb2 : bs[i]? = some bs[i] := List.getElem?_eq_getElem hi2
          have kk2 : ∀ b o, b ≠ P → s1.heap.get? b = some o → s₂.heap.get? b = some o := fun b o nb e => by
            have hl := Heap.lt_size e
            refine hk b (List.mem_range.mpr (Nat.lt_of_lt_of_le hl (Nat.le_trans (Nat.le_add_right _ _) sz4))) (fun z => absurd (inw _ z) (Nat.not_le_of_lt hl)) o (hhref b o (kk4 b o nb e))
          refine mono3 (hel i w z _ hw hz2 hb2 _ m₂ va vb rfl rw_ rz hma hmb A' E' s₂ hA hD hU (gen_rc S I1 hPn hc kk2 hn)) fun y s3 ⟨e, kp⟩ => ⟨⟨_, hb2, e⟩, kp⟩
      · intro g h5 tk5 gs hgb hag hsz5 hk5 W5 hat
        exact hQ' g _ bs H1 (rdy_of (s1 := s1) (fun i y hi ⟨b, e1, e2⟩ => by rw [e2, getD_some e1]) I1 hP kk4 a3 a4 inw (Nat.le_trans (Nat.le_add_right _ _) sz4) hgb hk5 W5 hat) hK
end
end Pd

namespace Pd
open PySem PySem.Spec PyProof.Rows L2 GxR
def capV (en : En) : List Nat → Option (List V)
  | [] => some []
  | j :: js => match en.sl[j]? with
    | some (some (.dat d)) => (match toV d, capV en js with
      | some v, some vs => some (v :: vs)
      | _, _ => none)
    | _ => none
inductive CapL (X : Cx) (scope : Scope) : List Str → List Nat → Prop
  | nil : CapL X scope [] []
  | cons {y : Str} {ys : List Str} {j : Nat} {js : List Nat} : scope.names.lookup y = some .free → X.N[j]? = some y → CapL X scope ys js → CapL X scope (y :: ys) (j :: js)
theorem capV_ok {X : Cx} {scope : Scope} {TT : Addr → Prop} {g : Gh} {al : List Addr} {en : En} {F : Hp} {σ : L2.St} {H : Hp} (s : Sv X.K TT g al en F σ H) : ∀ {ys : List Str} {js : List Nat} {cs : List V}, CapL X scope ys js → capV en js = some cs → CapOk X scope σ (ys.zip cs)
  | _, _, _, .nil, _ => fun y v hm => by simp at hm
  | _, _, cs, .cons (j := j) (js := js) (ys := ys) (y := y) h1 h2 t, e => by
    unfold capV at e
    split at e
    · rename_i d hd
      split at e
      · rename_i v vs e1 e2
        cases e
        intro z w hm
        rw [List.zip_cons_cons] at hm
        rcases List.mem_cons.mp hm with q | q
        · cases q
          obtain ⟨u, hu, hr⟩ := s.slots j _ hd
          have hv := (toV_ok hr e1).1
          subst hv
          exact ⟨h1, j, h2, hu⟩
        · exact capV_ok s t e2 z w q
      · cases e
    · cases e
def mapB (g : V → Option Bool) : List V → Option (List Bool)
  | [] => some []
  | v :: vs => match g v, mapB g vs with
    | some b, some bs => some (b :: bs)
    | _, _ => none
def mapB2 (g : V → V → Option Bool) : List V → List V → Option (List Bool)
  | v :: vs, w :: ws => match g v w, mapB2 g vs ws with
    | some b, some bs => some (b :: bs)
    | _, _ => none
  | _, _ => some []
theorem mapB_ok {g : V → Option Bool} : ∀ {vs : List V} {bs : List Bool}, mapB g vs = some bs → bs.length = vs.length ∧ ∀ (i : Nat) (w : V) (b : Bool), vs[i]? = some w → bs[i]? = some b → g w = some b
  | [], bs, h => by cases h; exact ⟨rfl, fun i w b h => by simp at h⟩
  | v :: vs, bs, h => by
    unfold mapB at h
    split at h
    · rename_i b bs' e1 e2
      cases h
      obtain ⟨l, f⟩ := mapB_ok e2
      refine ⟨by simp [l], fun i w b' h1 h2 => ?_⟩
      cases i with
      | zero => simp at h1 h2; rw [← h1, ← h2]; exact e1
      | succ i => exact f i w b' (by simpa using h1) (by simpa using h2)
    · cases h
theorem mapB2_ok {g : V → V → Option Bool} : ∀ {vs ws : List V} {bs : List Bool}, mapB2 g vs ws = some bs → bs.length = min vs.length ws.length ∧ ∀ (i : Nat) (w z : V) (b : Bool), vs[i]? = some w → ws[i]? = some z → bs[i]? = some b → g w z = some b
  | [], ws, bs, h => by cases h; exact ⟨by simp, fun i w z b h => by simp at h⟩
  | v :: vs, [], bs, h => by cases h; exact ⟨by simp, fun i w z b _ h => by simp at h⟩
  | v :: vs, w :: ws, bs, h => by
    unfold mapB2 at h
    split at h
    · rename_i b bs' e1 e2
      cases h
      obtain ⟨l, f⟩ := mapB2_ok e2
      refine ⟨by simp [l], fun i w' z' b' h1 h2 h3 => ?_⟩
      cases i with
      | zero => simp at h1 h2 h3; rw [← h1, ← h2, ← h3]; exact e1
      | succ i => exact f i w' z' b' (by simpa using h1) (by simpa using h2) (by simpa using h3)
    · cases h
def El1 (X : Cx) (scope : Scope) (x : Str) (ys : List Str) (elt : Expr) (ge : List V → V → Option Bool) : Prop :=
  ∀ (cenv : Env) (m : Str → Option Value) (cs : List V) (v : V) (u : Value) (b : Bool), cenv.scope = scope → flatV v = true → RelV v u → m x = some u → ge cs v = some b → RE X.prog X.w X.K X.mg (X.A.depth + 1) (X.A.units + 8) cenv m (ys.zip cs) elt (fun y => y = .bool b)
def El2 (X : Cx) (scope : Scope) (xa xb : Str) (ys : List Str) (elt : Expr) (ge : List V → V → V → Option Bool) : Prop :=
  ∀ (cenv : Env) (m : Str → Option Value) (cs : List V) (v w : V) (u u2 : Value) (b : Bool), cenv.scope = scope → flatV v = true → flatV w = true → RelV v u → RelV w u2 → m xa = some u → m xb = some u2 → ge cs v w = some b → RE X.prog X.w X.K X.mg (X.A.depth + 1) (X.A.units + 8) cenv m (ys.zip cs) elt (fun y => y = .bool b)
def appQ1 (q : Bool) (js : List Nat) (ge : List V → V → Option Bool) (r : Rv) : M Rv := fun en => match peek en r, capV en js with
  | some (.tuple ds), some cs => (match toVs ds with
    | some vs => (match mapB (ge cs) vs with
      | some bs => .ok (.dat (.bool (quant q bs))) en
      | none => .bad)
    | none => .bad)
  | _, _ => .bad
def fQ1 (q : Bool) (js : List Nat) (ge : List V → V → Option Bool) (fa : M Rv) : M Rv := bnd fa (appQ1 q js ge)
def appQ2 (q : Bool) (js : List Nat) (ge : List V → V → V → Option Bool) (rs : List Rv) : M Rv := fun en => match peeks en rs, capV en js with
  | some [.tuple ds, .tuple es], some cs => (match toVs ds, toVs es with
    | some vs, some ws => (match mapB2 (ge cs) vs ws with
      | some bs => .ok (.dat (.bool (quant q bs))) en
      | none => .bad)
    | _, _ => .bad)
  | _, _ => .bad
def fQ2 (q : Bool) (js : List Nat) (ge : List V → V → V → Option Bool) (fs : M (List Rv)) : M Rv := bnd fs (appQ2 q js ge)
theorem toVs_flat {F : Hp} {K : PySem.W.Frag} {ds : List PyData} {us vs : List V} (h : DpAll K F us ds) (e : toVs ds = some vs) : us = vs ∧ ∀ (i : Nat) (w : V), vs[i]? = some w → flatV w = true := by
  obtain ⟨h1, h2⟩ := toVs_ok h e
  refine ⟨h1, fun i w hw => ?_⟩
  rw [List.all_eq_true] at h2
  exact h2 w (List.mem_of_getElem? hw)
section
variable {X : Cx} {TT : Addr → Prop} {W : WX} {P c : Addr} {scope : Scope} {elt iter : Expr} {x xa xb : Str} {px pa pb pt p pos gpos zp zpos : Pos} {kt k : Nat} {q : Bool} {fa : M Rv} {fs : M (List Rv)} {ys : List Str}
theorem pd_q1 {ge : List V → V → Option Bool} (js : List Nat) (hr : Room k X.A) (hm : X.mg (qNam q) = none) (TB : TabB X.base X.mg c P) (hcode : X.env.code = .ref c) (hP : TT P) (S : GS X.env.scope scope) (hx : scope.names.lookup x = some .local) (hL : CapL X scope ys js) (hi : PD X TT W iter fa) (hel : El1 X scope x ys elt ge)
    (hg : Gl X (qNam q) := by rfl) (hb : bootBuiltins (qNam q) = some (.builtin (qBlt q)) := by decide +kernel) (hs : ∀ v, genFold iter X.env v = pure v := by intro _; rfl) (hn : qNam q ≠ "__name__" := by decide) (hd : (qNam q == ("__debug__" : Str)) = false := by decide)
    (he : starEach [.GeneratorExp elt [⟨.Name x px, iter, [], 0⟩] scope gpos] X.env = (false, eval (.GeneratorExp elt [⟨.Name x px, iter, [], 0⟩] scope gpos) X.env) :: starEach [] X.env := by rfl) :
    PD X TT W (.Call (.Name (qNam q) p) [.GeneratorExp elt [⟨.Name x px, iter, [], 0⟩] scope gpos] [] pos) (fQ1 q js ge fa) := by
  obtain ⟨⟨t, pt, qt⟩⟩ := hi
  refine ⟨⟨_, pe_q1 (P := P) hr hg hm hb TB hcode S hx pt hs hn hd he, fun g al en F σ H Q s h => ?_⟩⟩
  refine qt g al en F σ H _ s (Post.seq h fun r e1 F1 a1 H1 l1 s1 p1 v r1 => ?_)
  unfold appQ1 at p1
  split at p1
  · rename_i ds cs e2 e3
    split at p1
    · rename_i vs e4
      split at p1
      · rename_i bs e5
        obtain ⟨a, xs, rfl, hq, hd⟩ := (peek_ok s1 r1 e2).tup s1.sub
        obtain ⟨rfl, hfl⟩ := toVs_flat hd e4
        obtain ⟨hlen, hget⟩ := mapB_ok e5
        obtain ⟨⟨ps, hps, htr⟩, _⟩ := s1.tabs P hP
        exact ⟨a, xs, ps, ys.zip cs, bs, rfl, hq, hps, htr, capV_ok s1 hL e3, hlen, fun i w b h1 h2 cenv m u hsc hr hm => hel cenv m cs w u b hsc (hfl i w h1) hr hm (hget i w b h1 h2),
          fun H2 hT => p1 F1 a1 H2 (Le.refl _ _) (s1.tabbed hP hT) _ (.bl _)⟩
      · exact p1.elim
    · exact p1.elim
  · exact p1.elim
theorem pd_q2 {e1 e2 : Expr} {ge : List V → V → V → Option Bool} (js : List Nat) (hr : Room k X.A) (hm : X.mg (qNam q) = none) (hmz : X.mg "zip" = none) (TB : TabB X.base X.mg c P) (hcode : X.env.code = .ref c) (hP : TT P) (S : GS X.env.scope scope) (hxa : scope.names.lookup xa = some .local) (hxb : scope.names.lookup xb = some .local) (hab : xa ≠ xb) (hL : CapL X scope ys js) (hi : PAD X TT W [e1, e2] fs) (hel : El2 X scope xa xb ys elt ge)
    (hg : Gl X (qNam q) := by rfl) (hgz : Gl X "zip" := by rfl) (hb : bootBuiltins (qNam q) = some (.builtin (qBlt q)) := by decide +kernel) (hsz : starEach [e1, e2] X.env = (false, eval e1 X.env) :: starEach [e2] X.env := by rfl) (hpl : (backTo zpos (starEach [e2] X.env)).any (·.1) = false := by rfl)
    (hs : ∀ v, genFold (.Call (.Name "zip" zp) [e1, e2] [] zpos) X.env v = pure v := by intro _; rfl) (hn : qNam q ≠ "__name__" := by decide) (hd : (qNam q == ("__debug__" : Str)) = false := by decide)
    (he : starEach [.GeneratorExp elt [⟨.Tuple [.Name xa pa, .Name xb pb] kt pt, .Call (.Name "zip" zp) [e1, e2] [] zpos, [], 0⟩] scope gpos] X.env = (false, eval (.GeneratorExp elt [⟨.Tuple [.Name xa pa, .Name xb pb] kt pt, .Call (.Name "zip" zp) [e1, e2] [] zpos, [], 0⟩] scope gpos) X.env) :: starEach [] X.env := by rfl) :
    PD X TT W (.Call (.Name (qNam q) p) [.GeneratorExp elt [⟨.Tuple [.Name xa pa, .Name xb pb] kt pt, .Call (.Name "zip" zp) [e1, e2] [] zpos, [], 0⟩] scope gpos] [] pos) (fQ2 q js ge fs) := by
  obtain ⟨⟨t, pt, qt⟩⟩ := hi
  refine ⟨⟨_, pe_q2 (P := P) hr hg hm hb hgz hmz TB hcode S hxa hxb hab pt hsz hpl hs hn hd he, fun g al en F σ H Q s h => ?_⟩⟩
  refine qt g al en F σ H _ s (Post.seq h fun rs e1 F1 a1 H1 l1 s1 p1 us r1 => ?_)
  unfold appQ2 at p1
  split at p1
  · rename_i ds es cs e2 e3
    split at p1
    · rename_i vs ws e4 e6
      split at p1
      · rename_i bs e5
        cases peeks_ok s1 r1 e2 with
        | cons k1 kk =>
          cases kk with
          | cons k2 kk =>
            cases kk
            obtain ⟨a, xs, rfl, hq, hd⟩ := k1.tup s1.sub
            obtain ⟨b, zs, rfl, hq2, hd2⟩ := k2.tup s1.sub
            obtain ⟨rfl, hfl⟩ := toVs_flat hd e4
            obtain ⟨rfl, hfl2⟩ := toVs_flat hd2 e6
            obtain ⟨hlen, hget⟩ := mapB2_ok e5
            obtain ⟨⟨ps, hps, htr⟩, _⟩ := s1.tabs P hP
            exact ⟨a, b, xs, zs, ps, ys.zip cs, bs, rfl, hq, hq2, hps, htr, capV_ok s1 hL e3, hlen, fun i w z b h1 h2 h3 cenv m u u2 hsc hr hr2 hm hm2 => hel cenv m cs w z u u2 b hsc (hfl i w h1) (hfl2 i z h2) hr hr2 hm hm2 (hget i w z b h1 h2 h3),
              fun H2 hT => p1 F1 a1 H2 (Le.refl _ _) (s1.tabbed hP hT) _ (.bl _)⟩
      · exact p1.elim
    · exact p1.elim
  · exact p1.elim
end
/-- where nothing is promised -/
theorem sd_bad {X : Cx} {TT : Addr → Prop} {W : WX} {st : Stmt} : PSD X TT W st (fun _ => .bad) := ⟨⟨fun _ _ _ => False, ⟨fun _ _ _ _ _ _ h => h.elim⟩, fun _ _ _ _ _ _ _ _ h => h⟩⟩
theorem pd_bad {X : Cx} {TT : Addr → Prop} {W : WX} {e : Expr} : PD X TT W e (fun _ => .bad) := ⟨⟨fun _ _ _ => False, ⟨fun _ _ _ _ _ _ h => h.elim⟩, fun _ _ _ _ _ _ _ _ h => h⟩⟩
section
variable {P : Program} {w : World} {K : PySem.W.Frag} {mg : Str → Option Value} {D U : Nat} {env : Env} {m : Str → Option Value} {cv : List (Str × V)} {a b c : Expr} {pos : Pos}
theorem re_ne {i j : Int} (ha : RE P w K mg D U env m cv a (fun u => ∃ t, u = .int i t)) (hb : RE P w K mg D U env m cv b (fun u => ∃ t, u = .int j t)) : RE P w K mg D U env m cv (.Compare a [.NotEq] [b] pos) (fun u => u = .bool (i != j)) :=
  re_cmp (f := fun i j => i != j) (fun _ _ _ _ _ _ h => ne_int h) (nomark _) ha hb
end
end Pd

namespace Pd
open PySem PySem.Spec PyProof.Rows L2 GxR
section
variable {X : Cx} {TT : Addr → Prop} {W : WX} {a : Expr} {fa : M Rv} {pos : Pos} {k : Nat}
theorem pd_gintE {x : Str} {i : Int} (hm : ∃ t, X.mg x = some (.int i t)) (hg : Gl X x := by rfl) (hd : (x == ("__debug__" : Str)) = false := by decide) : PD X TT W (.Name x pos) (fC (.int i)) := by
  obtain ⟨t, h⟩ := hm
  exact pd_gint hg h hd
theorem hu_of (hr : Room k X.A) : X.A.units + 64 < cLine := by have := hr.un; omega
theorem hx0 (σ : L2.St) : PassesAt (L2.CX X.prog X.w) X σ (WE W0 σ) := fun pins H s e s' I c => passL pins σ H s e s' I c
def negM (r : Rv) : M Rv := fun en => match r with
  | .dat (.int i) => .ok (.dat (.int (-i))) en
  | _ => .bad
theorem pd_neg (ha : PD X TT W a fa) : PD X TT W (.UnaryOp .USub a pos) (bnd fa negM) := by
  obtain ⟨⟨t, pt, q⟩⟩ := ha
  refine ⟨⟨_, pe_un un_neg pt, fun g al en F σ H Q s h => q g al en F σ H _ s (Post.seq h fun r e1 F1 a1 H1 l1 s1 p1 v r1 => ?_)⟩⟩
  unfold negM at p1
  split at p1
  · rename_i i
    cases r1
    exact ⟨i, rfl, p1.here s1 _ (Dp.int _)⟩
  · exact p1.elim
end
section
variable {P : Program} {w : World} {K : PySem.W.Frag} {mg : Str → Option Value} {base : Heap} {CX : CXT} {TT : Addr → Prop} {f : Addr} {fd : FuncData} {ps : List Str} {k : Nat}
theorem ok_bad : FnOk P w K mg base CX k f fd ps (spD K TT (fun _ => .bad)) :=
  ⟨fun _ _ _ _ h => by obtain ⟨_, _, _, _, _, h⟩ := h; exact h.elim, fun _ _ _ _ _ _ _ _ _ _ _ _ _ h => by obtain ⟨_, _, _, _, _, h⟩ := h; exact h.elim⟩
end
/-! ### the two elements of are_settings -/
def geSet (cs : List V) (v : V) : Option Bool := match cs with
  | [.int h] => some (isNumV v (1 - h) (h - 1) && (match v with
    | .int i => i != 0
    | _ => false))
  | _ => none
def geLt (_ : List V) (v w : V) : Option Bool := match v, w with
  | .int i, .int j => some (decide (i < j))
  | _, _ => none
section
variable {X : Cx} {scope : Scope} {k : Nat}
theorem el_lt {xa xb : Str} {p1 p2 p3 : Pos} (ha : scope.names.lookup xa = some .local) (hb : scope.names.lookup xb = some .local) (hda : (xa == ("__debug__" : Str)) = false := by decide) (hdb : (xb == ("__debug__" : Str)) = false := by decide) :
    El2 X scope xa xb [] (.Compare (.Name xa p1) [.Lt] [.Name xb p2] p3) geLt := by
  intro cenv m cs v w u u2 b hsc fv fw rv rw_ hma hmb hg
  subst hsc
  unfold geLt at hg
  split at hg
  · rename_i i j
    cases hg
    obtain ⟨t, rfl⟩ := rv
    obtain ⟨t2, rfl⟩ := rw_
    exact re_lt (re_loc ha hma ⟨_, rfl⟩ hda) (re_loc hb hmb ⟨_, rfl⟩ hdb)
  · cases hg
theorem el_set {f : Addr} {qual : Str} {params : Arguments} {body : List Stmt} {sc : Scope} {fd : FuncData} {q1 q2 q3 q4 q5 q6 q7 q8 q9 q10 q11 q12 q13 q14 q15 p0 p1 p2 p3 p4 p5 p6 p7 p8 p9 p10 p11 p12 : Pos} {j j2 j3} (Fd : FunD X.K "is_number" qual params body sc [] [] f fd)
    (hbody : body = [.Return (some (.BoolOp .And [.Call (.Name "isinstance" q1) [.Name "value" q2, .Name "int" q3] [] q4, .UnaryOp .Not (.Call (.Name "isinstance" q5) [.Name "value" q6, .Name "bool" q7] [] q8) q9, .Compare (.Name "low" q10) [.LtE, .LtE] [.Name "value" q11, .Name "high" q12] q13] q14)) q15])
    (S : FnScope ["value", "low", "high"] ["value", "low", "high"] sc) (hb : Binds X.K fd ["value", "low", "high"] []) (hl : ∀ y ∈ (["value", "low", "high"] : List Str), sc.names.lookup y = some .local)
    (hgl : ∀ y ∈ (["isinstance", "int", "bool"] : List Str), sc.names.lookup y = some .globalImplicit) (hm1 : X.mg "isinstance" = none) (hm2 : X.mg "int" = none) (hm3 : X.mg "bool" = none) (hr : Room k X.A) (hm : X.mg "is_number" = some (.ref f))
    (hx : scope.names.lookup ("setting" : Str) = some .local) (hh : scope.names.lookup ("hours" : Str) = some .free) (hg : scope.names.lookup ("is_number" : Str) = some .globalImplicit) :
    El1 X scope "setting" ["hours"] (.BoolOp .And [.Call (.Name "is_number" p0) [.Name "setting" p1, .BinOp (.Constant (.int 1) j p2) .Sub (.Name "hours" p3) p4, .BinOp (.Name "hours" p5) .Sub (.Constant (.int 1) j2 p6) p7] [] p8, .Compare (.Name "setting" p9) [.NotEq] [.Constant (.int 0) j3 p10] p11] p12) geSet := by
  intro cenv m cs v u b hsc fv rv hmu hge
  subst hsc
  unfold geSet at hge
  split at hge
  · rename_i h
    cases hge
    have ch : ∀ {pp : Pos}, RE X.prog X.w X.K X.mg (X.A.depth + 1) (X.A.units + 8) cenv m ((["hours"] : List Str).zip [V.int h]) (.Name "hours" pp) (fun u => ∃ t, u = .int h t) :=
      re_cap (v := V.int h) (by simp) (fun u r => r)
    have c1 : ∀ {pp : Pos} {jj} {n : Int}, RE X.prog X.w X.K X.mg (X.A.depth + 1) (X.A.units + 8) cenv m ((["hours"] : List Str).zip [V.int h]) (.Constant (.int n) jj pp) (fun u => ∃ t, u = .int n t) := re_int
    have first := re_isnum (P := X.prog) (w := X.w) (mg := X.mg) (D := X.A.depth + 1) (U := X.A.units + 8) (env := cenv) (m := m) (cv := (["hours"] : List Str).zip [V.int h]) (v := v) (lo := 1 - h) (hi := h - 1) (pos := p8) (p0 := p0) Fd hbody S hb hl hgl hm1 hm2 hm3 fv (by have := hr.dp; omega) hg hm (re_loc (pos := p1) (u := u) (p := RelV v) hx hmu rv (by decide)) (re_sub (pos := p4) (c1 (pp := p2) (jj := j)) (ch (pp := p3))) (re_sub (pos := p7) (ch (pp := p5)) (c1 (pp := p6) (jj := j2)))
    refine re_and first fun e => ?_
    cases v with
    | int i =>
      obtain ⟨t, rfl⟩ := rv
      exact re_one (re_ne (re_loc hx hmu ⟨_, rfl⟩ (by decide)) c1)
    | _ => cases e
  · cases hge
end
end Pd

namespace Pd
open PySem PySem.Spec PyProof.Rows L2 GxR
def blkB (N : List Str) (sc scope : Scope) (own : List (Str × Nat)) : Bool :=
  decide (scope.kind = .function) && scope.names.all (fun y => decide (scope.names.lookup y.1 = some y.2)) && own.all (fun p => decide (N[p.2]? = some p.1)) &&
  scope.names.all (fun y => !decide (y.2 = .free) || decide (sc.names.lookup y.1 = some .cell) || decide (sc.names.lookup y.1 = some .free)) &&
  scope.names.all (fun y => !(decide (y.2 = .local) || decide (y.2 = .cell)) || (own.map (·.1)).contains y.1 || !N.contains y.1)
theorem blk_of {N : List Str} {sc scope : Scope} {own : List (Str × Nat)} (h : blkB N sc scope own = true) : BlkOk N sc scope own := by
  unfold blkB at h
  simp only [Bool.and_eq_true, List.all_eq_true, decide_eq_true_eq, Bool.or_eq_true, Bool.not_eq_true', decide_eq_false_iff_not] at h
  obtain ⟨⟨⟨⟨h1, h2⟩, h3⟩, h4⟩, h5⟩ := h
  refine ⟨h1, h2, h3, fun y hy e => ?_, fun y hy e => ?_⟩
  · rcases h4 y hy with (z | z) | z
    · exact absurd e z
    · exact .inl z
    · exact .inr z
  · rcases h5 y hy with (z | z) | z
    · rcases e with e | e
      · simp [e] at z
      · simp [e] at z
    · exact .inl (by simpa using z)
    · exact .inr (by simpa using z)
def gsB (sc scope : Scope) : Bool :=
  decide (scope.kind = .function) && !scope.isCoroutine && scope.names.all (fun y => !decide (y.2 = .cell)) && decide (scope.names.lookup (".0" : Str) = some .local) &&
  scope.names.all (fun y => !decide (y.2 = .free) || decide (sc.names.lookup y.1 = some .cell) || decide (sc.names.lookup y.1 = some .free))
theorem gs_of {sc scope : Scope} (h : gsB sc scope = true) : GS sc scope := by
  unfold gsB at h
  simp only [Bool.and_eq_true, List.all_eq_true, decide_eq_true_eq, Bool.or_eq_true, Bool.not_eq_true', decide_eq_false_iff_not] at h
  obtain ⟨⟨⟨⟨h1, h2⟩, h3⟩, h4⟩, h5⟩ := h
  refine ⟨h1, h2, h3, h4, fun y hy e => ?_⟩
  rcases h5 y hy with (z | z) | z
  · exact absurd e z
  · exact .inl z
  · exact .inr z
end Pd

namespace Pd
open PySem PySem.Spec PyProof.Rows L2
/-! ## plain laws of the mirrors -/
theorem szl : 16777216 ≤ sizeLine := by decide
theorem forM_inv {h : Rv → En → Option En} {G : M Fl} (rs : List PyData) (I : Nat → En → Prop) (step : ∀ (i : Nat) (hi : i < rs.length) (en : En), I i en → ∃ e1 e2, h (.dat rs[i]) en = some e1 ∧ G e1 = .ok .nx e2 ∧ I (i + 1) e2) :
    ∀ en, I 0 en → ∃ en', forM h G rs en = .ok .nx en' ∧ I rs.length en' := by
  have key : ∀ (k i : Nat) (en : En), i + k = rs.length → I i en → ∃ en', forM h G (rs.drop i) en = .ok .nx en' ∧ I rs.length en' := by
    intro k
    induction k with
    | zero =>
      intro i en hk hI
      have e : i = rs.length := by omega
      subst e
      rw [List.drop_length]
      exact ⟨en, rfl, hI⟩
    | succ k ih =>
      intro i en hk hI
      have hi : i < rs.length := by omega
      obtain ⟨e1, e2, h1, h2, h3⟩ := step i hi en hI
      obtain ⟨en', h4, h5⟩ := ih (i + 1) e2 (by omega) h3
      refine ⟨en', ?_, h5⟩
      rw [List.drop_eq_getElem_cons hi]
      unfold forM
      rw [h1]
      simp only [h2]
      exact h4
  intro en hI
  have := key rs.length 0 en (by omega) hI
  simpa using this
theorem get_last (l : List Oc) (a : Oc) : (l ++ [a])[l.length]? = some a := by simp
theorem set_last (l : List Oc) (a b : Oc) : (l ++ [a]).set l.length b = l ++ [b] := by simp
/-- one turn of a comprehension -/
def Stp (h : Rv → En → Option En) (gt : M Bool) (fe : M Rv) (sl : List (Option Rv)) (k : Nat) (r : PyData) (J : List Oc → List Rv → Prop) (ob : List Oc) (acc : List Rv) : Prop :=
  ∃ (e1 : En) (b : Bool) (sl2 : List (Option Rv)) (ob2 : List Oc), h (.dat r) ⟨sl, ob ++ [.lst acc]⟩ = some e1 ∧ gt e1 = .ok b ⟨sl2, ob2 ++ [.lst acc]⟩ ∧ ob2.length = k ∧ (b = false → J ob2 acc) ∧
      (b = true → ∃ (v : Rv) (sl3 : List (Option Rv)) (ob3 : List Oc), fe ⟨sl2, ob2 ++ [.lst acc]⟩ = .ok v ⟨sl3, ob3 ++ [.lst acc]⟩ ∧ ob3.length = k ∧ acc.length < sizeLine ∧ J ob3 (acc ++ [v]))
theorem Stp.no {h : Rv → En → Option En} {gt : M Bool} {fe : M Rv} {sl : List (Option Rv)} {k : Nat} {r : PyData} {J : List Oc → List Rv → Prop} {ob : List Oc} {acc : List Rv} (e1 : En) (sl2 : List (Option Rv)) (ob2 : List Oc) (h1 : h (.dat r) ⟨sl, ob ++ [.lst acc]⟩ = some e1) (h2 : gt e1 = .ok false ⟨sl2, ob2 ++ [.lst acc]⟩) (h3 : ob2.length = k) (h4 : J ob2 acc) : Stp h gt fe sl k r J ob acc :=
  ⟨e1, false, sl2, ob2, h1, h2, h3, fun _ => h4, fun z => nomatch z⟩
theorem Stp.yes {h : Rv → En → Option En} {gt : M Bool} {fe : M Rv} {sl : List (Option Rv)} {k : Nat} {r : PyData} {J : List Oc → List Rv → Prop} {ob : List Oc} {acc : List Rv} (e1 : En) (sl2 : List (Option Rv)) (ob2 : List Oc) (v : Rv) (sl3 : List (Option Rv)) (ob3 : List Oc) (h1 : h (.dat r) ⟨sl, ob ++ [.lst acc]⟩ = some e1) (h2 : gt e1 = .ok true ⟨sl2, ob2 ++ [.lst acc]⟩) (h3 : ob2.length = k)
    (h4 : fe ⟨sl2, ob2 ++ [.lst acc]⟩ = .ok v ⟨sl3, ob3 ++ [.lst acc]⟩) (h5 : ob3.length = k) (h6 : acc.length < sizeLine) (h7 : J ob3 (acc ++ [v])) : Stp h gt fe sl k r J ob acc :=
  ⟨e1, true, sl2, ob2, h1, h2, h3, (fun z => by cases z), fun _ => ⟨v, sl3, ob3, h4, h5, h6, h7⟩⟩
theorem compL_inv {h : Rv → En → Option En} {gt : M Bool} {fe : M Rv} {sl : List (Option Rv)} {k : Nat} (rs : List PyData) (I : Nat → List Oc → List Rv → Prop)
    (step : ∀ (i : Nat) (hi : i < rs.length) (ob : List Oc) (acc : List Rv), I i ob acc → ob.length = k → Stp h gt fe sl k rs[i] (fun ob' acc' => I (i + 1) ob' acc') ob acc) :
    ∀ ob acc, ob.length = k → I 0 ob acc → ∃ ob' acc', compL h gt fe sl k rs ⟨sl, ob ++ [.lst acc]⟩ = some ⟨sl, ob' ++ [.lst acc']⟩ ∧ ob'.length = k ∧ I rs.length ob' acc' := by
  have key : ∀ (n i : Nat) (ob : List Oc) (acc : List Rv), i + n = rs.length → ob.length = k → I i ob acc → ∃ ob' acc', compL h gt fe sl k (rs.drop i) ⟨sl, ob ++ [.lst acc]⟩ = some ⟨sl, ob' ++ [.lst acc']⟩ ∧ ob'.length = k ∧ I rs.length ob' acc' := by
    intro n
    induction n with
    | zero =>
      intro i ob acc hk hl hI
      have e : i = rs.length := by omega
      subst e
      rw [List.drop_length]
      exact ⟨ob, acc, rfl, hl, hI⟩
    | succ n ih =>
      intro i ob acc hk hl hI
      have hi : i < rs.length := by omega
      obtain ⟨e1, b, sl2, ob2, h1, h2, h3, h4, h5⟩ := step i hi ob acc hI hl
      rw [List.drop_eq_getElem_cons hi]
      unfold compL
      rw [h1]
      simp only [h2]
      cases b with
      | false => exact ih (i + 1) ob2 acc (by omega) h3 (h4 rfl)
      | true =>
        obtain ⟨v, sl3, ob3, h6, h7, h8, h9⟩ := h5 rfl
        obtain ⟨ob', acc', g1, g2, g3⟩ := ih (i + 1) ob3 (acc ++ [v]) (by omega) h7 h9
        refine ⟨ob', acc', ?_, g2, g3⟩
        simp only [h6]
        have e : (ob3 ++ [Oc.lst acc])[k]? = some (.lst acc) := by rw [← h7]; exact get_last _ _
        rw [e]
        simp only [h8, if_true]
        have e2 : (ob3 ++ [Oc.lst acc]).set k (.lst (acc ++ [v])) = ob3 ++ [.lst (acc ++ [v])] := by rw [← h7]; exact set_last _ _ _
        rw [e2]
        exact g1
  intro ob acc hl hI
  have := key rs.length 0 ob acc (by omega) hl hI
  simpa using this
/-- a comprehension that changes nothing else -/
theorem compL_pure {h : Rv → En → Option En} {gt : M Bool} {fe : M Rv} {sl : List (Option Rv)} {ob : List Oc} (rs : List PyData) (f : PyData → Option Rv)
    (step : ∀ r ∈ rs, ∀ acc, ∃ e1 b sl2, h (.dat r) ⟨sl, ob ++ [.lst acc]⟩ = some e1 ∧ gt e1 = .ok b ⟨sl2, ob ++ [.lst acc]⟩ ∧ (b = false → f r = none) ∧ (b = true → ∃ v sl3, fe ⟨sl2, ob ++ [.lst acc]⟩ = .ok v ⟨sl3, ob ++ [.lst acc]⟩ ∧ f r = some v)) :
    ∀ acc, acc.length + rs.length ≤ sizeLine → compL h gt fe sl ob.length rs ⟨sl, ob ++ [.lst acc]⟩ = some ⟨sl, ob ++ [.lst (acc ++ rs.filterMap f)]⟩ := by
  induction rs with
  | nil => intro acc _; simp [compL]
  | cons r rs ih =>
    intro acc hl
    obtain ⟨e1, b, sl2, h1, h2, h3, h4⟩ := step r (List.mem_cons_self ..) acc
    have ih' := ih fun r hr => step r (List.mem_cons_of_mem _ hr)
    simp only [List.length_cons] at hl
    unfold compL
    rw [h1]
    simp only [h2]
    cases b with
    | false => rw [List.filterMap_cons, h3 rfl]; exact ih' acc (by omega)
    | true =>
      obtain ⟨v, sl3, h5, h6⟩ := h4 rfl
      simp only [h5, get_last]
      rw [if_pos (by omega), set_last, ih' (acc ++ [v]) (by simp; omega), List.filterMap_cons, h6]
      simp
theorem while_count {gc : M Bool} {G : M Fl} (e : Nat → En) (n : Nat) (h1 : ∀ i, i < n → gc (e i) = .ok true (e i) ∧ G (e i) = .ok .nx (e (i + 1))) (h2 : gc (e n) = .ok false (e n)) : whileM gc G (e 0) = .ok .nx (e n) := by
  have key : ∀ (k i : Nat), i + k = n → whileN gc G (k + 1) (e i) = some (.ok .nx (e n)) := by
    intro k
    induction k with
    | zero =>
      intro i hi
      have : i = n := by omega
      subst this
      unfold whileN
      rw [h2]
    | succ k ih =>
      intro i hi
      obtain ⟨a, b⟩ := h1 i (by omega)
      unfold whileN
      rw [a]
      simp only [b]
      exact ih (i + 1) (by omega)
  exact whileM_eq (key n 0 (by omega))
/-! ### kinds -/
theorem k_nt : kitB "NoneType" "tuple" = some false := by decide +kernel
theorem k_nl : kitB "NoneType" "list" = some false := by decide +kernel
theorem k_ns : kitB "NoneType" "str" = some false := by decide +kernel
theorem k_bt : kitB "bool" "tuple" = some false := by decide +kernel
theorem k_bl : kitB "bool" "list" = some false := by decide +kernel
theorem k_bs : kitB "bool" "str" = some false := by decide +kernel
theorem k_it : kitB "int" "tuple" = some false := by decide +kernel
theorem k_il : kitB "int" "list" = some false := by decide +kernel
theorem k_is : kitB "int" "str" = some false := by decide +kernel
theorem k_st : kitB "str" "tuple" = some false := by decide +kernel
theorem k_sl : kitB "str" "list" = some false := by decide +kernel
theorem k_ss : kitB "str" "str" = some true := by decide +kernel
theorem k_tt : kitB "tuple" "tuple" = some true := by decide +kernel
theorem k_tl : kitB "tuple" "list" = some false := by decide +kernel
theorem k_ts : kitB "tuple" "str" = some false := by decide +kernel
theorem k_ti : kitB "tuple" "int" = some false := by decide +kernel
theorem k_tb : kitB "tuple" "bool" = some false := by decide +kernel
theorem k_lt : kitB "list" "tuple" = some false := by decide +kernel
theorem k_ll : kitB "list" "list" = some true := by decide +kernel
theorem k_ls : kitB "list" "str" = some false := by decide +kernel
theorem k_li : kitB "list" "int" = some false := by decide +kernel
theorem k_lb : kitB "list" "bool" = some false := by decide +kernel
/-! ### equality -/
theorem q_int (i j : Int) : eqG (.int i) (.int j) = some (.bool (i == j)) := by unfold eqG; simp [SeqAt.shaped, PyData.canLay0, PyData.depth, PyData.eqv]
theorem q_bool (i j : Bool) : eqG (.bool i) (.bool j) = some (.bool (i == j)) := by unfold eqG; simp [SeqAt.shaped, PyData.canLay0, PyData.depth, PyData.eqv]
theorem q_nint (i j : Int) : neG (.int i) (.int j) = some (.bool (!(i == j))) := by unfold neG; simp [SeqAt.shaped, PyData.canLay0, PyData.depth, PyData.eqv]
theorem q_nbool (i j : Bool) : neG (.bool i) (.bool j) = some (.bool (!(i == j))) := by unfold neG; simp [SeqAt.shaped, PyData.canLay0, PyData.depth, PyData.eqv]
theorem ints_lay : ∀ l : List Int, PyData.canLayAll0 (l.map PyData.int) = true
  | [] => by simp [PyData.canLayAll0]
  | i :: l => by simp [PyData.canLayAll0, PyData.canLay0, ints_lay l]
theorem ints_dep : ∀ l : List Int, PyData.depthAll (l.map PyData.int) = 0
  | [] => by simp [PyData.depthAll]
  | i :: l => by simp [PyData.depthAll, PyData.depth, ints_dep l]
theorem q_ntup0 (l : List Int) : neG (.tuple (l.map PyData.int)) (.tuple []) = some (.bool (!l.isEmpty)) := by
  unfold neG
  cases l with
  | nil => simp [SeqAt.shaped, PyData.canLay0, PyData.canLayAll0, PyData.depth, PyData.depthAll, PyData.eqv, PyData.eqvAll]
  | cons i l => simp [SeqAt.shaped, PyData.canLay0, PyData.canLayAll0, PyData.depth, PyData.depthAll, PyData.eqv, PyData.eqvAll, ints_lay, ints_dep]
theorem q_lst0 : eqG (.list []) (.list []) = some (.bool true) := by
  unfold eqG
  simp [SeqAt.shaped, PyData.canLay0, PyData.canLayAll0, PyData.depth, PyData.depthAll, PyData.eqv, PyData.eqvAll]
theorem mul_ok {i j : Int} (h0 : 0 ≤ j) (h1 : j < 1000000) : mulG (.int i) (.int j) = some (.int (i * j)) := by
  have e : (1000000 : Int) ≤ 2 ^ 64 := by decide
  unfold mulG
  refine if_pos (Or.inr ⟨?_, ?_⟩)
  · generalize (2 : Int) ^ 64 = n at *; omega
  · generalize (2 : Int) ^ 64 = n at *; omega
theorem mul_c {i : Int} : mulG (.int i) (.int 48271) = some (.int (i * 48271)) := mul_ok (by decide) (by decide)
theorem rng1_ok (n : Nat) (h : n < 1000000) (en : En) : rng1I [.dat (.int (n : Int))] en = .ok (upI 0 n) en := by
  have e : (1000000 : Int) ≤ 2 ^ 62 := by decide
  unfold rng1I
  have c : -(2 ^ 62) ≤ (n : Int) ∧ (n : Int) < 2 ^ 62 := by
    constructor
    · generalize (2 : Int) ^ 62 = k at *; omega
    · generalize (2 : Int) ^ 62 = k at *; omega
  simp only [c, and_self, if_true, Int.toNat_natCast]
theorem sq_to {m k : M Fl} {en : En} {o : Out Fl} (e : En) (h : m en = .ok .nx e) (h2 : k e = o) : sq m k en = o := by unfold sq; rw [h]; exact h2
theorem bnd_to {α β : Type} {m : M α} {k : α → M β} {en : En} {o : Out β} (a : α) (e : En) (h : m en = .ok a e) (h2 : k a e = o) : bnd m k en = o := by unfold bnd; rw [h]; exact h2
theorem sq_to_ret {m k : M Fl} {en e : En} {r : Rv} (h : m en = .ok (.ret r) e) : (match m en with
  | .ok .nx e => k e
  | o => o) = .ok (.ret r) e := by rw [h]
theorem sq_ret {m k : M Fl} {en e : En} {r : Rv} (h : m en = .ok (.ret r) e) : sq m k en = .ok (.ret r) e := by unfold sq; rw [h]
theorem runR_ok {np n : Nat} {G : M Fl} {rows ds rows' : List PyData} {d : PyData} {e : En} (hl : ds.length + 1 = np) (h : G ⟨some (.own 0) :: slots0 (n - 1) ds, [.lst (rows.map Rv.dat)]⟩ = .ok (.ret (.dat d)) e) (h2 : rowOf e = some rows') : runR np n G rows ds = .ok d rows' := by
  unfold runR
  rw [if_pos hl, h]
  simp [frz, h2]
theorem runD_ok {np n : Nat} {G : M Fl} {ds : List PyData} {d : PyData} {e : En} (hl : ds.length = np) (h : G ⟨slots0 n ds, []⟩ = .ok (.ret (.dat d)) e) : runD np n G ds = .ok d := by
  unfold runD
  rw [if_pos hl, h]
  simp [frz]
theorem runD_nx {np n : Nat} {G : M Fl} {ds : List PyData} {e : En} (hl : ds.length = np) (h : G ⟨slots0 n ds, []⟩ = .ok .nx e) : runD np n G ds = .ok .none := by
  unfold runD
  rw [if_pos hl, h]
theorem cut2 (l : List PyData) : cutD l none (some 2) = l.take 2 := by
  unfold cutD
  simp [HT.sIx, List.take_eq_take_iff]
end Pd

namespace Pd
open PySem PySem.Spec PyProof.Rows L2
theorem code_cT {K : PySem.W.Frag} {x qual : Str} {params : Arguments} {body : List Stmt} {scope : Scope} {fd : FuncData} (F : FunD K x qual params body scope [] [] (He.ga K x) fd) : fd.code = .ref (He.cT K (x, none)).1 := by
  obtain ⟨oc, od, dV, kV, doc, pm, an, cdv, ct, osl, rfl, lk, hcd, _, _⟩ := F.ex
  obtain ⟨c, rfl⟩ := He.codeIn_ref hcd
  show Value.ref c = .ref (He.codeOf K (x, none))
  rw [He.codeOf_eq (p := (x, none)) lk rfl]
theorem tabB_of {base : Heap} {mg : Str → Option Value} {c P : Addr} (q : LamX.TabB base mg c P) : GxR.TabB base mg c P := ⟨q.code, q.bm, q.gP⟩
open Classical in
/-- the start: the tables set apart -/
noncomputable def F0 (TT : Addr → Prop) (H : Hp) : Hp := fun b => if TT b then none else H b
theorem F0_same (TT : Addr → Prop) (H : Hp) : Same (F0 TT H) H := fun b o e => by
  unfold F0 at e
  split at e
  · cases e
  · exact e
theorem F0_at {TT : Addr → Prop} {H : Hp} {b : Addr} {o : HO} (e : H b = some o) (h : ∀ P, TT P → H P = some (.tbl #[])) (n : o ≠ .tbl #[]) : F0 TT H b = some o := by
  unfold F0
  rw [if_neg]
  · exact e
  · intro t
    have q := h b t
    rw [e] at q
    cases q
    exact n rfl
theorem law_start {K : PySem.W.Frag} {TT : Addr → Prop} {Fn : List PyData → Res} {H : Hp} {a : Addr} {ns : List Int} (h : ∀ P, TT P → H P = some (.tbl #[])) (hS : SqL K H a (ns.map V.int)) (hF : Fn [.list (ns.map PyData.int)] = .ok (.bool true)) :
    spD K TT Fn [.ref a] H (fun v _ => v = .bl true) (fun _ _ _ => False) := by
  refine ⟨F0 TT H, [.list (ns.map PyData.int)], F0_same TT H, fun P t => ⟨⟨#[], h P t, trivial⟩, ?_⟩, .cons (.lst ?_ (dpAll_ofInts ns)) .nil, ?_⟩
  · unfold F0
    rw [if_pos t]
  · rcases hS with (e | ⟨o, e⟩) | e
    · exact .inl (.inl (F0_at e h (fun z => by cases z)))
    · exact .inl (.inr ⟨o, F0_at e h (fun z => by cases z)⟩)
    · exact .inr e
  · rw [hF]
    intro v F' H' _ hd
    cases hd
    rfl
theorem no_cx {P : Program} {w : World} {H : Hp} {s s' : Shared} {e : Value} (h : L2.CX P w [] H s (fun _ _ _ => False) e s') : False := by
  obtain ⟨_, _, _, _, _, _, _, _, _, _, _, _, z⟩ := h
  exact z
end Pd

namespace Pd
open PySem PySem.Spec PyProof.Rows L2
def top (i : Nat) : Stmt := PySem.Challenge.pw_wrongclock_k01_whole_almanacs.main.body.getD i (.Pass ⟨0, 0, 0, 0⟩)
/-! is_number -/
noncomputable def G_is_number : M Fl := (bnd (vAnd (bnd (fVar 0) (app1 (isiG "int"))) (vAnd (vNot (bnd (fVar 0) (app1 (isiG "bool")))) (fCh leG leG (fVar 1) (fVar 0) (fVar 2)))) fun r => ret (.ret r))
noncomputable def F_is_number : List PyData → Res := runD 3 3 G_is_number
/-! are_settings -/
noncomputable def G_are_settings : M Fl := (sq (bnd (fOr (fNot (fB (bnd (fVar 0) (app1 (isiG "tuple"))))) (fB (f2 gtG (fN lenG (fCons (fVar 0) fNil)) (fC (.int 4))))) fun k => if k = true then (bnd (fC (.bool false)) fun r => ret (.ret r)) else (ret .nx))
  (sq (bnd (fNot (fB (fQ1 true [1] geSet (fVar 0)))) fun k => if k = true then (bnd (fC (.bool false)) fun r => ret (.ret r)) else (ret .nx))
  (bnd (fQ2 true [] geLt (fCons (fVar 0) (fCons (bnd (fVar 0) fun r => bnd (bnd (fC (.int 1)) toI) fun i => bnd (ret none) fun j => cutM r i j) fNil))) fun r => ret (.ret r))))
noncomputable def F_are_settings : List PyData → Res := runD 2 2 G_are_settings
/-! need_almanac -/
noncomputable def G_need_almanac : M Fl := (sq (bnd (fOr (fNot (fB (bnd (fVar 0) (app1 (isiG "tuple"))))) (fB (f2 neG (fN lenG (fCons (fVar 0) fNil)) (fC (.int 7))))) fun k => if k = true then (fun _ => .bad) else (ret .nx))
  (sq (bnd (fVar 0) (asg (tupleG 7 (gCn (setM 1) (gCn (setM 2) (gCn (setM 3) (gCn (setM 4) (gCn (setM 5) (gCn (setM 6) (gCn (setM 7) gNl))))))))))
  (sq (bnd (fNot (fB (fCall F_is_number (fCons (fVar 1) (fCons (fC (.int 2)) (fCons (fC (.int 12)) fNil)))))) fun k => if k = true then (fun _ => .bad) else (ret .nx))
  (sq (bnd (fNot (fB (fCall F_is_number (fCons (fVar 2) (fCons (fC (.int 0)) (fCons (f2 subG (fVar 1) (fC (.int 1))) fNil)))))) fun k => if k = true then (fun _ => .bad) else (ret .nx))
  (sq (bnd (fNot (fB (fCall F_is_number (fCons (fVar 3) (fCons (fVar 2) (fCons (f2 subG (f2 addG (fVar 2) (fVar 1)) (fC (.int 1))) fNil)))))) fun k => if k = true then (fun _ => .bad) else (ret .nx))
  (sq (bnd (fNot (fB (fCall F_is_number (fCons (fVar 4) (fCons (fC (.int 1)) (fCons (fC (.int 24)) fNil)))))) fun k => if k = true then (fun _ => .bad) else (ret .nx))
  (sq (bnd (fNot (fB (fCall F_is_number (fCons (fVar 5) (fCons (fVar 4) (fCons (fC (.int 24)) fNil)))))) fun k => if k = true then (fun _ => .bad) else (ret .nx))
  (sq (bnd (fNot (fB (fCall F_are_settings (fCons (fVar 6) (fCons (fVar 1) fNil))))) fun k => if k = true then (fun _ => .bad) else (ret .nx))
  (bnd (fNot (fB (fCall F_is_number (fCons (fVar 7) (fCons (fC (.int 1)) (fCons (fC (.int 12)) fNil)))))) fun k => if k = true then (fun _ => .bad) else (ret .nx))))))))))
noncomputable def F_need_almanac : List PyData → Res := runD 1 8 G_need_almanac
/-! shut_by -/
noncomputable def G_shut_by : M Fl := (bnd (f2 addG (f2 divG (f2 subG (f2 subG (fVar 1) (fC (.int 1))) (f2 ixG (fVar 0) (fC (.int 2)))) (f2 ixG (fVar 0) (fC (.int 0)))) (fC (.int 1))) fun r => ret (.ret r))
noncomputable def F_shut_by : List PyData → Res := runD 2 2 G_shut_by
/-! opened_by -/
noncomputable def G_opened_by : M Fl := (bnd (f2 addG (f2 divG (f2 subG (fVar 1) (f2 ixG (fVar 0) (fC (.int 1)))) (f2 ixG (fVar 0) (fC (.int 0)))) (fC (.int 1))) fun r => ret (.ret r))
noncomputable def F_opened_by : List PyData → Res := runD 2 2 G_opened_by
/-! urgent_at -/
noncomputable def G_urgent_at : M Fl := (bnd (fCall F_shut_by (fCons (fVar 0) (fCons (f2 addG (fVar 1) (f2 ixG (fVar 0) (fC (.int 4)))) fNil))) fun r => ret (.ret r))
noncomputable def F_urgent_at : List PyData → Res := runD 2 2 G_urgent_at
/-! are_wakings -/
noncomputable def G_are_wakings : M Fl := (sq (bnd (fOr (fNot (fB (bnd (fVar 1) (app1 (isiG "tuple"))))) (fOr (fNot (fB (fCh leG leG (fC (.int 1)) (fN lenG (fCons (fVar 1) fNil)) (fC (.int 60))))) (fNot (fB (fCall F_is_number (fCons (f2 ixG (fVar 1) (fC (.int 0))) (fCons (fC (.int 0)) (fCons (fC (.int 0)) fNil)))))))) fun k => if k = true then (bnd (fC (.bool false)) fun r => ret (.ret r)) else (ret .nx))
  (sq (bnd (bnd (fCons (fVar 1) (fCons (bnd (fVar 1) fun r => bnd (bnd (fC (.int 1)) toI) fun i => bnd (ret none) fun j => cutM r i j) fNil)) zipTI) (forM (tupleG 2 (gCn (setM 2) (gCn (setM 3) gNl))) (bnd (fNot (fB (fCall F_is_number (fCons (fVar 3) (fCons (f2 addG (fVar 2) (f2 ixG (fVar 0) (fC (.int 3)))) (fCons (f2 addG (fVar 2) (f2 ixG (fVar 0) (fC (.int 4)))) fNil)))))) fun k => if k = true then (bnd (fC (.bool false)) fun r => ret (.ret r)) else (ret .nx))))
  (bnd (fC (.bool true)) fun r => ret (.ret r))))
noncomputable def F_are_wakings : List PyData → Res := runD 2 4 G_are_wakings
/-! are_sets -/
noncomputable def G_are_sets : M Fl := (sq (bnd (fNot (fB (bnd (fVar 1) (app1 (isiG "tuple"))))) fun k => if k = true then (bnd (fC (.bool false)) fun r => ret (.ret r)) else (ret .nx))
  (sq (bnd (fC (.int 1)) (asg (setM 3)))
  (sq (bnd (bnd (fVar 1) tupI) (forM (setM 4) (sq (bnd (fOr (fNot (fB (bnd (fVar 4) (app1 (isiG "tuple"))))) (fOr (fB (f2 neG (fN lenG (fCons (fVar 4) fNil)) (fC (.int 2)))) (fNot (fB (fCall F_is_number (fCons (f2 ixG (fVar 4) (fC (.int 0))) (fCons (fVar 3) (fCons (fVar 2) fNil)))))))) fun k => if k = true then (bnd (fC (.bool false)) fun r => ret (.ret r)) else (ret .nx))
  (sq (bnd (fOr (fB (bnd (f2 ixG (fVar 4) (fC (.int 1))) (app1 (isiG "bool")))) (fOr (fNot (fB (bnd (f2 ixG (fVar 4) (fC (.int 1))) (app1 (isiG "int"))))) (fB (f2 (inG true) (f2 ixG (fVar 4) (fC (.int 1))) (f2 ixG (fVar 0) (fC (.int 5))))))) fun k => if k = true then (bnd (fC (.bool false)) fun r => ret (.ret r)) else (ret .nx))
  (bnd (f2 addG (f2 ixG (fVar 4) (fC (.int 0))) (f2 ixG (fVar 0) (fC (.int 6)))) (asg (setM 3)))))))
  (bnd (fC (.bool true)) fun r => ret (.ret r)))))
noncomputable def F_are_sets : List PyData → Res := runD 3 5 G_are_sets
/-! is_story -/
noncomputable def G_is_story : M Fl := (sq (bnd (fOr (fNot (fB (bnd (fVar 1) (app1 (isiG "tuple"))))) (fOr (fB (f2 neG (fN lenG (fCons (fVar 1) fNil)) (fC (.int 2)))) (fNot (fB (fCall F_are_wakings (fCons (fVar 0) (fCons (f2 ixG (fVar 1) (fC (.int 0))) fNil))))))) fun k => if k = true then (bnd (fC (.bool false)) fun r => ret (.ret r)) else (ret .nx))
  (bnd (fCall F_are_sets (fCons (fVar 0) (fCons (f2 ixG (fVar 1) (fC (.int 1))) (fCons (f2 ixG (f2 ixG (fVar 1) (fC (.int 0))) (bnd (fC (.int 1)) negM)) fNil)))) fun r => ret (.ret r)))
noncomputable def F_is_story : List PyData → Res := runD 2 2 G_is_story
/-! read_at -/
noncomputable def G_read_at : M Fl := (sq (bnd (fVar 1) (asg (tupleG 2 (gCn (setM 2) (gCn (setM 3) gNl)))))
  (sq (bnd (fLst fNil) (asg (setM 4)))
  (sq (bnd (bnd (fVar 2) tupI) (forM (setM 5) (sq (bnd (fN sumG (fCons (bnd (bnd (fVar 3) tupI) (compM [7, 8] (tupleG 2 (gCn (setM 7) (gCn (setM 8) gNl))) (fB (f2 leG (fVar 7) (fVar 5))) (fVar 8))) fNil)) (asg (setM 6)))
  (bnd (bnd (fVar 4) fun r => bnd (chkL r) fun _ => bnd (f2 modG (f2 addG (fVar 5) (fVar 6)) (f2 ixG (fVar 0) (fC (.int 0)))) fun v => appM r v) fun _ => ret .nx))))
  (bnd (fN tupG (fCons (fVar 4) fNil)) fun r => ret (.ret r)))))
noncomputable def F_read_at : List PyData → Res := runD 2 9 G_read_at
/-! readings -/
noncomputable def G_readings : M Fl := (sq (bnd (fCall F_need_almanac (fCons (fVar 0) fNil)) fun _ => ret .nx)
  (sq (bnd (fNot (fB (fCall F_is_story (fCons (fVar 0) (fCons (fVar 1) fNil))))) fun k => if k = true then (fun _ => .bad) else (ret .nx))
  (bnd (fCall F_read_at (fCons (fVar 0) (fCons (fVar 1) fNil))) fun r => ret (.ret r))))
noncomputable def F_readings : List PyData → Res := runD 2 2 G_readings
/-! need_hour -/
noncomputable def G_need_hour : M Fl := (bnd (fNot (fB (fCall F_is_number (fCons (fVar 0) (fCons (fC (.int 0)) (fCons (fC (.int 1000000000)) fNil)))))) fun k => if k = true then (fun _ => .bad) else (ret .nx))
noncomputable def F_need_hour : List PyData → Res := runD 1 1 G_need_hour
/-! shut -/
noncomputable def G_shut : M Fl := (sq (bnd (fCall F_need_almanac (fCons (fVar 0) fNil)) fun _ => ret .nx)
  (sq (bnd (fCall F_need_hour (fCons (fVar 1) fNil)) fun _ => ret .nx)
  (bnd (fN maxG (fCons (fC (.int 0)) (fCons (fCall F_shut_by (fCons (fVar 0) (fCons (fVar 1) fNil))) fNil))) fun r => ret (.ret r))))
noncomputable def F_shut : List PyData → Res := runD 2 2 G_shut
/-! opened -/
noncomputable def G_opened : M Fl := (sq (bnd (fCall F_need_almanac (fCons (fVar 0) fNil)) fun _ => ret .nx)
  (sq (bnd (fCall F_need_hour (fCons (fVar 1) fNil)) fun _ => ret .nx)
  (bnd (fN maxG (fCons (fC (.int 0)) (fCons (fCall F_opened_by (fCons (fVar 0) (fCons (fVar 1) fNil))) fNil))) fun r => ret (.ret r))))
noncomputable def F_opened : List PyData → Res := runD 2 2 G_opened
/-! urgent -/
noncomputable def G_urgent : M Fl := (sq (bnd (fCall F_need_almanac (fCons (fVar 0) fNil)) fun _ => ret .nx)
  (sq (bnd (fCall F_need_hour (fCons (fVar 1) fNil)) fun _ => ret .nx)
  (bnd (fN maxG (fCons (fC (.int 0)) (fCons (fCall F_urgent_at (fCons (fVar 0) (fCons (fVar 1) fNil))) fNil))) fun r => ret (.ret r))))
noncomputable def F_urgent : List PyData → Res := runD 2 2 G_urgent
/-! _law_taken -/
noncomputable def G__law_taken : M Fl := (sq (bnd (fB (f2 gtG (f2 ixG (fVar 0) (fC (.int 3))) (fC (.int 0)))) fun k => if k = true then (sq (bnd (f2 modG (fN intG (fCons (f2 ixG (fVar 0) (fC (.int 3))) fNil)) (fVar 1)) (asg (setM 2)))
  (sq (bnd (f2 divG (f2 ixG (fVar 0) (fC (.int 3))) (fVar 1)) fun v => bnd (fVar 0) fun r => bnd (fC (.int 3)) fun ri => setIx r ri v)
  (bnd (fVar 2) fun r => ret (.ret r)))) else (ret .nx))
  (sq (bnd (f2 addG (f2 ixG (fVar 0) (fC (.int 1))) (fC (.int 1))) fun v => bnd (fVar 0) fun r => bnd (fC (.int 1)) fun ri => setIx r ri v)
  (sq (bnd (fB (f2 gtG (f2 ixG (fVar 0) (fC (.int 1))) (fN lenG (fCons (f2 ixG (fVar 0) (fC (.int 0))) fNil)))) fun k => if k = true then (sq (bnd (f2 modG (fN intG (fCons (f2 addG (f2 mulG (f2 ixG (fVar 0) (fC (.int 2))) (fC (.int 48271))) (fC (.int 11))) fNil)) (fC (.int 2147483647))) fun v => bnd (fVar 0) fun r => bnd (fC (.int 2)) fun ri => setIx r ri v)
  (bnd (f2 modG (fN intG (fCons (f2 divG (f2 ixG (fVar 0) (fC (.int 2))) (fC (.int 7))) fNil)) (fVar 1)) fun r => ret (.ret r))) else (ret .nx))
  (sq (bnd (f2 ixG (f2 ixG (fVar 0) (fC (.int 0))) (f2 subG (f2 ixG (fVar 0) (fC (.int 1))) (fC (.int 1)))) (asg (setM 3)))
  (sq (bnd (f2 modG (fN intG (fCons (f2 addG (f2 addG (f2 mulG (f2 ixG (fVar 0) (fC (.int 2))) (fC (.int 48271))) (fVar 3)) (fC (.int 11))) fNil)) (fC (.int 2147483647))) fun v => bnd (fVar 0) fun r => bnd (fC (.int 2)) fun ri => setIx r ri v)
  (sq (bnd (fB (f2 geG (fVar 3) (f2 powG (fC (.int 10)) (fC (.int 18))))) fun k => if k = true then (bnd (f2 divG (fVar 3) (fVar 1)) fun v => bnd (fVar 0) fun r => bnd (fC (.int 3)) fun ri => setIx r ri v) else (ret .nx))
  (bnd (f2 modG (fN intG (fCons (fVar 3) fNil)) (fVar 1)) fun r => ret (.ret r))))))))
noncomputable def F__law_taken : List PyData → List PyData → RRes := runR 2 4 G__law_taken
/-! _law_almanac -/
noncomputable def G__law_almanac : M Fl := (sq (bnd (f2 addG (fC (.int 2)) (fCallR F__law_taken (fVar 0) (fCons (fC (.int 6)) fNil))) (asg (setM 1)))
  (sq (bnd (fCallR F__law_taken (fVar 0) (fCons (fVar 1) fNil)) (asg (setM 2)))
  (sq (bnd (f2 addG (fVar 2) (fCallR F__law_taken (fVar 0) (fCons (fVar 1) fNil))) (asg (setM 3)))
  (sq (bnd (f2 addG (fC (.int 1)) (fCallR F__law_taken (fVar 0) (fCons (fC (.int 3)) fNil))) (asg (setM 4)))
  (sq (bnd (f2 addG (fVar 4) (fCallR F__law_taken (fVar 0) (fCons (fC (.int 3)) fNil))) (asg (setM 5)))
  (sq (bnd (bnd (bnd (fCons (f2 subG (fC (.int 1)) (fVar 1)) (fCons (fVar 1) fNil)) rng2I) (compM [7] (setM 7) (fAnd (fB (f2 neG (fVar 7) (fC (.int 0)))) (fB (f2 ltG (fCallR F__law_taken (fVar 0) (fCons (f2 mulG (fC (.int 2)) (fVar 1)) fNil)) (fC (.int 2))))) (fVar 7))) (asg (setM 6)))
  (bnd (fTup (fCons (fVar 1) (fCons (fVar 2) (fCons (fVar 3) (fCons (fVar 4) (fCons (fVar 5) (fCons (fN tupG (fCons (bnd (fVar 6) fun r => bnd (ret none) fun i => bnd (bnd (fC (.int 2)) toI) fun j => cutM r i j) fNil)) (fCons (f2 addG (fC (.int 1)) (fCallR F__law_taken (fVar 0) (fCons (fC (.int 6)) fNil))) fNil)))))))) fun r => ret (.ret r))))))))
noncomputable def F__law_almanac : List PyData → List PyData → RRes := runR 1 8 G__law_almanac
/-! _law_pick -/
noncomputable def G__law_pick : M Fl := (bnd (f2 ixG (fVar 1) (fCallR F__law_taken (fVar 0) (fCons (fN lenG (fCons (fVar 1) fNil)) fNil))) fun r => ret (.ret r))
noncomputable def F__law_pick : List PyData → List PyData → RRes := runR 2 2 G__law_pick
/-! _law_story -/
noncomputable def G__law_story : M Fl := (sq (bnd (fTup (fCons (fC (.int 0)) (fCons (fC (.int 0)) (fCons (fC (.int 1)) (fCons (fTup fNil) (fCons (fTup (fCons (fC (.int 0)) fNil)) fNil)))))) (asg (tupleG 5 (gCn (setM 3) (gCn (setM 4) (gCn (setM 5) (gCn (setM 6) (gCn (setM 7) gNl))))))))
  (sq (bnd (bnd (fCons (fCallR F__law_taken (fVar 0) (fCons (fVar 2) fNil)) fNil) rng1I) (forM (setM 8) (sq (bnd (f2 addG (f2 ixG (fVar 1) (fC (.int 3))) (fCallR F__law_taken (fVar 0) (fCons (f2 addG (f2 subG (f2 ixG (fVar 1) (fC (.int 4))) (f2 ixG (fVar 1) (fC (.int 3)))) (fC (.int 1))) fNil))) (asg (setM 9)))
  (sq (bnd (bnd (fCons (fVar 9) fNil) rng1I) (forM (setM 10) (sq (bnd (f2 addG (fVar 3) (fC (.int 1))) (asg (setM 3)))
  (bnd (fAnd (fB (f2 geG (fVar 3) (fVar 5))) (fAnd (fB (f2 neG (f2 ixG (fVar 1) (fC (.int 5))) (fTup fNil))) (fB (f2 eqG (fCallR F__law_taken (fVar 0) (fCons (fC (.int 3)) fNil)) (fC (.int 0)))))) fun k => if k = true then (bnd (fCons (f2 addG (fVar 6) (fTup (fCons (fTup (fCons (fVar 3) (fCons (fCallR F__law_pick (fVar 0) (fCons (fL lstG (fCons (f2 ixG (fVar 1) (fC (.int 5))) fNil)) fNil)) fNil))) fNil))) (fCons (f2 addG (fVar 3) (f2 ixG (fVar 1) (fC (.int 6)))) fNil)) (par2 6 5)) else (ret .nx)))))
  (bnd (f2 addG (fVar 7) (fTup (fCons (fVar 3) fNil))) (asg (setM 7)))))))
  (bnd (fTup (fCons (fVar 7) (fCons (fVar 6) fNil))) fun r => ret (.ret r))))
noncomputable def F__law_story : List PyData → List PyData → RRes := runR 3 11 G__law_story
/-! _law_alike -/
noncomputable def G__law_alike (rec : List PyData → Res) : M Fl := (sq (bnd (fB (bnd (fVar 1) (app1 (isiG2 "tuple" "list")))) fun k => if k = true then (sq (bnd (fOr (fNot (fB (bnd (fVar 0) (app1 (isiG2 "tuple" "list"))))) (fB (f2 neG (bnd (fVar 0) (app1 (isiG "list"))) (bnd (fVar 1) (app1 (isiG "list")))))) fun k => if k = true then (bnd (fC (.bool false)) fun r => ret (.ret r)) else (ret .nx))
  (sq (bnd (fB (f2 neG (fN lenG (fCons (fVar 0) fNil)) (fN lenG (fCons (fVar 1) fNil)))) fun k => if k = true then (bnd (fC (.bool false)) fun r => ret (.ret r)) else (ret .nx))
  (bnd (f2 eqG (bnd (bnd (fCons (fN lenG (fCons (fVar 1) fNil)) fNil) rng1I) (compM [2] (setM 2) (fNot (fB (fCall rec (fCons (f2 ixG (fVar 0) (fVar 2)) (fCons (f2 ixG (fVar 1) (fVar 2)) fNil))))) (fVar 2))) (fLst fNil)) fun r => ret (.ret r)))) else (ret .nx))
  (sq (bnd (fOr (fB (f2 (isNG false) (fVar 1) (fC .none))) (fB (bnd (fVar 1) (app1 (isiG "str"))))) fun k => if k = true then (bnd (vAnd (f2 eqG (fVar 0) (fVar 1)) (f2 eqG (bnd (fVar 0) (app1 (isiG "str"))) (bnd (fVar 1) (app1 (isiG "str"))))) fun r => ret (.ret r)) else (ret .nx))
  (bnd (vAnd (bnd (fVar 0) (app1 (isiG "int"))) (vAnd (f2 eqG (bnd (fVar 0) (app1 (isiG "bool"))) (bnd (fVar 1) (app1 (isiG "bool")))) (f2 eqG (fVar 0) (fVar 1)))) fun r => ret (.ret r))))
noncomputable def F__law_alike : Nat → List PyData → Res
  | 0 => fun _ => .bad
  | n + 1 => runD 2 3 (G__law_alike (F__law_alike n))
/-! _law_read -/
noncomputable def G__law_read : M Fl := (sq (bnd (fLst fNil) (asg (setM 2)))
  (sq (bnd (bnd (f2 ixG (fVar 1) (fC (.int 0))) tupI) (forM (setM 3) (sq (bnd (fN sumG (fCons (bnd (bnd (f2 ixG (fVar 1) (fC (.int 1))) tupI) (compM [5, 6] (tupleG 2 (gCn (setM 5) (gCn (setM 6) gNl))) (fB (f2 leG (fVar 5) (fVar 3))) (fVar 6))) fNil)) (asg (setM 4)))
  (bnd (bnd (fVar 2) fun r => bnd (chkL r) fun _ => bnd (f2 modG (fN intG (fCons (f2 addG (fVar 3) (fVar 4)) fNil)) (f2 ixG (fVar 0) (fC (.int 0)))) fun v => appM r v) fun _ => ret .nx))))
  (bnd (fN tupG (fCons (fVar 2) fNil)) fun r => ret (.ret r))))
noncomputable def F__law_read : List PyData → Res := runD 2 7 G__law_read
/-! _law_shut -/
noncomputable def G__law_shut : M Fl := (sq (bnd (fC (.int 0)) (asg (setM 2)))
  (sq (whileM (fB (f2 ltG (f2 addG (f2 mulG (fVar 2) (f2 ixG (fVar 0) (fC (.int 0)))) (f2 ixG (fVar 0) (fC (.int 2)))) (fVar 1))) (bnd (f2 addG (fVar 2) (fC (.int 1))) (asg (setM 2))))
  (bnd (fVar 2) fun r => ret (.ret r))))
noncomputable def F__law_shut : List PyData → Res := runD 2 3 G__law_shut
/-! _law_open -/
noncomputable def G__law_open : M Fl := (sq (bnd (fC (.int 0)) (asg (setM 2)))
  (sq (whileM (fB (f2 leG (f2 addG (f2 mulG (fVar 2) (f2 ixG (fVar 0) (fC (.int 0)))) (f2 ixG (fVar 0) (fC (.int 1)))) (fVar 1))) (bnd (f2 addG (fVar 2) (fC (.int 1))) (asg (setM 2))))
  (bnd (fVar 2) fun r => ret (.ret r))))
noncomputable def F__law_open : List PyData → Res := runD 2 3 G__law_open
/-! law -/
noncomputable def G_law : M Fl := (sq (bnd (fLst (fCons (fVar 0) (fCons (fC (.int 0)) (fCons (fC (.int 3001)) (fCons (fC (.int 0)) fNil))))) (asg (setM 1)))
  (sq (bnd (fCallR F__law_almanac (fVar 1) fNil) (asg (setM 2)))
  (sq (bnd (bnd (fCons (fC (.int 3)) fNil) rng1I) (forM (setM 3) (sq (bnd (fCallR F__law_story (fVar 1) (fCons (fVar 2) (fCons (fC (.int 40)) fNil))) (asg (setM 4)))
  (sq (bnd (fNot (fB (fCall (F__law_alike 8) (fCons (fCall F_readings (fCons (fVar 2) (fCons (fVar 4) fNil))) (fCons (fCall F__law_read (fCons (fVar 2) (fCons (fVar 4) fNil))) fNil))))) fun k => if k = true then (bnd (fC (.bool false)) fun r => ret (.ret r)) else (ret .nx))
  (sq (bnd (fCallR F__law_taken (fVar 1) (fCons (fC (.int 90)) fNil)) (asg (setM 5)))
  (sq (bnd (fLst (fCons (fCall F__law_shut (fCons (fVar 2) (fCons (fVar 5) fNil))) (fCons (fCall F__law_open (fCons (fVar 2) (fCons (fVar 5) fNil))) (fCons (fCall F__law_shut (fCons (fVar 2) (fCons (f2 addG (fVar 5) (f2 ixG (fVar 2) (fC (.int 4)))) fNil))) fNil)))) (asg (setM 6)))
  (bnd (fNot (fB (fCall (F__law_alike 8) (fCons (fLst (fCons (fCall F_shut (fCons (fVar 2) (fCons (fVar 5) fNil))) (fCons (fCall F_opened (fCons (fVar 2) (fCons (fVar 5) fNil))) (fCons (fCall F_urgent (fCons (fVar 2) (fCons (fVar 5) fNil))) fNil)))) (fCons (fVar 6) fNil))))) fun k => if k = true then (bnd (fC (.bool false)) fun r => ret (.ret r)) else (ret .nx))))))))
  (sq (bnd (f2 subG (f2 powG (fC (.int 10)) (fC (.int 9))) (fCallR F__law_taken (fVar 1) (fCons (fC (.int 99)) fNil))) (asg (setM 7)))
  (sq (bnd (f2 subG (fVar 7) (f2 ixG (fVar 2) (fC (.int 1)))) (asg (setM 8)))
  (bnd (f2 eqG (fCall F_opened (fCons (fVar 2) (fCons (fVar 7) fNil))) (f2 addG (f2 divG (f2 subG (fVar 8) (f2 modG (fN intG (fCons (fVar 8) fNil)) (f2 ixG (fVar 2) (fC (.int 0))))) (f2 ixG (fVar 2) (fC (.int 0)))) (fC (.int 1)))) fun r => ret (.ret r)))))))
noncomputable def F_law : List PyData → Res := runD 1 9 G_law
structure Fs (K : PySem.W.Frag) (mg : Str → Option Value) (base : Heap) (TT : Addr → Prop) where
  fd_is_number : FuncData
  F_is_number : FunD K "is_number" "is_number" (defArgs (top 13)) (defBody (top 13)) (defScope (top 13)) [] [] (He.ga K "is_number") fd_is_number
  m_is_number : mg "is_number" = some (.ref (He.ga K "is_number"))
  fd_are_settings : FuncData
  F_are_settings : FunD K "are_settings" "are_settings" (defArgs (top 14)) (defBody (top 14)) (defScope (top 14)) [] [] (He.ga K "are_settings") fd_are_settings
  m_are_settings : mg "are_settings" = some (.ref (He.ga K "are_settings"))
  fd_need_almanac : FuncData
  F_need_almanac : FunD K "need_almanac" "need_almanac" (defArgs (top 15)) (defBody (top 15)) (defScope (top 15)) [] [] (He.ga K "need_almanac") fd_need_almanac
  m_need_almanac : mg "need_almanac" = some (.ref (He.ga K "need_almanac"))
  fd_shut_by : FuncData
  F_shut_by : FunD K "shut_by" "shut_by" (defArgs (top 16)) (defBody (top 16)) (defScope (top 16)) [] [] (He.ga K "shut_by") fd_shut_by
  m_shut_by : mg "shut_by" = some (.ref (He.ga K "shut_by"))
  fd_opened_by : FuncData
  F_opened_by : FunD K "opened_by" "opened_by" (defArgs (top 17)) (defBody (top 17)) (defScope (top 17)) [] [] (He.ga K "opened_by") fd_opened_by
  m_opened_by : mg "opened_by" = some (.ref (He.ga K "opened_by"))
  fd_urgent_at : FuncData
  F_urgent_at : FunD K "urgent_at" "urgent_at" (defArgs (top 18)) (defBody (top 18)) (defScope (top 18)) [] [] (He.ga K "urgent_at") fd_urgent_at
  m_urgent_at : mg "urgent_at" = some (.ref (He.ga K "urgent_at"))
  fd_are_wakings : FuncData
  F_are_wakings : FunD K "are_wakings" "are_wakings" (defArgs (top 19)) (defBody (top 19)) (defScope (top 19)) [] [] (He.ga K "are_wakings") fd_are_wakings
  m_are_wakings : mg "are_wakings" = some (.ref (He.ga K "are_wakings"))
  fd_are_sets : FuncData
  F_are_sets : FunD K "are_sets" "are_sets" (defArgs (top 20)) (defBody (top 20)) (defScope (top 20)) [] [] (He.ga K "are_sets") fd_are_sets
  m_are_sets : mg "are_sets" = some (.ref (He.ga K "are_sets"))
  fd_is_story : FuncData
  F_is_story : FunD K "is_story" "is_story" (defArgs (top 21)) (defBody (top 21)) (defScope (top 21)) [] [] (He.ga K "is_story") fd_is_story
  m_is_story : mg "is_story" = some (.ref (He.ga K "is_story"))
  fd_read_at : FuncData
  F_read_at : FunD K "read_at" "read_at" (defArgs (top 22)) (defBody (top 22)) (defScope (top 22)) [] [] (He.ga K "read_at") fd_read_at
  m_read_at : mg "read_at" = some (.ref (He.ga K "read_at"))
  fd_readings : FuncData
  F_readings : FunD K "readings" "readings" (defArgs (top 23)) (defBody (top 23)) (defScope (top 23)) [] [] (He.ga K "readings") fd_readings
  m_readings : mg "readings" = some (.ref (He.ga K "readings"))
  fd_need_hour : FuncData
  F_need_hour : FunD K "need_hour" "need_hour" (defArgs (top 24)) (defBody (top 24)) (defScope (top 24)) [] [] (He.ga K "need_hour") fd_need_hour
  m_need_hour : mg "need_hour" = some (.ref (He.ga K "need_hour"))
  fd_shut : FuncData
  F_shut : FunD K "shut" "shut" (defArgs (top 25)) (defBody (top 25)) (defScope (top 25)) [] [] (He.ga K "shut") fd_shut
  m_shut : mg "shut" = some (.ref (He.ga K "shut"))
  fd_opened : FuncData
  F_opened : FunD K "opened" "opened" (defArgs (top 26)) (defBody (top 26)) (defScope (top 26)) [] [] (He.ga K "opened") fd_opened
  m_opened : mg "opened" = some (.ref (He.ga K "opened"))
  fd_urgent : FuncData
  F_urgent : FunD K "urgent" "urgent" (defArgs (top 27)) (defBody (top 27)) (defScope (top 27)) [] [] (He.ga K "urgent") fd_urgent
  m_urgent : mg "urgent" = some (.ref (He.ga K "urgent"))
  fd__law_taken : FuncData
  F__law_taken : FunD K "_law_taken" "_law_taken" (defArgs (top 29)) (defBody (top 29)) (defScope (top 29)) [] [] (He.ga K "_law_taken") fd__law_taken
  m__law_taken : mg "_law_taken" = some (.ref (He.ga K "_law_taken"))
  fd__law_almanac : FuncData
  F__law_almanac : FunD K "_law_almanac" "_law_almanac" (defArgs (top 30)) (defBody (top 30)) (defScope (top 30)) [] [] (He.ga K "_law_almanac") fd__law_almanac
  m__law_almanac : mg "_law_almanac" = some (.ref (He.ga K "_law_almanac"))
  fd__law_pick : FuncData
  F__law_pick : FunD K "_law_pick" "_law_pick" (defArgs (top 31)) (defBody (top 31)) (defScope (top 31)) [] [] (He.ga K "_law_pick") fd__law_pick
  m__law_pick : mg "_law_pick" = some (.ref (He.ga K "_law_pick"))
  fd__law_story : FuncData
  F__law_story : FunD K "_law_story" "_law_story" (defArgs (top 32)) (defBody (top 32)) (defScope (top 32)) [] [] (He.ga K "_law_story") fd__law_story
  m__law_story : mg "_law_story" = some (.ref (He.ga K "_law_story"))
  fd__law_alike : FuncData
  F__law_alike : FunD K "_law_alike" "_law_alike" (defArgs (top 33)) (defBody (top 33)) (defScope (top 33)) [] [] (He.ga K "_law_alike") fd__law_alike
  m__law_alike : mg "_law_alike" = some (.ref (He.ga K "_law_alike"))
  fd__law_read : FuncData
  F__law_read : FunD K "_law_read" "_law_read" (defArgs (top 34)) (defBody (top 34)) (defScope (top 34)) [] [] (He.ga K "_law_read") fd__law_read
  m__law_read : mg "_law_read" = some (.ref (He.ga K "_law_read"))
  fd__law_shut : FuncData
  F__law_shut : FunD K "_law_shut" "_law_shut" (defArgs (top 35)) (defBody (top 35)) (defScope (top 35)) [] [] (He.ga K "_law_shut") fd__law_shut
  m__law_shut : mg "_law_shut" = some (.ref (He.ga K "_law_shut"))
  fd__law_open : FuncData
  F__law_open : FunD K "_law_open" "_law_open" (defArgs (top 36)) (defBody (top 36)) (defScope (top 36)) [] [] (He.ga K "_law_open") fd__law_open
  m__law_open : mg "_law_open" = some (.ref (He.ga K "_law_open"))
  fd_law : FuncData
  F_law : FunD K "law" "law" (defArgs (top 37)) (defBody (top 37)) (defScope (top 37)) [] [] (He.ga K "law") fd_law
  m_law : mg "law" = some (.ref (He.ga K "law"))
  n_all : mg "all" = none
  n_bool : mg "bool" = none
  n_int : mg "int" = none
  n_isinstance : mg "isinstance" = none
  n_len : mg "len" = none
  n_list : mg "list" = none
  n_max : mg "max" = none
  n_range : mg "range" = none
  n_str : mg "str" = none
  n_sum : mg "sum" = none
  n_tuple : mg "tuple" = none
  n_zip : mg "zip" = none
  i_LEAST_HOURS : ∃ t, mg "LEAST_HOURS" = some (.int 2 t)
  i_MOST_HOUR : ∃ t, mg "MOST_HOUR" = some (.int 1000000000 t)
  i_MOST_HOURS : ∃ t, mg "MOST_HOURS" = some (.int 12 t)
  i_MOST_LATE : ∃ t, mg "MOST_LATE" = some (.int 24 t)
  i_MOST_REST : ∃ t, mg "MOST_REST" = some (.int 12 t)
  i_MOST_SETTINGS : ∃ t, mg "MOST_SETTINGS" = some (.int 4 t)
  i_MOST_WAKINGS : ∃ t, mg "MOST_WAKINGS" = some (.int 60 t)
  c_are_settings : fd_are_settings.code = .ref (He.cT K ("are_settings", none)).1
  T_are_settings : GxR.TabB base mg (He.cT K ("are_settings", none)).1 (He.cT K ("are_settings", none)).2
  t_are_settings : TT (He.cT K ("are_settings", none)).2
section
variable {P : Program} {w : World} {K : PySem.W.Frag} {mg : Str → Option Value} {base : Heap} {TT : Addr → Prop}
theorem sc_is_number : FnScope ["value", "low", "high"] ["value", "low", "high"] (defScope (top 13)) := ⟨rfl, rfl, rfl, by decide +kernel, rfl, by decide +kernel, by decide +kernel⟩
theorem b_is_number (Z : Fs K mg base TT) : Binds K Z.fd_is_number ["value", "low", "high"] [] := Z.F_is_number.bindsN fun _ _ _ _ _ _ us hl => match us, hl with | [_, _, _], _ => rfl
theorem ok_is_number (Z : Fs K mg base TT) : FnOk P w K mg base (CX P w) 1 (He.ga K "is_number") Z.fd_is_number ["value", "low", "high"] (spD K TT F_is_number) :=
  okD Z.F_is_number sc_is_number fun z E hr hz => (
  (sd_one (sd_ret (pd_and (pd_isi Z.n_isinstance Z.n_int boot_int (pd_var 0)) (pd_and (pd_not (pd_isi Z.n_isinstance Z.n_bool boot_bool (pd_var 0))) (pd_one (pd_chain op_le o_cmp op_le o_cmp (pd_var 1) (pd_var 0) (pd_var 2))))))) : PSsD _ TT _ _ G_is_number)
theorem sc_are_settings : FnScope ["value", "hours"] ["value", "hours"] (defScope (top 14)) := ⟨rfl, rfl, rfl, by decide +kernel, rfl, by decide +kernel, by decide +kernel⟩
theorem b_are_settings (Z : Fs K mg base TT) : Binds K Z.fd_are_settings ["value", "hours"] [] := Z.F_are_settings.bindsN fun _ _ _ _ _ _ us hl => match us, hl with | [_, _], _ => rfl
theorem ok_are_settings (Z : Fs K mg base TT) : FnOk P w K mg base (CX P w) 2 (He.ga K "are_settings") Z.fd_are_settings ["value", "hours"] (spD K TT F_are_settings) :=
  okD Z.F_are_settings sc_are_settings fun z E hr hz => (
  (sd_cons (sd_if (pb_of (pw_o (pb_not (pb_val (pd_isi Z.n_isinstance Z.n_tuple boot_tuple (pd_var 0)))) (pw_o1 (pb_gt (pd_callB call_len n_len Z.n_len boot_len (ad_cons (pd_var 0) ad_nil)) (pd_gintE Z.i_MOST_SETTINGS))))) (sd_one (sd_ret pd_bl)) sd_nil)
  (sd_cons (sd_if (pb_not (pb_val (pd_q1 (q := true) [1] hr Z.n_all Z.T_are_settings (hz.trans Z.c_are_settings) Z.t_are_settings (gs_of (by rfl)) rfl (CapL.cons rfl rfl CapL.nil) (pd_var 0) (el_set Z.F_is_number rfl sc_is_number (b_is_number Z) (by decide +kernel) (by decide +kernel) Z.n_isinstance Z.n_int Z.n_bool hr Z.m_is_number rfl rfl rfl)))) (sd_one (sd_ret pd_bl)) sd_nil)
  (sd_one (sd_ret (pd_q2 (q := true) [] hr Z.n_all Z.n_zip Z.T_are_settings (hz.trans Z.c_are_settings) Z.t_are_settings (gs_of (by rfl)) rfl rfl (by decide) CapL.nil (ad_cons (pd_var 0) (ad_cons (pd_slice (pd_var 0) (od_some pd_int) od_none) ad_nil)) (el_lt rfl rfl)))))) : PSsD _ TT _ _ G_are_settings)
theorem sc_need_almanac : FnScope ["value", "hours", "first", "last", "soon", "late", "settings", "rest"] ["value"] (defScope (top 15)) := ⟨rfl, rfl, rfl, by decide +kernel, rfl, by decide +kernel, by decide +kernel⟩
theorem b_need_almanac (Z : Fs K mg base TT) : Binds K Z.fd_need_almanac ["value"] [] := Z.F_need_almanac.bindsN fun _ _ _ _ _ _ us hl => match us, hl with | [_], _ => rfl
theorem ok_need_almanac (Z : Fs K mg base TT) : FnOk P w K mg base (CX P w) 3 (He.ga K "need_almanac") Z.fd_need_almanac ["value"] (spD K TT F_need_almanac) :=
  okD Z.F_need_almanac sc_need_almanac fun z E hr hz => (
  (sd_cons (sd_if (pb_of (pw_o (pb_not (pb_val (pd_isi Z.n_isinstance Z.n_tuple boot_tuple (pd_var 0)))) (pw_o1 (pb_ne (hu_of hr) (pd_callB call_len n_len Z.n_len boot_len (ad_cons (pd_var 0) ad_nil)) pd_int)))) (sd_one sd_bad) sd_nil)
  (sd_cons (sd_asg (pd_var 0) (gd_tup rfl (gsd_cons (gd_name 1 sc_need_almanac.nd) (gsd_cons (gd_name 2 sc_need_almanac.nd) (gsd_cons (gd_name 3 sc_need_almanac.nd) (gsd_cons (gd_name 4 sc_need_almanac.nd) (gsd_cons (gd_name 5 sc_need_almanac.nd) (gsd_cons (gd_name 6 sc_need_almanac.nd) (gsd_cons (gd_name 7 sc_need_almanac.nd) gsd_nil)))))))))
  (sd_cons (sd_if (pb_not (pb_val (pd_call (ok_is_number Z) (hr.mono (by omega)) Z.m_is_number Z.F_is_number.kp (b_is_number Z) (fun σ => passAt (takes_of rfl rfl rfl rfl) σ) (ad_cons (pd_var 1) (ad_cons (pd_gintE Z.i_LEAST_HOURS) (ad_cons (pd_gintE Z.i_MOST_HOURS) ad_nil)))))) (sd_one sd_bad) sd_nil)
  (sd_cons (sd_if (pb_not (pb_val (pd_call (ok_is_number Z) (hr.mono (by omega)) Z.m_is_number Z.F_is_number.kp (b_is_number Z) (fun σ => passAt (takes_of rfl rfl rfl rfl) σ) (ad_cons (pd_var 2) (ad_cons pd_int (ad_cons (pd_sub (pd_var 1) pd_int) ad_nil)))))) (sd_one sd_bad) sd_nil)
  (sd_cons (sd_if (pb_not (pb_val (pd_call (ok_is_number Z) (hr.mono (by omega)) Z.m_is_number Z.F_is_number.kp (b_is_number Z) (fun σ => passAt (takes_of rfl rfl rfl rfl) σ) (ad_cons (pd_var 3) (ad_cons (pd_var 2) (ad_cons (pd_sub (pd_add (pd_var 2) (pd_var 1)) pd_int) ad_nil)))))) (sd_one sd_bad) sd_nil)
  (sd_cons (sd_if (pb_not (pb_val (pd_call (ok_is_number Z) (hr.mono (by omega)) Z.m_is_number Z.F_is_number.kp (b_is_number Z) (fun σ => passAt (takes_of rfl rfl rfl rfl) σ) (ad_cons (pd_var 4) (ad_cons pd_int (ad_cons (pd_gintE Z.i_MOST_LATE) ad_nil)))))) (sd_one sd_bad) sd_nil)
  (sd_cons (sd_if (pb_not (pb_val (pd_call (ok_is_number Z) (hr.mono (by omega)) Z.m_is_number Z.F_is_number.kp (b_is_number Z) (fun σ => passAt (takes_of rfl rfl rfl rfl) σ) (ad_cons (pd_var 5) (ad_cons (pd_var 4) (ad_cons (pd_gintE Z.i_MOST_LATE) ad_nil)))))) (sd_one sd_bad) sd_nil)
  (sd_cons (sd_if (pb_not (pb_val (pd_call (ok_are_settings Z) (hr.mono (by omega)) Z.m_are_settings Z.F_are_settings.kp (b_are_settings Z) (fun σ => passAt (takes_of rfl rfl rfl rfl) σ) (ad_cons (pd_var 6) (ad_cons (pd_var 1) ad_nil))))) (sd_one sd_bad) sd_nil)
  (sd_one (sd_if (pb_not (pb_val (pd_call (ok_is_number Z) (hr.mono (by omega)) Z.m_is_number Z.F_is_number.kp (b_is_number Z) (fun σ => passAt (takes_of rfl rfl rfl rfl) σ) (ad_cons (pd_var 7) (ad_cons pd_int (ad_cons (pd_gintE Z.i_MOST_REST) ad_nil)))))) (sd_one sd_bad) sd_nil)))))))))) : PSsD _ TT _ _ G_need_almanac)
theorem sc_shut_by : FnScope ["almanac", "hour"] ["almanac", "hour"] (defScope (top 16)) := ⟨rfl, rfl, rfl, by decide +kernel, rfl, by decide +kernel, by decide +kernel⟩
theorem b_shut_by (Z : Fs K mg base TT) : Binds K Z.fd_shut_by ["almanac", "hour"] [] := Z.F_shut_by.bindsN fun _ _ _ _ _ _ us hl => match us, hl with | [_, _], _ => rfl
theorem ok_shut_by (Z : Fs K mg base TT) : FnOk P w K mg base (CX P w) 1 (He.ga K "shut_by") Z.fd_shut_by ["almanac", "hour"] (spD K TT F_shut_by) :=
  okD Z.F_shut_by sc_shut_by fun z E hr hz => (
  (sd_one (sd_ret (pd_add (pd_div (pd_sub (pd_sub (pd_var 1) pd_int) (pd_ix (pd_var 0) pd_int)) (pd_ix (pd_var 0) pd_int)) pd_int))) : PSsD _ TT _ _ G_shut_by)
theorem sc_opened_by : FnScope ["almanac", "hour"] ["almanac", "hour"] (defScope (top 17)) := ⟨rfl, rfl, rfl, by decide +kernel, rfl, by decide +kernel, by decide +kernel⟩
theorem b_opened_by (Z : Fs K mg base TT) : Binds K Z.fd_opened_by ["almanac", "hour"] [] := Z.F_opened_by.bindsN fun _ _ _ _ _ _ us hl => match us, hl with | [_, _], _ => rfl
theorem ok_opened_by (Z : Fs K mg base TT) : FnOk P w K mg base (CX P w) 1 (He.ga K "opened_by") Z.fd_opened_by ["almanac", "hour"] (spD K TT F_opened_by) :=
  okD Z.F_opened_by sc_opened_by fun z E hr hz => (
  (sd_one (sd_ret (pd_add (pd_div (pd_sub (pd_var 1) (pd_ix (pd_var 0) pd_int)) (pd_ix (pd_var 0) pd_int)) pd_int))) : PSsD _ TT _ _ G_opened_by)
theorem sc_urgent_at : FnScope ["almanac", "hour"] ["almanac", "hour"] (defScope (top 18)) := ⟨rfl, rfl, rfl, by decide +kernel, rfl, by decide +kernel, by decide +kernel⟩
theorem b_urgent_at (Z : Fs K mg base TT) : Binds K Z.fd_urgent_at ["almanac", "hour"] [] := Z.F_urgent_at.bindsN fun _ _ _ _ _ _ us hl => match us, hl with | [_, _], _ => rfl
theorem ok_urgent_at (Z : Fs K mg base TT) : FnOk P w K mg base (CX P w) 2 (He.ga K "urgent_at") Z.fd_urgent_at ["almanac", "hour"] (spD K TT F_urgent_at) :=
  okD Z.F_urgent_at sc_urgent_at fun z E hr hz => (
  (sd_one (sd_ret (pd_call (ok_shut_by Z) (hr.mono (by omega)) Z.m_shut_by Z.F_shut_by.kp (b_shut_by Z) (fun σ => passAt (takes_of rfl rfl rfl rfl) σ) (ad_cons (pd_var 0) (ad_cons (pd_add (pd_var 1) (pd_ix (pd_var 0) pd_int)) ad_nil))))) : PSsD _ TT _ _ G_urgent_at)
theorem sc_are_wakings : FnScope ["almanac", "value", "one", "other"] ["almanac", "value"] (defScope (top 19)) := ⟨rfl, rfl, rfl, by decide +kernel, rfl, by decide +kernel, by decide +kernel⟩
theorem b_are_wakings (Z : Fs K mg base TT) : Binds K Z.fd_are_wakings ["almanac", "value"] [] := Z.F_are_wakings.bindsN fun _ _ _ _ _ _ us hl => match us, hl with | [_, _], _ => rfl
theorem ok_are_wakings (Z : Fs K mg base TT) : FnOk P w K mg base (CX P w) 2 (He.ga K "are_wakings") Z.fd_are_wakings ["almanac", "value"] (spD K TT F_are_wakings) :=
  okD Z.F_are_wakings sc_are_wakings fun z E hr hz => (
  (sd_cons (sd_if (pb_of (pw_o (pb_not (pb_val (pd_isi Z.n_isinstance Z.n_tuple boot_tuple (pd_var 1)))) (pw_o (pb_not (pb_chain op_le o_cmp op_le o_cmp pd_int (pd_callB call_len n_len Z.n_len boot_len (ad_cons (pd_var 1) ad_nil)) (pd_gintE Z.i_MOST_WAKINGS))) (pw_o1 (pb_not (pb_val (pd_call (ok_is_number Z) (hr.mono (by omega)) Z.m_is_number Z.F_is_number.kp (b_is_number Z) (fun σ => passAt (takes_of rfl rfl rfl rfl) σ) (ad_cons (pd_ix (pd_var 1) pd_int) (ad_cons pd_int (ad_cons pd_int ad_nil)))))))))) (sd_one (sd_ret pd_bl)) sd_nil)
  (sd_cons (sd_for (passes_of rfl) rfl (id_zipT Z.n_zip (ad_cons (pd_var 1) (ad_cons (pd_slice (pd_var 1) (od_some pd_int) od_none) ad_nil))) (gd_tup rfl (gsd_cons (gd_name 2 sc_are_wakings.nd) (gsd_cons (gd_name 3 sc_are_wakings.nd) gsd_nil))) (sd_one (sd_if (pb_not (pb_val (pd_call (ok_is_number Z) (hr.mono (by omega)) Z.m_is_number Z.F_is_number.kp (b_is_number Z) (fun σ => passAt (takes_of rfl rfl rfl rfl) σ) (ad_cons (pd_var 3) (ad_cons (pd_add (pd_var 2) (pd_ix (pd_var 0) pd_int)) (ad_cons (pd_add (pd_var 2) (pd_ix (pd_var 0) pd_int)) ad_nil)))))) (sd_one (sd_ret pd_bl)) sd_nil)))
  (sd_one (sd_ret pd_bl)))) : PSsD _ TT _ _ G_are_wakings)
theorem sc_are_sets : FnScope ["almanac", "value", "end", "least", "pair"] ["almanac", "value", "end"] (defScope (top 20)) := ⟨rfl, rfl, rfl, by decide +kernel, rfl, by decide +kernel, by decide +kernel⟩
theorem b_are_sets (Z : Fs K mg base TT) : Binds K Z.fd_are_sets ["almanac", "value", "end"] [] := Z.F_are_sets.bindsN fun _ _ _ _ _ _ us hl => match us, hl with | [_, _, _], _ => rfl
theorem ok_are_sets (Z : Fs K mg base TT) : FnOk P w K mg base (CX P w) 2 (He.ga K "are_sets") Z.fd_are_sets ["almanac", "value", "end"] (spD K TT F_are_sets) :=
  okD Z.F_are_sets sc_are_sets fun z E hr hz => (
  (sd_cons (sd_if (pb_not (pb_val (pd_isi Z.n_isinstance Z.n_tuple boot_tuple (pd_var 1)))) (sd_one (sd_ret pd_bl)) sd_nil)
  (sd_cons (sd_set 3 sc_are_sets.nd pd_int)
  (sd_cons (sd_for (passes_of rfl) rfl (id_tup (pd_var 1)) (gd_name 4 sc_are_sets.nd) (sd_cons (sd_if (pb_of (pw_o (pb_not (pb_val (pd_isi Z.n_isinstance Z.n_tuple boot_tuple (pd_var 4)))) (pw_o (pb_ne (hu_of hr) (pd_callB call_len n_len Z.n_len boot_len (ad_cons (pd_var 4) ad_nil)) pd_int) (pw_o1 (pb_not (pb_val (pd_call (ok_is_number Z) (hr.mono (by omega)) Z.m_is_number Z.F_is_number.kp (b_is_number Z) (fun σ => passAt (takes_of rfl rfl rfl rfl) σ) (ad_cons (pd_ix (pd_var 4) pd_int) (ad_cons (pd_var 3) (ad_cons (pd_var 2) ad_nil)))))))))) (sd_one (sd_ret pd_bl)) sd_nil)
  (sd_cons (sd_if (pb_of (pw_o (pb_val (pd_isi Z.n_isinstance Z.n_bool boot_bool (pd_ix (pd_var 4) pd_int))) (pw_o (pb_not (pb_val (pd_isi Z.n_isinstance Z.n_int boot_int (pd_ix (pd_var 4) pd_int)))) (pw_o1 (pb_nin (pd_ix (pd_var 4) pd_int) (pd_ix (pd_var 0) pd_int)))))) (sd_one (sd_ret pd_bl)) sd_nil)
  (sd_one (sd_set 3 sc_are_sets.nd (pd_add (pd_ix (pd_var 4) pd_int) (pd_ix (pd_var 0) pd_int)))))))
  (sd_one (sd_ret pd_bl))))) : PSsD _ TT _ _ G_are_sets)
theorem sc_is_story : FnScope ["almanac", "value"] ["almanac", "value"] (defScope (top 21)) := ⟨rfl, rfl, rfl, by decide +kernel, rfl, by decide +kernel, by decide +kernel⟩
theorem b_is_story (Z : Fs K mg base TT) : Binds K Z.fd_is_story ["almanac", "value"] [] := Z.F_is_story.bindsN fun _ _ _ _ _ _ us hl => match us, hl with | [_, _], _ => rfl
theorem ok_is_story (Z : Fs K mg base TT) : FnOk P w K mg base (CX P w) 3 (He.ga K "is_story") Z.fd_is_story ["almanac", "value"] (spD K TT F_is_story) :=
  okD Z.F_is_story sc_is_story fun z E hr hz => (
  (sd_cons (sd_if (pb_of (pw_o (pb_not (pb_val (pd_isi Z.n_isinstance Z.n_tuple boot_tuple (pd_var 1)))) (pw_o (pb_ne (hu_of hr) (pd_callB call_len n_len Z.n_len boot_len (ad_cons (pd_var 1) ad_nil)) pd_int) (pw_o1 (pb_not (pb_val (pd_call (ok_are_wakings Z) (hr.mono (by omega)) Z.m_are_wakings Z.F_are_wakings.kp (b_are_wakings Z) (fun σ => passAt (takes_of rfl rfl rfl rfl) σ) (ad_cons (pd_var 0) (ad_cons (pd_ix (pd_var 1) pd_int) ad_nil))))))))) (sd_one (sd_ret pd_bl)) sd_nil)
  (sd_one (sd_ret (pd_call (ok_are_sets Z) (hr.mono (by omega)) Z.m_are_sets Z.F_are_sets.kp (b_are_sets Z) (fun σ => passAt (takes_of rfl rfl rfl rfl) σ) (ad_cons (pd_var 0) (ad_cons (pd_ix (pd_var 1) pd_int) (ad_cons (pd_ix (pd_ix (pd_var 1) pd_int) (pd_neg pd_int)) ad_nil))))))) : PSsD _ TT _ _ G_is_story)
theorem sc_read_at : FnScope ["almanac", "story", "wakings", "sets", "found", "waking", "error", "hour", "setting"] ["almanac", "story"] (defScope (top 22)) := ⟨rfl, rfl, rfl, by decide +kernel, rfl, by decide +kernel, by decide +kernel⟩
theorem b_read_at (Z : Fs K mg base TT) : Binds K Z.fd_read_at ["almanac", "story"] [] := Z.F_read_at.bindsN fun _ _ _ _ _ _ us hl => match us, hl with | [_, _], _ => rfl
theorem ok_read_at (Z : Fs K mg base TT) : FnOk P w K mg base (CX P w) 1 (He.ga K "read_at") Z.fd_read_at ["almanac", "story"] (spD K TT F_read_at) :=
  okD Z.F_read_at sc_read_at fun z E hr hz => (
  (sd_cons (sd_asg (pd_var 1) (gd_tup rfl (gsd_cons (gd_name 2 sc_read_at.nd) (gsd_cons (gd_name 3 sc_read_at.nd) gsd_nil))))
  (sd_cons (sd_set 4 sc_read_at.nd (pd_lst ad_nil))
  (sd_cons (sd_for (passes_of rfl) rfl (id_tup (pd_var 2)) (gd_name 5 sc_read_at.nd) (sd_cons (sd_set 6 sc_read_at.nd (pd_callB (cr_sum rfl) n_sum Z.n_sum boot_sum (ad_cons (pd_lc ([("hour", 7), ("setting", 8)] : List (Str × Nat)) rfl sc_read_at.nd (id_tup (pd_var 3)) (blk_of (by rfl)) (fun z => (gd_tup rfl (gsd_cons (gd_name 7 sc_read_at.nd) (gsd_cons (gd_name 8 sc_read_at.nd) gsd_nil)))) (fun z => (ts_one (pb_le (pd_var 7) (pd_var 5)))) (fun z => (pd_var 8))) ad_nil)))
  (sd_one (sd_expr (pd_append (pd_var 4) (pd_mod (pd_add (pd_var 5) (pd_var 6)) (pd_ix (pd_var 0) pd_int)))))))
  (sd_one (sd_ret (pd_callTy call_tuple_of n_tup Z.n_tuple boot_tuple (ad_cons (pd_var 4) ad_nil))))))) : PSsD _ TT _ _ G_read_at)
theorem sc_readings : FnScope ["almanac", "story"] ["almanac", "story"] (defScope (top 23)) := ⟨rfl, rfl, rfl, by decide +kernel, rfl, by decide +kernel, by decide +kernel⟩
theorem b_readings (Z : Fs K mg base TT) : Binds K Z.fd_readings ["almanac", "story"] [] := Z.F_readings.bindsN fun _ _ _ _ _ _ us hl => match us, hl with | [_, _], _ => rfl
theorem ok_readings (Z : Fs K mg base TT) : FnOk P w K mg base (CX P w) 4 (He.ga K "readings") Z.fd_readings ["almanac", "story"] (spD K TT F_readings) :=
  okD Z.F_readings sc_readings fun z E hr hz => (
  (sd_cons (sd_expr (pd_call (ok_need_almanac Z) (hr.mono (by omega)) Z.m_need_almanac Z.F_need_almanac.kp (b_need_almanac Z) (fun σ => passAt (takes_of rfl rfl rfl rfl) σ) (ad_cons (pd_var 0) ad_nil)))
  (sd_cons (sd_if (pb_not (pb_val (pd_call (ok_is_story Z) (hr.mono (by omega)) Z.m_is_story Z.F_is_story.kp (b_is_story Z) (fun σ => passAt (takes_of rfl rfl rfl rfl) σ) (ad_cons (pd_var 0) (ad_cons (pd_var 1) ad_nil))))) (sd_one sd_bad) sd_nil)
  (sd_one (sd_ret (pd_call (ok_read_at Z) (hr.mono (by omega)) Z.m_read_at Z.F_read_at.kp (b_read_at Z) (fun σ => passAt (takes_of rfl rfl rfl rfl) σ) (ad_cons (pd_var 0) (ad_cons (pd_var 1) ad_nil))))))) : PSsD _ TT _ _ G_readings)
theorem sc_need_hour : FnScope ["value"] ["value"] (defScope (top 24)) := ⟨rfl, rfl, rfl, by decide +kernel, rfl, by decide +kernel, by decide +kernel⟩
theorem b_need_hour (Z : Fs K mg base TT) : Binds K Z.fd_need_hour ["value"] [] := Z.F_need_hour.bindsN fun _ _ _ _ _ _ us hl => match us, hl with | [_], _ => rfl
theorem ok_need_hour (Z : Fs K mg base TT) : FnOk P w K mg base (CX P w) 2 (He.ga K "need_hour") Z.fd_need_hour ["value"] (spD K TT F_need_hour) :=
  okD Z.F_need_hour sc_need_hour fun z E hr hz => (
  (sd_one (sd_if (pb_not (pb_val (pd_call (ok_is_number Z) (hr.mono (by omega)) Z.m_is_number Z.F_is_number.kp (b_is_number Z) (fun σ => passAt (takes_of rfl rfl rfl rfl) σ) (ad_cons (pd_var 0) (ad_cons pd_int (ad_cons (pd_gintE Z.i_MOST_HOUR) ad_nil)))))) (sd_one sd_bad) sd_nil)) : PSsD _ TT _ _ G_need_hour)
theorem sc_shut : FnScope ["almanac", "hour"] ["almanac", "hour"] (defScope (top 25)) := ⟨rfl, rfl, rfl, by decide +kernel, rfl, by decide +kernel, by decide +kernel⟩
theorem b_shut (Z : Fs K mg base TT) : Binds K Z.fd_shut ["almanac", "hour"] [] := Z.F_shut.bindsN fun _ _ _ _ _ _ us hl => match us, hl with | [_, _], _ => rfl
theorem ok_shut (Z : Fs K mg base TT) : FnOk P w K mg base (CX P w) 4 (He.ga K "shut") Z.fd_shut ["almanac", "hour"] (spD K TT F_shut) :=
  okD Z.F_shut sc_shut fun z E hr hz => (
  (sd_cons (sd_expr (pd_call (ok_need_almanac Z) (hr.mono (by omega)) Z.m_need_almanac Z.F_need_almanac.kp (b_need_almanac Z) (fun σ => passAt (takes_of rfl rfl rfl rfl) σ) (ad_cons (pd_var 0) ad_nil)))
  (sd_cons (sd_expr (pd_call (ok_need_hour Z) (hr.mono (by omega)) Z.m_need_hour Z.F_need_hour.kp (b_need_hour Z) (fun σ => passAt (takes_of rfl rfl rfl rfl) σ) (ad_cons (pd_var 1) ad_nil)))
  (sd_one (sd_ret (pd_callB (call_max2 rfl) n_max Z.n_max boot_max (ad_cons pd_int (ad_cons (pd_call (ok_shut_by Z) (hr.mono (by omega)) Z.m_shut_by Z.F_shut_by.kp (b_shut_by Z) (fun σ => passAt (takes_of rfl rfl rfl rfl) σ) (ad_cons (pd_var 0) (ad_cons (pd_var 1) ad_nil))) ad_nil))))))) : PSsD _ TT _ _ G_shut)
theorem sc_opened : FnScope ["almanac", "hour"] ["almanac", "hour"] (defScope (top 26)) := ⟨rfl, rfl, rfl, by decide +kernel, rfl, by decide +kernel, by decide +kernel⟩
theorem b_opened (Z : Fs K mg base TT) : Binds K Z.fd_opened ["almanac", "hour"] [] := Z.F_opened.bindsN fun _ _ _ _ _ _ us hl => match us, hl with | [_, _], _ => rfl
theorem ok_opened (Z : Fs K mg base TT) : FnOk P w K mg base (CX P w) 4 (He.ga K "opened") Z.fd_opened ["almanac", "hour"] (spD K TT F_opened) :=
  okD Z.F_opened sc_opened fun z E hr hz => (
  (sd_cons (sd_expr (pd_call (ok_need_almanac Z) (hr.mono (by omega)) Z.m_need_almanac Z.F_need_almanac.kp (b_need_almanac Z) (fun σ => passAt (takes_of rfl rfl rfl rfl) σ) (ad_cons (pd_var 0) ad_nil)))
  (sd_cons (sd_expr (pd_call (ok_need_hour Z) (hr.mono (by omega)) Z.m_need_hour Z.F_need_hour.kp (b_need_hour Z) (fun σ => passAt (takes_of rfl rfl rfl rfl) σ) (ad_cons (pd_var 1) ad_nil)))
  (sd_one (sd_ret (pd_callB (call_max2 rfl) n_max Z.n_max boot_max (ad_cons pd_int (ad_cons (pd_call (ok_opened_by Z) (hr.mono (by omega)) Z.m_opened_by Z.F_opened_by.kp (b_opened_by Z) (fun σ => passAt (takes_of rfl rfl rfl rfl) σ) (ad_cons (pd_var 0) (ad_cons (pd_var 1) ad_nil))) ad_nil))))))) : PSsD _ TT _ _ G_opened)
theorem sc_urgent : FnScope ["almanac", "hour"] ["almanac", "hour"] (defScope (top 27)) := ⟨rfl, rfl, rfl, by decide +kernel, rfl, by decide +kernel, by decide +kernel⟩
theorem b_urgent (Z : Fs K mg base TT) : Binds K Z.fd_urgent ["almanac", "hour"] [] := Z.F_urgent.bindsN fun _ _ _ _ _ _ us hl => match us, hl with | [_, _], _ => rfl
theorem ok_urgent (Z : Fs K mg base TT) : FnOk P w K mg base (CX P w) 4 (He.ga K "urgent") Z.fd_urgent ["almanac", "hour"] (spD K TT F_urgent) :=
  okD Z.F_urgent sc_urgent fun z E hr hz => (
  (sd_cons (sd_expr (pd_call (ok_need_almanac Z) (hr.mono (by omega)) Z.m_need_almanac Z.F_need_almanac.kp (b_need_almanac Z) (fun σ => passAt (takes_of rfl rfl rfl rfl) σ) (ad_cons (pd_var 0) ad_nil)))
  (sd_cons (sd_expr (pd_call (ok_need_hour Z) (hr.mono (by omega)) Z.m_need_hour Z.F_need_hour.kp (b_need_hour Z) (fun σ => passAt (takes_of rfl rfl rfl rfl) σ) (ad_cons (pd_var 1) ad_nil)))
  (sd_one (sd_ret (pd_callB (call_max2 rfl) n_max Z.n_max boot_max (ad_cons pd_int (ad_cons (pd_call (ok_urgent_at Z) (hr.mono (by omega)) Z.m_urgent_at Z.F_urgent_at.kp (b_urgent_at Z) (fun σ => passAt (takes_of rfl rfl rfl rfl) σ) (ad_cons (pd_var 0) (ad_cons (pd_var 1) ad_nil))) ad_nil))))))) : PSsD _ TT _ _ G_urgent)
theorem sc__law_taken : FnScope ["_law_row", "_law_many", "_law_found", "_law_cell"] ["_law_row", "_law_many"] (defScope (top 29)) := ⟨rfl, rfl, rfl, by decide +kernel, rfl, by decide +kernel, by decide +kernel⟩
theorem b__law_taken (Z : Fs K mg base TT) : Binds K Z.fd__law_taken ["_law_row", "_law_many"] [] := Z.F__law_taken.bindsN fun _ _ _ _ _ _ us hl => match us, hl with | [_, _], _ => rfl
theorem ok__law_taken (Z : Fs K mg base TT) : FnOk P w K mg base (CX P w) 1 (He.ga K "_law_taken") Z.fd__law_taken ["_law_row", "_law_many"] (spR K TT F__law_taken) :=
  okR Z.F__law_taken sc__law_taken fun z E hr hz => (
  (sd_cons (sd_if (pb_gt (pd_ix (pd_var 0) pd_int) pd_int) (sd_cons (sd_set 2 sc__law_taken.nd (pd_mod (pd_callTy call_int1 n_int Z.n_int boot_int (ad_cons (pd_ix (pd_var 0) pd_int) ad_nil)) (pd_var 1)))
  (sd_cons (sd_setIx (pd_div (pd_ix (pd_var 0) pd_int) (pd_var 1)) (pd_var 0) pd_int)
  (sd_one (sd_ret (pd_var 2))))) sd_nil)
  (sd_cons (sd_setIx (pd_add (pd_ix (pd_var 0) pd_int) pd_int) (pd_var 0) pd_int)
  (sd_cons (sd_if (pb_gt (pd_ix (pd_var 0) pd_int) (pd_callB call_len n_len Z.n_len boot_len (ad_cons (pd_ix (pd_var 0) pd_int) ad_nil))) (sd_cons (sd_setIx (pd_mod (pd_callTy call_int1 n_int Z.n_int boot_int (ad_cons (pd_add (pd_mul (pd_ix (pd_var 0) pd_int) pd_int) pd_int) ad_nil)) pd_int) (pd_var 0) pd_int)
  (sd_one (sd_ret (pd_mod (pd_callTy call_int1 n_int Z.n_int boot_int (ad_cons (pd_div (pd_ix (pd_var 0) pd_int) pd_int) ad_nil)) (pd_var 1))))) sd_nil)
  (sd_cons (sd_set 3 sc__law_taken.nd (pd_ix (pd_ix (pd_var 0) pd_int) (pd_sub (pd_ix (pd_var 0) pd_int) pd_int)))
  (sd_cons (sd_setIx (pd_mod (pd_callTy call_int1 n_int Z.n_int boot_int (ad_cons (pd_add (pd_add (pd_mul (pd_ix (pd_var 0) pd_int) pd_int) (pd_var 3)) pd_int) ad_nil)) pd_int) (pd_var 0) pd_int)
  (sd_cons (sd_if (pb_ge (pd_var 3) (pd_pow pd_int pd_int)) (sd_one (sd_setIx (pd_div (pd_var 3) (pd_var 1)) (pd_var 0) pd_int)) sd_nil)
  (sd_one (sd_ret (pd_mod (pd_callTy call_int1 n_int Z.n_int boot_int (ad_cons (pd_var 3) ad_nil)) (pd_var 1)))))))))) : PSsD _ TT _ _ G__law_taken)
theorem sc__law_almanac : FnScope ["_law_row", "_law_hours", "_law_first", "_law_last", "_law_soon", "_law_late", "_law_some", "_law_one"] ["_law_row"] (defScope (top 30)) := ⟨rfl, rfl, rfl, by decide +kernel, rfl, by decide +kernel, by decide +kernel⟩
theorem b__law_almanac (Z : Fs K mg base TT) : Binds K Z.fd__law_almanac ["_law_row"] [] := Z.F__law_almanac.bindsN fun _ _ _ _ _ _ us hl => match us, hl with | [_], _ => rfl
theorem ok__law_almanac (Z : Fs K mg base TT) : FnOk P w K mg base (CX P w) 2 (He.ga K "_law_almanac") Z.fd__law_almanac ["_law_row"] (spR K TT F__law_almanac) :=
  okR Z.F__law_almanac sc__law_almanac fun z E hr hz => (
  (sd_cons (sd_set 1 sc__law_almanac.nd (pd_add pd_int (pd_callR (ok__law_taken Z) (hr.mono (by omega)) Z.m__law_taken Z.F__law_taken.kp (b__law_taken Z) (fun σ => passAt (takes_of rfl rfl rfl rfl) σ) (pd_var 0) (ad_cons pd_int ad_nil))))
  (sd_cons (sd_set 2 sc__law_almanac.nd (pd_callR (ok__law_taken Z) (hr.mono (by omega)) Z.m__law_taken Z.F__law_taken.kp (b__law_taken Z) (fun σ => passAt (takes_of rfl rfl rfl rfl) σ) (pd_var 0) (ad_cons (pd_var 1) ad_nil)))
  (sd_cons (sd_set 3 sc__law_almanac.nd (pd_add (pd_var 2) (pd_callR (ok__law_taken Z) (hr.mono (by omega)) Z.m__law_taken Z.F__law_taken.kp (b__law_taken Z) (fun σ => passAt (takes_of rfl rfl rfl rfl) σ) (pd_var 0) (ad_cons (pd_var 1) ad_nil))))
  (sd_cons (sd_set 4 sc__law_almanac.nd (pd_add pd_int (pd_callR (ok__law_taken Z) (hr.mono (by omega)) Z.m__law_taken Z.F__law_taken.kp (b__law_taken Z) (fun σ => passAt (takes_of rfl rfl rfl rfl) σ) (pd_var 0) (ad_cons pd_int ad_nil))))
  (sd_cons (sd_set 5 sc__law_almanac.nd (pd_add (pd_var 4) (pd_callR (ok__law_taken Z) (hr.mono (by omega)) Z.m__law_taken Z.F__law_taken.kp (b__law_taken Z) (fun σ => passAt (takes_of rfl rfl rfl rfl) σ) (pd_var 0) (ad_cons pd_int ad_nil))))
  (sd_cons (sd_setLc 6 ([("_law_one", 7)] : List (Str × Nat)) rfl sc__law_almanac.nd rfl (id_range2 Z.n_range (ad_cons (pd_sub pd_int (pd_var 1)) (ad_cons (pd_var 1) ad_nil))) (blk_of (by rfl)) (fun z => (gd_name 7 sc__law_almanac.nd)) (fun z => (ts_one (pb_of (pw_a (pb_ne (hu_of hr) (pd_var 7) pd_int) (pw_a1 (pb_lt (pd_callR (ok__law_taken Z) (hr.mono (by omega)) Z.m__law_taken Z.F__law_taken.kp (b__law_taken Z) hx0 (pd_var 0) (ad_cons (pd_mul pd_int (pd_var 1)) ad_nil)) pd_int)))))) (fun z => (pd_var 7)))
  (sd_one (sd_ret (pd_tup (ad_cons (pd_var 1) (ad_cons (pd_var 2) (ad_cons (pd_var 3) (ad_cons (pd_var 4) (ad_cons (pd_var 5) (ad_cons (pd_callTy call_tuple_of n_tup Z.n_tuple boot_tuple (ad_cons (pd_slice (pd_var 6) od_none (od_some pd_int)) ad_nil)) (ad_cons (pd_add pd_int (pd_callR (ok__law_taken Z) (hr.mono (by omega)) Z.m__law_taken Z.F__law_taken.kp (b__law_taken Z) (fun σ => passAt (takes_of rfl rfl rfl rfl) σ) (pd_var 0) (ad_cons pd_int ad_nil))) ad_nil)))))))))))))))) : PSsD _ TT _ _ G__law_almanac)
theorem sc__law_pick : FnScope ["_law_row", "_law_things"] ["_law_row", "_law_things"] (defScope (top 31)) := ⟨rfl, rfl, rfl, by decide +kernel, rfl, by decide +kernel, by decide +kernel⟩
theorem b__law_pick (Z : Fs K mg base TT) : Binds K Z.fd__law_pick ["_law_row", "_law_things"] [] := Z.F__law_pick.bindsN fun _ _ _ _ _ _ us hl => match us, hl with | [_, _], _ => rfl
theorem ok__law_pick (Z : Fs K mg base TT) : FnOk P w K mg base (CX P w) 2 (He.ga K "_law_pick") Z.fd__law_pick ["_law_row", "_law_things"] (spR K TT F__law_pick) :=
  okR Z.F__law_pick sc__law_pick fun z E hr hz => (
  (sd_one (sd_ret (pd_ix (pd_var 1) (pd_callR (ok__law_taken Z) (hr.mono (by omega)) Z.m__law_taken Z.F__law_taken.kp (b__law_taken Z) (fun σ => passAt (takes_of rfl rfl rfl rfl) σ) (pd_var 0) (ad_cons (pd_callB call_len n_len Z.n_len boot_len (ad_cons (pd_var 1) ad_nil)) ad_nil))))) : PSsD _ TT _ _ G__law_pick)
theorem sc__law_story : FnScope ["_law_row", "_law_almanac_here", "_law_many", "_law_hour", "_law_error", "_law_least", "_law_sets", "_law_wakings", "_law_turn", "_law_gap", "_law_step"] ["_law_row", "_law_almanac_here", "_law_many"] (defScope (top 32)) := ⟨rfl, rfl, rfl, by decide +kernel, rfl, by decide +kernel, by decide +kernel⟩
theorem b__law_story (Z : Fs K mg base TT) : Binds K Z.fd__law_story ["_law_row", "_law_almanac_here", "_law_many"] [] := Z.F__law_story.bindsN fun _ _ _ _ _ _ us hl => match us, hl with | [_, _, _], _ => rfl
theorem ok__law_story (Z : Fs K mg base TT) : FnOk P w K mg base (CX P w) 3 (He.ga K "_law_story") Z.fd__law_story ["_law_row", "_law_almanac_here", "_law_many"] (spR K TT F__law_story) :=
  okR Z.F__law_story sc__law_story fun z E hr hz => (
  (sd_cons (sd_asg (pd_tup (ad_cons pd_int (ad_cons pd_int (ad_cons pd_int (ad_cons (pd_tup ad_nil) (ad_cons (pd_tup (ad_cons pd_int ad_nil)) ad_nil)))))) (gd_tup rfl (gsd_cons (gd_name 3 sc__law_story.nd) (gsd_cons (gd_name 4 sc__law_story.nd) (gsd_cons (gd_name 5 sc__law_story.nd) (gsd_cons (gd_name 6 sc__law_story.nd) (gsd_cons (gd_name 7 sc__law_story.nd) gsd_nil)))))))
  (sd_cons (sd_for (passes_of rfl) rfl (id_range1 Z.n_range (ad_cons (pd_callR (ok__law_taken Z) (hr.mono (by omega)) Z.m__law_taken Z.F__law_taken.kp (b__law_taken Z) (fun σ => passAt (takes_of rfl rfl rfl rfl) σ) (pd_var 0) (ad_cons (pd_var 2) ad_nil)) ad_nil)) (gd_name 8 sc__law_story.nd) (sd_cons (sd_set 9 sc__law_story.nd (pd_add (pd_ix (pd_var 1) pd_int) (pd_callR (ok__law_taken Z) (hr.mono (by omega)) Z.m__law_taken Z.F__law_taken.kp (b__law_taken Z) (fun σ => passAt (takes_of rfl rfl rfl rfl) σ) (pd_var 0) (ad_cons (pd_add (pd_sub (pd_ix (pd_var 1) pd_int) (pd_ix (pd_var 1) pd_int)) pd_int) ad_nil))))
  (sd_cons (sd_for (passes_of rfl) rfl (id_range1 Z.n_range (ad_cons (pd_var 9) ad_nil)) (gd_name 10 sc__law_story.nd) (sd_cons (sd_set 3 sc__law_story.nd (pd_add (pd_var 3) pd_int))
  (sd_one (sd_if (pb_of (pw_a (pb_ge (pd_var 3) (pd_var 5)) (pw_a (pb_ne (hu_of hr) (pd_ix (pd_var 1) pd_int) (pd_tup ad_nil)) (pw_a1 (pb_eq (hu_of hr) (pd_callR (ok__law_taken Z) (hr.mono (by omega)) Z.m__law_taken Z.F__law_taken.kp (b__law_taken Z) (fun σ => passAt (takes_of rfl rfl rfl rfl) σ) (pd_var 0) (ad_cons pd_int ad_nil)) pd_int))))) (sd_one (sd_par 6 5 rfl sc__law_story.nd (ad_cons (pd_add (pd_var 6) (pd_tup (ad_cons (pd_tup (ad_cons (pd_var 3) (ad_cons (pd_callR (ok__law_pick Z) (hr.mono (by omega)) Z.m__law_pick Z.F__law_pick.kp (b__law_pick Z) (fun σ => passAt (takes_of rfl rfl rfl rfl) σ) (pd_var 0) (ad_cons (pd_callTyL call_list_of l_lst Z.n_list boot_list (ad_cons (pd_ix (pd_var 1) pd_int) ad_nil)) ad_nil)) ad_nil))) ad_nil))) (ad_cons (pd_add (pd_var 3) (pd_ix (pd_var 1) pd_int)) ad_nil)))) sd_nil))))
  (sd_one (sd_set 7 sc__law_story.nd (pd_add (pd_var 7) (pd_tup (ad_cons (pd_var 3) ad_nil))))))))
  (sd_one (sd_ret (pd_tup (ad_cons (pd_var 7) (ad_cons (pd_var 6) ad_nil))))))) : PSsD _ TT _ _ G__law_story)
theorem sc__law_alike : FnScope ["_law_found", "_law_wished", "_law_k"] ["_law_found", "_law_wished"] (defScope (top 33)) := ⟨rfl, rfl, rfl, by decide +kernel, rfl, by decide +kernel, by decide +kernel⟩
theorem b__law_alike (Z : Fs K mg base TT) : Binds K Z.fd__law_alike ["_law_found", "_law_wished"] [] := Z.F__law_alike.bindsN fun _ _ _ _ _ _ us hl => match us, hl with | [_, _], _ => rfl
theorem ok__law_alike (Z : Fs K mg base TT) : ∀ n : Nat, FnOk P w K mg base (CX P w) (n + 1) (He.ga K "_law_alike") Z.fd__law_alike ["_law_found", "_law_wished"] (spD K TT (F__law_alike n))
  | 0 => ok_bad
  | n + 1 => by
    have ih := ok__law_alike Z n
    rw [Nat.add_right_comm]
    exact okD Z.F__law_alike sc__law_alike fun z E hr hz => (
  (sd_cons (sd_if (pb_val (pd_isi2 Z.n_isinstance Z.n_tuple Z.n_list boot_tuple boot_list (pd_var 1))) (sd_cons (sd_if (pb_of (pw_o (pb_not (pb_val (pd_isi2 Z.n_isinstance Z.n_tuple Z.n_list boot_tuple boot_list (pd_var 0)))) (pw_o1 (pb_ne (hu_of hr) (pd_isi Z.n_isinstance Z.n_list boot_list (pd_var 0)) (pd_isi Z.n_isinstance Z.n_list boot_list (pd_var 1)))))) (sd_one (sd_ret pd_bl)) sd_nil)
  (sd_cons (sd_if (pb_ne (hu_of hr) (pd_callB call_len n_len Z.n_len boot_len (ad_cons (pd_var 0) ad_nil)) (pd_callB call_len n_len Z.n_len boot_len (ad_cons (pd_var 1) ad_nil))) (sd_one (sd_ret pd_bl)) sd_nil)
  (sd_one (sd_ret (pd_eq (hu_of hr) (pd_lc ([("_law_k", 2)] : List (Str × Nat)) rfl sc__law_alike.nd (id_range1 Z.n_range (ad_cons (pd_callB call_len n_len Z.n_len boot_len (ad_cons (pd_var 1) ad_nil)) ad_nil)) (blk_of (by rfl)) (fun z => (gd_name 2 sc__law_alike.nd)) (fun z => (ts_one (pb_not (pb_val (pd_call ih hr Z.m__law_alike Z.F__law_alike.kp (b__law_alike Z) hx0 (ad_cons (pd_ix (pd_var 0) (pd_var 2)) (ad_cons (pd_ix (pd_var 1) (pd_var 2)) ad_nil))))))) (fun z => (pd_var 2))) (pd_lst ad_nil)))))) sd_nil)
  (sd_cons (sd_if (pb_of (pw_o (pb_isN (pd_var 1) pd_non) (pw_o1 (pb_val (pd_isi Z.n_isinstance Z.n_str boot_str (pd_var 1)))))) (sd_one (sd_ret (pd_and (pd_eq (hu_of hr) (pd_var 0) (pd_var 1)) (pd_one (pd_eq (hu_of hr) (pd_isi Z.n_isinstance Z.n_str boot_str (pd_var 0)) (pd_isi Z.n_isinstance Z.n_str boot_str (pd_var 1))))))) sd_nil)
  (sd_one (sd_ret (pd_and (pd_isi Z.n_isinstance Z.n_int boot_int (pd_var 0)) (pd_and (pd_eq (hu_of hr) (pd_isi Z.n_isinstance Z.n_bool boot_bool (pd_var 0)) (pd_isi Z.n_isinstance Z.n_bool boot_bool (pd_var 1))) (pd_one (pd_eq (hu_of hr) (pd_var 0) (pd_var 1))))))))) : PSsD _ TT _ _ (G__law_alike (F__law_alike n)))
theorem sc__law_read : FnScope ["_law_almanac_here", "_law_story_here", "_law_found", "_law_waking", "_law_error", "_law_hour", "_law_one"] ["_law_almanac_here", "_law_story_here"] (defScope (top 34)) := ⟨rfl, rfl, rfl, by decide +kernel, rfl, by decide +kernel, by decide +kernel⟩
theorem b__law_read (Z : Fs K mg base TT) : Binds K Z.fd__law_read ["_law_almanac_here", "_law_story_here"] [] := Z.F__law_read.bindsN fun _ _ _ _ _ _ us hl => match us, hl with | [_, _], _ => rfl
theorem ok__law_read (Z : Fs K mg base TT) : FnOk P w K mg base (CX P w) 1 (He.ga K "_law_read") Z.fd__law_read ["_law_almanac_here", "_law_story_here"] (spD K TT F__law_read) :=
  okD Z.F__law_read sc__law_read fun z E hr hz => (
  (sd_cons (sd_set 2 sc__law_read.nd (pd_lst ad_nil))
  (sd_cons (sd_for (passes_of rfl) rfl (id_tup (pd_ix (pd_var 1) pd_int)) (gd_name 3 sc__law_read.nd) (sd_cons (sd_set 4 sc__law_read.nd (pd_callB (cr_sum rfl) n_sum Z.n_sum boot_sum (ad_cons (pd_lc ([("_law_hour", 5), ("_law_one", 6)] : List (Str × Nat)) rfl sc__law_read.nd (id_tup (pd_ix (pd_var 1) pd_int)) (blk_of (by rfl)) (fun z => (gd_tup rfl (gsd_cons (gd_name 5 sc__law_read.nd) (gsd_cons (gd_name 6 sc__law_read.nd) gsd_nil)))) (fun z => (ts_one (pb_le (pd_var 5) (pd_var 3)))) (fun z => (pd_var 6))) ad_nil)))
  (sd_one (sd_expr (pd_append (pd_var 2) (pd_mod (pd_callTy call_int1 n_int Z.n_int boot_int (ad_cons (pd_add (pd_var 3) (pd_var 4)) ad_nil)) (pd_ix (pd_var 0) pd_int)))))))
  (sd_one (sd_ret (pd_callTy call_tuple_of n_tup Z.n_tuple boot_tuple (ad_cons (pd_var 2) ad_nil)))))) : PSsD _ TT _ _ G__law_read)
theorem sc__law_shut : FnScope ["_law_almanac_here", "_law_hour", "_law_found"] ["_law_almanac_here", "_law_hour"] (defScope (top 35)) := ⟨rfl, rfl, rfl, by decide +kernel, rfl, by decide +kernel, by decide +kernel⟩
theorem b__law_shut (Z : Fs K mg base TT) : Binds K Z.fd__law_shut ["_law_almanac_here", "_law_hour"] [] := Z.F__law_shut.bindsN fun _ _ _ _ _ _ us hl => match us, hl with | [_, _], _ => rfl
theorem ok__law_shut (Z : Fs K mg base TT) : FnOk P w K mg base (CX P w) 1 (He.ga K "_law_shut") Z.fd__law_shut ["_law_almanac_here", "_law_hour"] (spD K TT F__law_shut) :=
  okD Z.F__law_shut sc__law_shut fun z E hr hz => (
  (sd_cons (sd_set 2 sc__law_shut.nd pd_int)
  (sd_cons (sd_while (passes_of rfl) (pb_lt (pd_add (pd_mul (pd_var 2) (pd_ix (pd_var 0) pd_int)) (pd_ix (pd_var 0) pd_int)) (pd_var 1)) (sd_one (sd_set 2 sc__law_shut.nd (pd_add (pd_var 2) pd_int))))
  (sd_one (sd_ret (pd_var 2))))) : PSsD _ TT _ _ G__law_shut)
theorem sc__law_open : FnScope ["_law_almanac_here", "_law_hour", "_law_found"] ["_law_almanac_here", "_law_hour"] (defScope (top 36)) := ⟨rfl, rfl, rfl, by decide +kernel, rfl, by decide +kernel, by decide +kernel⟩
theorem b__law_open (Z : Fs K mg base TT) : Binds K Z.fd__law_open ["_law_almanac_here", "_law_hour"] [] := Z.F__law_open.bindsN fun _ _ _ _ _ _ us hl => match us, hl with | [_, _], _ => rfl
theorem ok__law_open (Z : Fs K mg base TT) : FnOk P w K mg base (CX P w) 1 (He.ga K "_law_open") Z.fd__law_open ["_law_almanac_here", "_law_hour"] (spD K TT F__law_open) :=
  okD Z.F__law_open sc__law_open fun z E hr hz => (
  (sd_cons (sd_set 2 sc__law_open.nd pd_int)
  (sd_cons (sd_while (passes_of rfl) (pb_le (pd_add (pd_mul (pd_var 2) (pd_ix (pd_var 0) pd_int)) (pd_ix (pd_var 0) pd_int)) (pd_var 1)) (sd_one (sd_set 2 sc__law_open.nd (pd_add (pd_var 2) pd_int))))
  (sd_one (sd_ret (pd_var 2))))) : PSsD _ TT _ _ G__law_open)
theorem sc_law : FnScope ["_law_script", "_law_row", "_law_almanac_here", "_law_turn", "_law_story_here", "_law_hour", "_law_due", "_law_far", "_law_low"] ["_law_script"] (defScope (top 37)) := ⟨rfl, rfl, rfl, by decide +kernel, rfl, by decide +kernel, by decide +kernel⟩
theorem b_law (Z : Fs K mg base TT) : Binds K Z.fd_law ["_law_script"] [] := Z.F_law.bindsN fun _ _ _ _ _ _ us hl => match us, hl with | [_], _ => rfl
theorem ok_law (Z : Fs K mg base TT) : FnOk P w K mg base (CX P w) 10 (He.ga K "law") Z.fd_law ["_law_script"] (spD K TT F_law) :=
  okD Z.F_law sc_law fun z E hr hz => (
  (sd_cons (sd_set 1 sc_law.nd (pd_lst (ad_cons (pd_var 0) (ad_cons pd_int (ad_cons pd_int (ad_cons pd_int ad_nil))))))
  (sd_cons (sd_set 2 sc_law.nd (pd_callR (ok__law_almanac Z) (hr.mono (by omega)) Z.m__law_almanac Z.F__law_almanac.kp (b__law_almanac Z) (fun σ => passAt (takes_of rfl rfl rfl rfl) σ) (pd_var 1) ad_nil))
  (sd_cons (sd_for (passes_of rfl) rfl (id_range1 Z.n_range (ad_cons pd_int ad_nil)) (gd_name 3 sc_law.nd) (sd_cons (sd_set 4 sc_law.nd (pd_callR (ok__law_story Z) (hr.mono (by omega)) Z.m__law_story Z.F__law_story.kp (b__law_story Z) (fun σ => passAt (takes_of rfl rfl rfl rfl) σ) (pd_var 1) (ad_cons (pd_var 2) (ad_cons pd_int ad_nil))))
  (sd_cons (sd_if (pb_not (pb_val (pd_call (ok__law_alike Z 8) (hr.mono (by omega)) Z.m__law_alike Z.F__law_alike.kp (b__law_alike Z) (fun σ => passAt (takes_of rfl rfl rfl rfl) σ) (ad_cons (pd_call (ok_readings Z) (hr.mono (by omega)) Z.m_readings Z.F_readings.kp (b_readings Z) (fun σ => passAt (takes_of rfl rfl rfl rfl) σ) (ad_cons (pd_var 2) (ad_cons (pd_var 4) ad_nil))) (ad_cons (pd_call (ok__law_read Z) (hr.mono (by omega)) Z.m__law_read Z.F__law_read.kp (b__law_read Z) (fun σ => passAt (takes_of rfl rfl rfl rfl) σ) (ad_cons (pd_var 2) (ad_cons (pd_var 4) ad_nil))) ad_nil))))) (sd_one (sd_ret pd_bl)) sd_nil)
  (sd_cons (sd_set 5 sc_law.nd (pd_callR (ok__law_taken Z) (hr.mono (by omega)) Z.m__law_taken Z.F__law_taken.kp (b__law_taken Z) (fun σ => passAt (takes_of rfl rfl rfl rfl) σ) (pd_var 1) (ad_cons pd_int ad_nil)))
  (sd_cons (sd_set 6 sc_law.nd (pd_lst (ad_cons (pd_call (ok__law_shut Z) (hr.mono (by omega)) Z.m__law_shut Z.F__law_shut.kp (b__law_shut Z) (fun σ => passAt (takes_of rfl rfl rfl rfl) σ) (ad_cons (pd_var 2) (ad_cons (pd_var 5) ad_nil))) (ad_cons (pd_call (ok__law_open Z) (hr.mono (by omega)) Z.m__law_open Z.F__law_open.kp (b__law_open Z) (fun σ => passAt (takes_of rfl rfl rfl rfl) σ) (ad_cons (pd_var 2) (ad_cons (pd_var 5) ad_nil))) (ad_cons (pd_call (ok__law_shut Z) (hr.mono (by omega)) Z.m__law_shut Z.F__law_shut.kp (b__law_shut Z) (fun σ => passAt (takes_of rfl rfl rfl rfl) σ) (ad_cons (pd_var 2) (ad_cons (pd_add (pd_var 5) (pd_ix (pd_var 2) pd_int)) ad_nil))) ad_nil)))))
  (sd_one (sd_if (pb_not (pb_val (pd_call (ok__law_alike Z 8) (hr.mono (by omega)) Z.m__law_alike Z.F__law_alike.kp (b__law_alike Z) (fun σ => passAt (takes_of rfl rfl rfl rfl) σ) (ad_cons (pd_lst (ad_cons (pd_call (ok_shut Z) (hr.mono (by omega)) Z.m_shut Z.F_shut.kp (b_shut Z) (fun σ => passAt (takes_of rfl rfl rfl rfl) σ) (ad_cons (pd_var 2) (ad_cons (pd_var 5) ad_nil))) (ad_cons (pd_call (ok_opened Z) (hr.mono (by omega)) Z.m_opened Z.F_opened.kp (b_opened Z) (fun σ => passAt (takes_of rfl rfl rfl rfl) σ) (ad_cons (pd_var 2) (ad_cons (pd_var 5) ad_nil))) (ad_cons (pd_call (ok_urgent Z) (hr.mono (by omega)) Z.m_urgent Z.F_urgent.kp (b_urgent Z) (fun σ => passAt (takes_of rfl rfl rfl rfl) σ) (ad_cons (pd_var 2) (ad_cons (pd_var 5) ad_nil))) ad_nil)))) (ad_cons (pd_var 6) ad_nil))))) (sd_one (sd_ret pd_bl)) sd_nil)))))))
  (sd_cons (sd_set 7 sc_law.nd (pd_sub (pd_pow pd_int pd_int) (pd_callR (ok__law_taken Z) (hr.mono (by omega)) Z.m__law_taken Z.F__law_taken.kp (b__law_taken Z) (fun σ => passAt (takes_of rfl rfl rfl rfl) σ) (pd_var 1) (ad_cons pd_int ad_nil))))
  (sd_cons (sd_set 8 sc_law.nd (pd_sub (pd_var 7) (pd_ix (pd_var 2) pd_int)))
  (sd_one (sd_ret (pd_eq (hu_of hr) (pd_call (ok_opened Z) (hr.mono (by omega)) Z.m_opened Z.F_opened.kp (b_opened Z) (fun σ => passAt (takes_of rfl rfl rfl rfl) σ) (ad_cons (pd_var 2) (ad_cons (pd_var 7) ad_nil))) (pd_add (pd_div (pd_sub (pd_var 8) (pd_mod (pd_callTy call_int1 n_int Z.n_int boot_int (ad_cons (pd_var 8) ad_nil)) (pd_ix (pd_var 2) pd_int))) (pd_ix (pd_var 2) pd_int)) pd_int))))))))) : PSsD _ TT _ _ G_law)
end
end Pd

namespace Pd
open PySem PySem.Spec PyProof.Rows L2
/-- the drawing row -/
structure Rw where
  ns : List Int
  p : Int
  s : Int
  r : Int
def Rw.l (w : Rw) : List PyData := [.list (w.ns.map PyData.int), .int w.p, .int w.s, .int w.r]
theorem dats4 (w : Rw) : dats [Rv.dat (PyData.list (List.map PyData.int w.ns)), Rv.dat (PyData.int w.p), Rv.dat (PyData.int w.s), Rv.dat (PyData.int w.r)] = some w.l := rfl
theorem taken_ok (w : Rw) (hp : 0 ≤ w.p) (m : Int) (h0 : 0 < m) (h1 : m < 1073741824) : ∃ (v : Int) (w' : Rw), F__law_taken w.l [.int m] = .ok (.int v) w'.l ∧ 0 ≤ v ∧ v < m ∧ 0 ≤ w'.p := by
  obtain ⟨ns, p, s, r⟩ := w
  simp only at hp
  by_cases hr : 0 < r
  · refine ⟨r % m, ⟨ns, p, s, r / m⟩, ?_, Int.emod_nonneg _ (by omega), Int.emod_lt_of_pos _ h0, hp⟩
    simp [F__law_taken, G__law_taken, Rw.l, -List.map_map, -List.map_take, runR, runD, sq, bnd, fB, f2, fVar, fC, ret, app2, app1, peek, ixG, atI, ixN, cmpG, toB, dats, dats_map, slots0, List.replicate, fN, fCons, fNil, appN, peeks, intG, modG, divG, asg, setM, setIx, frz, rowOf, addG, addI, subG, mul_c, powG, lenG, fCallR, frzAll, callRM, fCall, callM, fAnd, fOr, fNot, vAnd, vOr, vNot, fCh, isiG, tyN, fTup, tupM, fLst, lstM, newL, fL, appL, lstG, tupG, maxG, tupleG, gCn, gNl, cutM, toI, negM, par2, tupI, rng1I, rng2I, q_int, q_bool, q_nint, q_nbool, kb_ii, kb_ib, kb_bi, kb_bb, kb_ni, kb_nb, kb_si, kb_sb, k_nt, k_nl, k_ns, k_bt, k_bl, k_bs, k_it, k_il, k_is, k_st, k_sl, k_ss, k_tt, k_tl, k_ts, k_ti, k_tb, k_lt, k_ll, k_ls, k_li, k_lb, hr, h0, h1]
  · by_cases hl : (ns.length : Int) < p + 1
    · refine ⟨((s * 48271 + 11) % 2147483647 / 7) % m, ⟨ns, p + 1, (s * 48271 + 11) % 2147483647, r⟩, ?_, Int.emod_nonneg _ (by omega), Int.emod_lt_of_pos _ h0, by show 0 ≤ p + 1; omega⟩
      simp [F__law_taken, G__law_taken, Rw.l, -List.map_map, -List.map_take, runR, runD, sq, bnd, fB, f2, fVar, fC, ret, app2, app1, peek, ixG, atI, ixN, cmpG, toB, dats, dats_map, slots0, List.replicate, fN, fCons, fNil, appN, peeks, intG, modG, divG, asg, setM, setIx, frz, rowOf, addG, addI, subG, mul_c, powG, lenG, fCallR, frzAll, callRM, fCall, callM, fAnd, fOr, fNot, vAnd, vOr, vNot, fCh, isiG, tyN, fTup, tupM, fLst, lstM, newL, fL, appL, lstG, tupG, maxG, tupleG, gCn, gNl, cutM, toI, negM, par2, tupI, rng1I, rng2I, q_int, q_bool, q_nint, q_nbool, kb_ii, kb_ib, kb_bi, kb_bb, kb_ni, kb_nb, kb_si, kb_sb, k_nt, k_nl, k_ns, k_bt, k_bl, k_bs, k_it, k_il, k_is, k_st, k_sl, k_ss, k_tt, k_tl, k_ts, k_ti, k_tb, k_lt, k_ll, k_ls, k_li, k_lb, hr, h0, h1, hl]
    · obtain ⟨q, rfl⟩ := Int.eq_ofNat_of_zero_le hp
      have hq : q < ns.length := by omega
      have e1 : (0 : Int) ≤ (q : Int) := by omega
      have e2 : (q : Int) < (ns.length : Int) := by omega
      by_cases hc : 1000000000000000000 ≤ ns[q]
      · refine ⟨ns[q] % m, ⟨ns, q + 1, (s * 48271 + ns[q] + 11) % 2147483647, ns[q] / m⟩, ?_, Int.emod_nonneg _ (by omega), Int.emod_lt_of_pos _ h0, by show 0 ≤ (q : Int) + 1; omega⟩
        simp [F__law_taken, G__law_taken, Rw.l, -List.map_map, -List.map_take, runR, runD, sq, bnd, fB, f2, fVar, fC, ret, app2, app1, peek, ixG, atI, ixN, cmpG, toB, dats, dats_map, slots0, List.replicate, fN, fCons, fNil, appN, peeks, intG, modG, divG, asg, setM, setIx, frz, rowOf, addG, addI, subG, mul_c, powG, lenG, fCallR, frzAll, callRM, fCall, callM, fAnd, fOr, fNot, vAnd, vOr, vNot, fCh, isiG, tyN, fTup, tupM, fLst, lstM, newL, fL, appL, lstG, tupG, maxG, tupleG, gCn, gNl, cutM, toI, negM, par2, tupI, rng1I, rng2I, q_int, q_bool, q_nint, q_nbool, kb_ii, kb_ib, kb_bi, kb_bb, kb_ni, kb_nb, kb_si, kb_sb, k_nt, k_nl, k_ns, k_bt, k_bl, k_bs, k_it, k_il, k_is, k_st, k_sl, k_ss, k_tt, k_tl, k_ts, k_ti, k_tb, k_lt, k_ll, k_ls, k_li, k_lb, hr, h0, h1, hl, Int.add_sub_cancel, hq, hc]
      · refine ⟨ns[q] % m, ⟨ns, q + 1, (s * 48271 + ns[q] + 11) % 2147483647, r⟩, ?_, Int.emod_nonneg _ (by omega), Int.emod_lt_of_pos _ h0, by show 0 ≤ (q : Int) + 1; omega⟩
        simp [F__law_taken, G__law_taken, Rw.l, -List.map_map, -List.map_take, runR, runD, sq, bnd, fB, f2, fVar, fC, ret, app2, app1, peek, ixG, atI, ixN, cmpG, toB, dats, dats_map, slots0, List.replicate, fN, fCons, fNil, appN, peeks, intG, modG, divG, asg, setM, setIx, frz, rowOf, addG, addI, subG, mul_c, powG, lenG, fCallR, frzAll, callRM, fCall, callM, fAnd, fOr, fNot, vAnd, vOr, vNot, fCh, isiG, tyN, fTup, tupM, fLst, lstM, newL, fL, appL, lstG, tupG, maxG, tupleG, gCn, gNl, cutM, toI, negM, par2, tupI, rng1I, rng2I, q_int, q_bool, q_nint, q_nbool, kb_ii, kb_ib, kb_bi, kb_bb, kb_ni, kb_nb, kb_si, kb_sb, k_nt, k_nl, k_ns, k_bt, k_bl, k_bs, k_it, k_il, k_is, k_st, k_sl, k_ss, k_tt, k_tl, k_ts, k_ti, k_tb, k_lt, k_ll, k_ls, k_li, k_lb, hr, h0, h1, hl, Int.add_sub_cancel, hq, hc]
/-- an almanac -/
structure Al where
  H : Int
  F : Int
  L : Int
  S : Int
  T : Int
  st : List Int
  R : Int
def Al.d (A : Al) : PyData := .tuple [.int A.H, .int A.F, .int A.L, .int A.S, .int A.T, .tuple (A.st.map PyData.int), .int A.R]
structure Al.Ok (A : Al) : Prop where
  h : 2 ≤ A.H ∧ A.H ≤ 7
  f : 0 ≤ A.F ∧ A.F < A.H
  l : A.F ≤ A.L ∧ A.L < A.F + A.H
  s : 1 ≤ A.S ∧ A.S ≤ 3
  t : A.S ≤ A.T ∧ A.T ≤ A.S + 2
  n : A.st.length ≤ 2
  inc : A.st.Pairwise (· < ·)
  mem : ∀ x ∈ A.st, x ≠ 0 ∧ -A.H < x ∧ x < A.H
  r : 1 ≤ A.R ∧ A.R ≤ 6
theorem num_ok (v lo hi : Int) : F_is_number [.int v, .int lo, .int hi] = .ok (.bool (decide (lo ≤ v) && decide (v ≤ hi))) := by
  by_cases h : lo ≤ v <;> simp [F_is_number, G_is_number, -List.map_map, -List.map_take, runR, runD, sq, bnd, fB, f2, fVar, fC, ret, app2, app1, peek, ixG, atI, ixN, cmpG, toB, dats, dats_map, slots0, List.replicate, fN, fCons, fNil, appN, peeks, intG, modG, divG, asg, setM, setIx, frz, rowOf, addG, addI, subG, mul_c, powG, lenG, fCallR, frzAll, callRM, fCall, callM, fAnd, fOr, fNot, vAnd, vOr, vNot, fCh, isiG, tyN, fTup, tupM, fLst, lstM, newL, fL, appL, lstG, tupG, maxG, tupleG, gCn, gNl, cutM, toI, negM, par2, tupI, rng1I, rng2I, q_int, q_bool, q_nint, q_nbool, kb_ii, kb_ib, kb_bi, kb_bb, kb_ni, kb_nb, kb_si, kb_sb, k_nt, k_nl, k_ns, k_bt, k_bl, k_bs, k_it, k_il, k_is, k_st, k_sl, k_ss, k_tt, k_tl, k_ts, k_ti, k_tb, k_lt, k_ll, k_ls, k_li, k_lb, h]
theorem upI_inc (lo : Int) (n : Nat) : ((List.range n).map fun (i : Nat) => lo + (i : Int)).Pairwise (· < ·) := by
  rw [List.pairwise_map]
  exact List.Pairwise.imp (fun h => by omega) List.pairwise_lt_range
theorem set_comp (w : Rw) (hp : 0 ≤ w.p) (H : Int) (hH : 2 ≤ H ∧ H ≤ 7) (a2 a3 a4 a5 a6 : Option Rv) : ∃ (st : List Int) (w' : Rw), 0 ≤ w'.p ∧ st.Pairwise (· < ·) ∧ (∀ x ∈ st, x ≠ 0 ∧ -H < x ∧ x < H) ∧ st.length ≤ 16 ∧
    (bnd (bnd (fCons (f2 subG (fC (.int 1)) (fVar 1)) (fCons (fVar 1) fNil)) rng2I) (compM [7] (setM 7) (fAnd (fB (f2 neG (fVar 7) (fC (.int 0)))) (fB (f2 ltG (fCallR F__law_taken (fVar 0) (fCons (f2 mulG (fC (.int 2)) (fVar 1)) fNil)) (fC (.int 2))))) (fVar 7)))
      ⟨[some (.own 0), some (.dat (.int H)), a2, a3, a4, a5, a6, none], [.lst (w.l.map Rv.dat)]⟩ = .ok (.own 1) ⟨[some (.own 0), some (.dat (.int H)), a2, a3, a4, a5, a6, none], [.lst (w'.l.map Rv.dat), .lst ((st.map PyData.int).map Rv.dat)]⟩ := by
  have hr : (bnd (fCons (f2 subG (fC (.int 1)) (fVar 1)) (fCons (fVar 1) fNil)) rng2I) ⟨[some (.own 0), some (.dat (.int H)), a2, a3, a4, a5, a6, none], [.lst (w.l.map Rv.dat)]⟩ = .ok (upI (1 - H) (H - (1 - H)).toNat) ⟨[some (.own 0), some (.dat (.int H)), a2, a3, a4, a5, a6, none], [.lst (w.l.map Rv.dat)]⟩ := by
    simp [-List.map_map, -List.map_take, runR, runD, sq, bnd, fB, f2, fVar, fC, ret, app2, app1, peek, ixG, atI, ixN, cmpG, toB, dats, dats_map, slots0, List.replicate, fN, fCons, fNil, appN, peeks, intG, modG, divG, asg, setM, setIx, frz, rowOf, addG, addI, subG, mul_c, powG, lenG, fCallR, frzAll, callRM, fCall, callM, fAnd, fOr, fNot, vAnd, vOr, vNot, fCh, isiG, tyN, fTup, tupM, fLst, lstM, newL, fL, appL, lstG, tupG, maxG, tupleG, gCn, gNl, cutM, toI, negM, par2, tupI, rng1I, rng2I, q_int, q_bool, q_nint, q_nbool, kb_ii, kb_ib, kb_bi, kb_bb, kb_ni, kb_nb, kb_si, kb_sb, k_nt, k_nl, k_ns, k_bt, k_bl, k_bs, k_it, k_il, k_is, k_st, k_sl, k_ss, k_tt, k_tl, k_ts, k_ti, k_tb, k_lt, k_ll, k_ls, k_li, k_lb]
    omega
  have hlen : (upI (1 - H) (H - (1 - H)).toNat).length = (H - (1 - H)).toNat := by simp [upI]
  obtain ⟨ob', acc', h1, h2, w', st, h3, h4, h5, h6, h7⟩ := compL_inv (h := setM 7) (gt := fAnd (fB (f2 neG (fVar 7) (fC (.int 0)))) (fB (f2 ltG (fCallR F__law_taken (fVar 0) (fCons (f2 mulG (fC (.int 2)) (fVar 1)) fNil)) (fC (.int 2))))) (fe := fVar 7) (sl := [some (.own 0), some (.dat (.int H)), a2, a3, a4, a5, a6, none]) (k := 1)
    (upI (1 - H) (H - (1 - H)).toNat) (fun i ob acc => ∃ (w' : Rw) (st : List Int), 0 ≤ w'.p ∧ ob = [.lst (w'.l.map Rv.dat)] ∧ acc = (st.map PyData.int).map Rv.dat ∧ st.Sublist (((List.range (H - (1 - H)).toNat).map fun (i : Nat) => 1 - H + (i : Int)).take i) ∧ ∀ x ∈ st, x ≠ 0)
    (fun i hi ob acc ⟨w1, st, q1, q2, q3, q4, q5⟩ _ => by
      subst q2 q3
      rw [hlen] at hi
      obtain ⟨v, w2, e1, e2, e3, e4⟩ := taken_ok w1 q1 (2 * H) (by omega) (by omega)
      have m2 : mulG (.int 2) (.int H) = some (.int (2 * H)) := mul_ok (by omega) (by omega)
      have er : (upI (1 - H) (H - (1 - H)).toNat)[i]'(by rw [hlen]; exact hi) = .int (1 - H + (i : Int)) := by simp [upI]
      have tk : (((List.range (H - (1 - H)).toNat).map fun (i : Nat) => 1 - H + (i : Int)).take (i + 1)) = (((List.range (H - (1 - H)).toNat).map fun (i : Nat) => 1 - H + (i : Int)).take i) ++ [1 - H + (i : Int)] := by
        rw [List.take_succ]
        simp [hi]
      rw [er]
      have sl0 : setM 7 (.dat (.int (1 - H + (i : Int)))) ⟨[some (.own 0), some (.dat (.int H)), a2, a3, a4, a5, a6, none], [.lst (w1.l.map Rv.dat)] ++ [.lst ((st.map PyData.int).map Rv.dat)]⟩ = some ⟨[some (.own 0), some (.dat (.int H)), a2, a3, a4, a5, a6, some (.dat (.int (1 - H + (i : Int))))], [.lst (w1.l.map Rv.dat)] ++ [.lst ((st.map PyData.int).map Rv.dat)]⟩ := rfl
      by_cases hz : 1 - H + (i : Int) = 0
      · refine Stp.no _ [some (.own 0), some (.dat (.int H)), a2, a3, a4, a5, a6, some (.dat (.int (1 - H + (i : Int))))] [.lst (w1.l.map Rv.dat)] sl0 ?_ rfl ⟨w1, st, q1, rfl, rfl, by rw [tk]; exact q4.trans (List.sublist_append_left _ _), q5⟩
        simp [-List.map_map, -List.map_take, runR, runD, sq, bnd, fB, f2, fVar, fC, ret, app2, app1, peek, ixG, atI, ixN, cmpG, toB, dats, dats_map, slots0, List.replicate, fN, fCons, fNil, appN, peeks, intG, modG, divG, asg, setM, setIx, frz, rowOf, addG, addI, subG, mul_c, powG, lenG, fCallR, frzAll, callRM, fCall, callM, fAnd, fOr, fNot, vAnd, vOr, vNot, fCh, isiG, tyN, fTup, tupM, fLst, lstM, newL, fL, appL, lstG, tupG, maxG, tupleG, gCn, gNl, cutM, toI, negM, par2, tupI, rng1I, rng2I, q_int, q_bool, q_nint, q_nbool, kb_ii, kb_ib, kb_bi, kb_bb, kb_ni, kb_nb, kb_si, kb_sb, k_nt, k_nl, k_ns, k_bt, k_bl, k_bs, k_it, k_il, k_is, k_st, k_sl, k_ss, k_tt, k_tl, k_ts, k_ti, k_tb, k_lt, k_ll, k_ls, k_li, k_lb, hz]
      · by_cases hv : v < 2
        · refine Stp.yes _ [some (.own 0), some (.dat (.int H)), a2, a3, a4, a5, a6, some (.dat (.int (1 - H + (i : Int))))] [.lst (w2.l.map Rv.dat)] (.dat (.int (1 - H + (i : Int)))) [some (.own 0), some (.dat (.int H)), a2, a3, a4, a5, a6, some (.dat (.int (1 - H + (i : Int))))] [.lst (w2.l.map Rv.dat)] sl0 ?_ rfl rfl rfl ?_ ⟨w2, st ++ [1 - H + (i : Int)], e4, rfl, by simp, by rw [tk]; exact List.Sublist.append q4 (List.Sublist.refl _), fun x hx => ?_⟩
          · simp [-List.map_map, -List.map_take, runR, runD, sq, bnd, fB, f2, fVar, fC, ret, app2, app1, peek, ixG, atI, ixN, cmpG, toB, dats, dats_map, slots0, List.replicate, fN, fCons, fNil, appN, peeks, intG, modG, divG, asg, setM, setIx, frz, rowOf, addG, addI, subG, mul_c, powG, lenG, fCallR, frzAll, callRM, fCall, callM, fAnd, fOr, fNot, vAnd, vOr, vNot, fCh, isiG, tyN, fTup, tupM, fLst, lstM, newL, fL, appL, lstG, tupG, maxG, tupleG, gCn, gNl, cutM, toI, negM, par2, tupI, rng1I, rng2I, q_int, q_bool, q_nint, q_nbool, kb_ii, kb_ib, kb_bi, kb_bb, kb_ni, kb_nb, kb_si, kb_sb, k_nt, k_nl, k_ns, k_bt, k_bl, k_bs, k_it, k_il, k_is, k_st, k_sl, k_ss, k_tt, k_tl, k_ts, k_ti, k_tb, k_lt, k_ll, k_ls, k_li, k_lb, m2, hz, e1, hv]
          · have := q4.length_le
            simp only [List.length_map, List.length_take, List.length_range] at this ⊢
            have := szl
            omega
          · rcases List.mem_append.mp hx with z | z
            · exact q5 x z
            · rw [List.mem_singleton.mp z]; exact hz
        · refine Stp.no _ [some (.own 0), some (.dat (.int H)), a2, a3, a4, a5, a6, some (.dat (.int (1 - H + (i : Int))))] [.lst (w2.l.map Rv.dat)] sl0 ?_ rfl ⟨w2, st, e4, rfl, rfl, by rw [tk]; exact q4.trans (List.sublist_append_left _ _), q5⟩
          simp [-List.map_map, -List.map_take, runR, runD, sq, bnd, fB, f2, fVar, fC, ret, app2, app1, peek, ixG, atI, ixN, cmpG, toB, dats, dats_map, slots0, List.replicate, fN, fCons, fNil, appN, peeks, intG, modG, divG, asg, setM, setIx, frz, rowOf, addG, addI, subG, mul_c, powG, lenG, fCallR, frzAll, callRM, fCall, callM, fAnd, fOr, fNot, vAnd, vOr, vNot, fCh, isiG, tyN, fTup, tupM, fLst, lstM, newL, fL, appL, lstG, tupG, maxG, tupleG, gCn, gNl, cutM, toI, negM, par2, tupI, rng1I, rng2I, q_int, q_bool, q_nint, q_nbool, kb_ii, kb_ib, kb_bi, kb_bb, kb_ni, kb_nb, kb_si, kb_sb, k_nt, k_nl, k_ns, k_bt, k_bl, k_bs, k_it, k_il, k_is, k_st, k_sl, k_ss, k_tt, k_tl, k_ts, k_ti, k_tb, k_lt, k_ll, k_ls, k_li, k_lb, m2, hz, e1, hv])
    [.lst (w.l.map Rv.dat)] [] rfl ⟨w, [], hp, rfl, rfl, List.nil_sublist _, fun x hx => by cases hx⟩
  subst h4 h5
  have sub := h6.trans (List.take_sublist _ _)
  refine ⟨st, w', h3, (upI_inc _ _).sublist sub, fun x hx => ⟨h7 x hx, ?_⟩, ?_, ?_⟩
  · obtain ⟨j, hj, e⟩ := List.mem_map.mp (sub.subset hx)
    have := List.mem_range.mp hj
    omega
  · have := sub.length_le
    simp only [List.length_map, List.length_range] at this
    omega
  · refine bnd_to _ _ hr ?_
    simp only [compM, wipeL]
    have h1' : compL (setM 7) (fAnd (fB (f2 neG (fVar 7) (fC (.int 0)))) (fB (f2 ltG (fCallR F__law_taken (fVar 0) (fCons (f2 mulG (fC (.int 2)) (fVar 1)) fNil)) (fC (.int 2))))) (fVar 7) [some (.own 0), some (.dat (.int H)), a2, a3, a4, a5, a6, none] 1 (upI (1 - H) (H - (1 - H)).toNat) ⟨[some (.own 0), some (.dat (.int H)), a2, a3, a4, a5, a6, none], [.lst (w.l.map Rv.dat), .lst []]⟩ = some ⟨[some (.own 0), some (.dat (.int H)), a2, a3, a4, a5, a6, none], [.lst (w'.l.map Rv.dat), .lst ((st.map PyData.int).map Rv.dat)]⟩ := h1
    simp only [List.set, List.length_cons, List.length_nil, List.cons_append, List.nil_append, Nat.zero_add]
    rw [h1']
theorem cut2m (l : List Int) : cutD (l.map PyData.int) none (some 2) = (l.take 2).map PyData.int := by rw [cut2, List.map_take]
theorem alm_ok (w : Rw) (hp : 0 ≤ w.p) : ∃ (A : Al) (w' : Rw), F__law_almanac w.l [] = .ok A.d w'.l ∧ A.Ok ∧ 0 ≤ w'.p := by
  obtain ⟨v1, w1, e1, a1, b1, p1⟩ := taken_ok w hp 6 (by omega) (by omega)
  obtain ⟨v2, w2, e2, a2, b2, p2⟩ := taken_ok w1 p1 (2 + v1) (by omega) (by omega)
  obtain ⟨v3, w3, e3, a3, b3, p3⟩ := taken_ok w2 p2 (2 + v1) (by omega) (by omega)
  obtain ⟨v4, w4, e4, a4, b4, p4⟩ := taken_ok w3 p3 3 (by omega) (by omega)
  obtain ⟨v5, w5, e5, a5, b5, p5⟩ := taken_ok w4 p4 3 (by omega) (by omega)
  obtain ⟨st, w6, p6, i6, m6, n6, e6⟩ := set_comp w5 p5 (2 + v1) (by omega) (some (.dat (.int v2))) (some (.dat (.int (v2 + v3)))) (some (.dat (.int (1 + v4)))) (some (.dat (.int (1 + v4 + v5)))) none
  obtain ⟨v7, w7, e7, a7, b7, p7⟩ := taken_ok w6 p6 6 (by omega) (by omega)
  refine ⟨⟨2 + v1, v2, v2 + v3, 1 + v4, 1 + v4 + v5, st.take 2, 1 + v7⟩, w7, ?_, ?_, p7⟩
  · refine runR_ok rfl (e := ⟨[some (.own 0), some (.dat (.int (2 + v1))), some (.dat (.int v2)), some (.dat (.int (v2 + v3))), some (.dat (.int (1 + v4))), some (.dat (.int (1 + v4 + v5))), some (.own 1), none], [.lst (w7.l.map Rv.dat), .lst ((st.map PyData.int).map Rv.dat), .lst (((st.take 2).map PyData.int).map Rv.dat)]⟩) ?_ (by simp [rowOf, dats_map, -List.map_map])
    unfold G__law_almanac
    refine sq_to ⟨[some (.own 0), some (.dat (.int (2 + v1))), none, none, none, none, none, none], [.lst (w1.l.map Rv.dat)]⟩ (by simp [-List.map_map, -List.map_take, runR, runD, sq, bnd, fB, f2, fVar, fC, ret, app2, app1, peek, ixG, atI, ixN, cmpG, toB, dats, dats_map, slots0, List.replicate, fN, fCons, fNil, appN, peeks, intG, modG, divG, asg, setM, setIx, frz, rowOf, addG, addI, subG, mul_c, powG, lenG, fCallR, frzAll, callRM, fCall, callM, fAnd, fOr, fNot, vAnd, vOr, vNot, fCh, isiG, tyN, fTup, tupM, fLst, lstM, newL, fL, appL, lstG, tupG, maxG, tupleG, gCn, gNl, cutM, toI, negM, par2, tupI, rng1I, rng2I, q_int, q_bool, q_nint, q_nbool, kb_ii, kb_ib, kb_bi, kb_bb, kb_ni, kb_nb, kb_si, kb_sb, k_nt, k_nl, k_ns, k_bt, k_bl, k_bs, k_it, k_il, k_is, k_st, k_sl, k_ss, k_tt, k_tl, k_ts, k_ti, k_tb, k_lt, k_ll, k_ls, k_li, k_lb, e1]) ?_
    refine sq_to ⟨[some (.own 0), some (.dat (.int (2 + v1))), some (.dat (.int v2)), none, none, none, none, none], [.lst (w2.l.map Rv.dat)]⟩ (by simp [-List.map_map, -List.map_take, runR, runD, sq, bnd, fB, f2, fVar, fC, ret, app2, app1, peek, ixG, atI, ixN, cmpG, toB, dats, dats_map, slots0, List.replicate, fN, fCons, fNil, appN, peeks, intG, modG, divG, asg, setM, setIx, frz, rowOf, addG, addI, subG, mul_c, powG, lenG, fCallR, frzAll, callRM, fCall, callM, fAnd, fOr, fNot, vAnd, vOr, vNot, fCh, isiG, tyN, fTup, tupM, fLst, lstM, newL, fL, appL, lstG, tupG, maxG, tupleG, gCn, gNl, cutM, toI, negM, par2, tupI, rng1I, rng2I, q_int, q_bool, q_nint, q_nbool, kb_ii, kb_ib, kb_bi, kb_bb, kb_ni, kb_nb, kb_si, kb_sb, k_nt, k_nl, k_ns, k_bt, k_bl, k_bs, k_it, k_il, k_is, k_st, k_sl, k_ss, k_tt, k_tl, k_ts, k_ti, k_tb, k_lt, k_ll, k_ls, k_li, k_lb, e2]) ?_
    refine sq_to ⟨[some (.own 0), some (.dat (.int (2 + v1))), some (.dat (.int v2)), some (.dat (.int (v2 + v3))), none, none, none, none], [.lst (w3.l.map Rv.dat)]⟩ (by simp [-List.map_map, -List.map_take, runR, runD, sq, bnd, fB, f2, fVar, fC, ret, app2, app1, peek, ixG, atI, ixN, cmpG, toB, dats, dats_map, slots0, List.replicate, fN, fCons, fNil, appN, peeks, intG, modG, divG, asg, setM, setIx, frz, rowOf, addG, addI, subG, mul_c, powG, lenG, fCallR, frzAll, callRM, fCall, callM, fAnd, fOr, fNot, vAnd, vOr, vNot, fCh, isiG, tyN, fTup, tupM, fLst, lstM, newL, fL, appL, lstG, tupG, maxG, tupleG, gCn, gNl, cutM, toI, negM, par2, tupI, rng1I, rng2I, q_int, q_bool, q_nint, q_nbool, kb_ii, kb_ib, kb_bi, kb_bb, kb_ni, kb_nb, kb_si, kb_sb, k_nt, k_nl, k_ns, k_bt, k_bl, k_bs, k_it, k_il, k_is, k_st, k_sl, k_ss, k_tt, k_tl, k_ts, k_ti, k_tb, k_lt, k_ll, k_ls, k_li, k_lb, e3]) ?_
    refine sq_to ⟨[some (.own 0), some (.dat (.int (2 + v1))), some (.dat (.int v2)), some (.dat (.int (v2 + v3))), some (.dat (.int (1 + v4))), none, none, none], [.lst (w4.l.map Rv.dat)]⟩ (by simp [-List.map_map, -List.map_take, runR, runD, sq, bnd, fB, f2, fVar, fC, ret, app2, app1, peek, ixG, atI, ixN, cmpG, toB, dats, dats_map, slots0, List.replicate, fN, fCons, fNil, appN, peeks, intG, modG, divG, asg, setM, setIx, frz, rowOf, addG, addI, subG, mul_c, powG, lenG, fCallR, frzAll, callRM, fCall, callM, fAnd, fOr, fNot, vAnd, vOr, vNot, fCh, isiG, tyN, fTup, tupM, fLst, lstM, newL, fL, appL, lstG, tupG, maxG, tupleG, gCn, gNl, cutM, toI, negM, par2, tupI, rng1I, rng2I, q_int, q_bool, q_nint, q_nbool, kb_ii, kb_ib, kb_bi, kb_bb, kb_ni, kb_nb, kb_si, kb_sb, k_nt, k_nl, k_ns, k_bt, k_bl, k_bs, k_it, k_il, k_is, k_st, k_sl, k_ss, k_tt, k_tl, k_ts, k_ti, k_tb, k_lt, k_ll, k_ls, k_li, k_lb, e4]) ?_
    refine sq_to ⟨[some (.own 0), some (.dat (.int (2 + v1))), some (.dat (.int v2)), some (.dat (.int (v2 + v3))), some (.dat (.int (1 + v4))), some (.dat (.int (1 + v4 + v5))), none, none], [.lst (w5.l.map Rv.dat)]⟩ (by simp [-List.map_map, -List.map_take, runR, runD, sq, bnd, fB, f2, fVar, fC, ret, app2, app1, peek, ixG, atI, ixN, cmpG, toB, dats, dats_map, slots0, List.replicate, fN, fCons, fNil, appN, peeks, intG, modG, divG, asg, setM, setIx, frz, rowOf, addG, addI, subG, mul_c, powG, lenG, fCallR, frzAll, callRM, fCall, callM, fAnd, fOr, fNot, vAnd, vOr, vNot, fCh, isiG, tyN, fTup, tupM, fLst, lstM, newL, fL, appL, lstG, tupG, maxG, tupleG, gCn, gNl, cutM, toI, negM, par2, tupI, rng1I, rng2I, q_int, q_bool, q_nint, q_nbool, kb_ii, kb_ib, kb_bi, kb_bb, kb_ni, kb_nb, kb_si, kb_sb, k_nt, k_nl, k_ns, k_bt, k_bl, k_bs, k_it, k_il, k_is, k_st, k_sl, k_ss, k_tt, k_tl, k_ts, k_ti, k_tb, k_lt, k_ll, k_ls, k_li, k_lb, e5]) ?_
    refine sq_to ⟨[some (.own 0), some (.dat (.int (2 + v1))), some (.dat (.int v2)), some (.dat (.int (v2 + v3))), some (.dat (.int (1 + v4))), some (.dat (.int (1 + v4 + v5))), some (.own 1), none], [.lst (w6.l.map Rv.dat), .lst ((st.map PyData.int).map Rv.dat)]⟩ (bnd_to _ _ e6 rfl) ?_
    have hz : (7 : Nat) ≤ sizeLine := by decide
    simp [-List.map_map, -List.map_take, runR, runD, sq, bnd, fB, f2, fVar, fC, ret, app2, app1, peek, ixG, atI, ixN, cmpG, toB, dats, dats_map, slots0, List.replicate, fN, fCons, fNil, appN, peeks, intG, modG, divG, asg, setM, setIx, frz, rowOf, addG, addI, subG, mul_c, powG, lenG, fCallR, frzAll, callRM, fCall, callM, fAnd, fOr, fNot, vAnd, vOr, vNot, fCh, isiG, tyN, fTup, tupM, fLst, lstM, newL, fL, appL, lstG, tupG, maxG, tupleG, gCn, gNl, cutM, toI, negM, par2, tupI, rng1I, rng2I, q_int, q_bool, q_nint, q_nbool, kb_ii, kb_ib, kb_bi, kb_bb, kb_ni, kb_nb, kb_si, kb_sb, k_nt, k_nl, k_ns, k_bt, k_bl, k_bs, k_it, k_il, k_is, k_st, k_sl, k_ss, k_tt, k_tl, k_ts, k_ti, k_tb, k_lt, k_ll, k_ls, k_li, k_lb, e7, cut2m, hz, Al.d]
  · refine ⟨by simp; omega, by simp; omega, by simp; omega, by simp; omega, by simp; omega, by simp; omega, ?_, fun x hx => ?_, by simp; omega⟩
    · exact i6.sublist (List.take_sublist _ _)
    · exact m6 x (List.mem_of_mem_take hx)
theorem num_t {v lo hi : Int} (h1 : lo ≤ v) (h2 : v ≤ hi) : F_is_number [.int v, .int lo, .int hi] = .ok (.bool true) := by rw [num_ok]; simp [h1, h2]
theorem settings_ok (st : List Int) (H : Int) (hl : st.length ≤ 2) (hi : st.Pairwise (· < ·)) (hm : ∀ x ∈ st, x ≠ 0 ∧ -H < x ∧ x < H) : F_are_settings [.tuple (st.map PyData.int), .int H] = .ok (.bool true) := by
  match st, hl, hi, hm with
  | [], _, _, _ => simp [F_are_settings, G_are_settings, -List.map_map, -List.map_take, runR, runD, sq, bnd, fB, f2, fVar, fC, ret, app2, app1, peek, ixG, atI, ixN, cmpG, toB, dats, dats_map, slots0, List.replicate, fN, fCons, fNil, appN, peeks, intG, modG, divG, asg, setM, setIx, frz, rowOf, addG, addI, subG, mul_c, powG, lenG, fCallR, frzAll, callRM, fCall, callM, fAnd, fOr, fNot, vAnd, vOr, vNot, fCh, isiG, tyN, fTup, tupM, fLst, lstM, newL, fL, appL, lstG, tupG, maxG, tupleG, gCn, gNl, cutM, toI, negM, par2, tupI, rng1I, rng2I, q_int, q_bool, q_nint, q_nbool, kb_ii, kb_ib, kb_bi, kb_bb, kb_ni, kb_nb, kb_si, kb_sb, k_nt, k_nl, k_ns, k_bt, k_bl, k_bs, k_it, k_il, k_is, k_st, k_sl, k_ss, k_tt, k_tl, k_ts, k_ti, k_tb, k_lt, k_ll, k_ls, k_li, k_lb, fQ1, fQ2, appQ1, appQ2, capV, toV, toVs, mapB, mapB2, quant, cutD, HT.sIx]
  | [a], _, _, hm =>
    have h := hm a (by simp)
    have h1 : 1 - H ≤ a := by omega
    have h2 : a ≤ H - 1 := by omega
    simp [F_are_settings, G_are_settings, -List.map_map, -List.map_take, runR, runD, sq, bnd, fB, f2, fVar, fC, ret, app2, app1, peek, ixG, atI, ixN, cmpG, toB, dats, dats_map, slots0, List.replicate, fN, fCons, fNil, appN, peeks, intG, modG, divG, asg, setM, setIx, frz, rowOf, addG, addI, subG, mul_c, powG, lenG, fCallR, frzAll, callRM, fCall, callM, fAnd, fOr, fNot, vAnd, vOr, vNot, fCh, isiG, tyN, fTup, tupM, fLst, lstM, newL, fL, appL, lstG, tupG, maxG, tupleG, gCn, gNl, cutM, toI, negM, par2, tupI, rng1I, rng2I, q_int, q_bool, q_nint, q_nbool, kb_ii, kb_ib, kb_bi, kb_bb, kb_ni, kb_nb, kb_si, kb_sb, k_nt, k_nl, k_ns, k_bt, k_bl, k_bs, k_it, k_il, k_is, k_st, k_sl, k_ss, k_tt, k_tl, k_ts, k_ti, k_tb, k_lt, k_ll, k_ls, k_li, k_lb, fQ1, fQ2, appQ1, appQ2, capV, toV, toVs, mapB, mapB2, quant, cutD, HT.sIx, geSet, isNumV, h.1, h1, h2]
  | [a, b], _, hi, hm =>
    have h := hm a (by simp)
    have h1 : 1 - H ≤ a := by omega
    have h2 : a ≤ H - 1 := by omega
    have g := hm b (by simp)
    have g1 : 1 - H ≤ b := by omega
    have g2 : b ≤ H - 1 := by omega
    have ab : a < b := by simpa using hi
    simp [F_are_settings, G_are_settings, -List.map_map, -List.map_take, runR, runD, sq, bnd, fB, f2, fVar, fC, ret, app2, app1, peek, ixG, atI, ixN, cmpG, toB, dats, dats_map, slots0, List.replicate, fN, fCons, fNil, appN, peeks, intG, modG, divG, asg, setM, setIx, frz, rowOf, addG, addI, subG, mul_c, powG, lenG, fCallR, frzAll, callRM, fCall, callM, fAnd, fOr, fNot, vAnd, vOr, vNot, fCh, isiG, tyN, fTup, tupM, fLst, lstM, newL, fL, appL, lstG, tupG, maxG, tupleG, gCn, gNl, cutM, toI, negM, par2, tupI, rng1I, rng2I, q_int, q_bool, q_nint, q_nbool, kb_ii, kb_ib, kb_bi, kb_bb, kb_ni, kb_nb, kb_si, kb_sb, k_nt, k_nl, k_ns, k_bt, k_bl, k_bs, k_it, k_il, k_is, k_st, k_sl, k_ss, k_tt, k_tl, k_ts, k_ti, k_tb, k_lt, k_ll, k_ls, k_li, k_lb, fQ1, fQ2, appQ1, appQ2, capV, toV, toVs, mapB, mapB2, quant, cutD, HT.sIx, geSet, geLt, isNumV, h.1, h1, h2, g.1, g1, g2, ab]
  | a :: b :: c :: r, hl, _, _ => simp at hl
theorem need_ok (A : Al) (h : A.Ok) : F_need_almanac [A.d] = .ok .none := by
  obtain ⟨H, F, L, S, T, st, R⟩ := A
  obtain ⟨h1, h2, h3, h4, h5, h6, h7, h8, h9⟩ := h
  simp only at h1 h2 h3 h4 h5 h6 h7 h8 h9
  have n1 := num_t (v := H) (lo := 2) (hi := 12) (by omega) (by omega)
  have n2 := num_t (v := F) (lo := 0) (hi := H - 1) (by omega) (by omega)
  have n3 := num_t (v := L) (lo := F) (hi := F + H - 1) (by omega) (by omega)
  have n4 := num_t (v := S) (lo := 1) (hi := 24) (by omega) (by omega)
  have n5 := num_t (v := T) (lo := S) (hi := 24) (by omega) (by omega)
  have n6 := num_t (v := R) (lo := 1) (hi := 12) (by omega) (by omega)
  have s := settings_ok st H h6 h7 h8
  simp [F_need_almanac, G_need_almanac, Al.d, -List.map_map, -List.map_take, runR, runD, sq, bnd, fB, f2, fVar, fC, ret, app2, app1, peek, ixG, atI, ixN, cmpG, toB, dats, dats_map, slots0, List.replicate, fN, fCons, fNil, appN, peeks, intG, modG, divG, asg, setM, setIx, frz, rowOf, addG, addI, subG, mul_c, powG, lenG, fCallR, frzAll, callRM, fCall, callM, fAnd, fOr, fNot, vAnd, vOr, vNot, fCh, isiG, tyN, fTup, tupM, fLst, lstM, newL, fL, appL, lstG, tupG, maxG, tupleG, gCn, gNl, cutM, toI, negM, par2, tupI, rng1I, rng2I, q_int, q_bool, q_nint, q_nbool, kb_ii, kb_ib, kb_bi, kb_bb, kb_ni, kb_nb, kb_si, kb_sb, k_nt, k_nl, k_ns, k_bt, k_bl, k_bs, k_it, k_il, k_is, k_st, k_sl, k_ss, k_tt, k_tl, k_ts, k_ti, k_tb, k_lt, k_ll, k_ls, k_li, k_lb, n1, n2, n3, n4, n5, n6, s]
theorem need_hour_ok (x : Int) (h0 : 0 ≤ x) (h1 : x ≤ 1000000000) : F_need_hour [.int x] = .ok .none := by
  have n := num_t h0 h1
  simp [F_need_hour, G_need_hour, -List.map_map, -List.map_take, runR, runD, sq, bnd, fB, f2, fVar, fC, ret, app2, app1, peek, ixG, atI, ixN, cmpG, toB, dats, dats_map, slots0, List.replicate, fN, fCons, fNil, appN, peeks, intG, modG, divG, asg, setM, setIx, frz, rowOf, addG, addI, subG, mul_c, powG, lenG, fCallR, frzAll, callRM, fCall, callM, fAnd, fOr, fNot, vAnd, vOr, vNot, fCh, isiG, tyN, fTup, tupM, fLst, lstM, newL, fL, appL, lstG, tupG, maxG, tupleG, gCn, gNl, cutM, toI, negM, par2, tupI, rng1I, rng2I, q_int, q_bool, q_nint, q_nbool, kb_ii, kb_ib, kb_bi, kb_bb, kb_ni, kb_nb, kb_si, kb_sb, k_nt, k_nl, k_ns, k_bt, k_bl, k_bs, k_it, k_il, k_is, k_st, k_sl, k_ss, k_tt, k_tl, k_ts, k_ti, k_tb, k_lt, k_ll, k_ls, k_li, k_lb, n]
theorem shut_by_ok (A : Al) (h : A.Ok) (x : Int) : F_shut_by [A.d, .int x] = .ok (.int ((x - 1 - A.L) / A.H + 1)) := by
  have h1 := h.h
  have e1 : 0 < A.H := by omega
  have e2 : A.H < 1073741824 := by omega
  simp [F_shut_by, G_shut_by, Al.d, -List.map_map, -List.map_take, runR, runD, sq, bnd, fB, f2, fVar, fC, ret, app2, app1, peek, ixG, atI, ixN, cmpG, toB, dats, dats_map, slots0, List.replicate, fN, fCons, fNil, appN, peeks, intG, modG, divG, asg, setM, setIx, frz, rowOf, addG, addI, subG, mul_c, powG, lenG, fCallR, frzAll, callRM, fCall, callM, fAnd, fOr, fNot, vAnd, vOr, vNot, fCh, isiG, tyN, fTup, tupM, fLst, lstM, newL, fL, appL, lstG, tupG, maxG, tupleG, gCn, gNl, cutM, toI, negM, par2, tupI, rng1I, rng2I, q_int, q_bool, q_nint, q_nbool, kb_ii, kb_ib, kb_bi, kb_bb, kb_ni, kb_nb, kb_si, kb_sb, k_nt, k_nl, k_ns, k_bt, k_bl, k_bs, k_it, k_il, k_is, k_st, k_sl, k_ss, k_tt, k_tl, k_ts, k_ti, k_tb, k_lt, k_ll, k_ls, k_li, k_lb, e1, e2]
theorem opened_by_ok (A : Al) (h : A.Ok) (x : Int) : F_opened_by [A.d, .int x] = .ok (.int ((x - A.F) / A.H + 1)) := by
  have h1 := h.h
  have e1 : 0 < A.H := by omega
  have e2 : A.H < 1073741824 := by omega
  simp [F_opened_by, G_opened_by, Al.d, -List.map_map, -List.map_take, runR, runD, sq, bnd, fB, f2, fVar, fC, ret, app2, app1, peek, ixG, atI, ixN, cmpG, toB, dats, dats_map, slots0, List.replicate, fN, fCons, fNil, appN, peeks, intG, modG, divG, asg, setM, setIx, frz, rowOf, addG, addI, subG, mul_c, powG, lenG, fCallR, frzAll, callRM, fCall, callM, fAnd, fOr, fNot, vAnd, vOr, vNot, fCh, isiG, tyN, fTup, tupM, fLst, lstM, newL, fL, appL, lstG, tupG, maxG, tupleG, gCn, gNl, cutM, toI, negM, par2, tupI, rng1I, rng2I, q_int, q_bool, q_nint, q_nbool, kb_ii, kb_ib, kb_bi, kb_bb, kb_ni, kb_nb, kb_si, kb_sb, k_nt, k_nl, k_ns, k_bt, k_bl, k_bs, k_it, k_il, k_is, k_st, k_sl, k_ss, k_tt, k_tl, k_ts, k_ti, k_tb, k_lt, k_ll, k_ls, k_li, k_lb, e1, e2]
theorem urgent_at_ok (A : Al) (h : A.Ok) (x : Int) : F_urgent_at [A.d, .int x] = .ok (.int ((x + A.T - 1 - A.L) / A.H + 1)) := by
  have e := shut_by_ok A h (x + A.T)
  unfold Al.d at e ⊢
  simp [F_urgent_at, G_urgent_at, -List.map_map, -List.map_take, runR, runD, sq, bnd, fB, f2, fVar, fC, ret, app2, app1, peek, ixG, atI, ixN, cmpG, toB, dats, dats_map, slots0, List.replicate, fN, fCons, fNil, appN, peeks, intG, modG, divG, asg, setM, setIx, frz, rowOf, addG, addI, subG, mul_c, powG, lenG, fCallR, frzAll, callRM, fCall, callM, fAnd, fOr, fNot, vAnd, vOr, vNot, fCh, isiG, tyN, fTup, tupM, fLst, lstM, newL, fL, appL, lstG, tupG, maxG, tupleG, gCn, gNl, cutM, toI, negM, par2, tupI, rng1I, rng2I, q_int, q_bool, q_nint, q_nbool, kb_ii, kb_ib, kb_bi, kb_bb, kb_ni, kb_nb, kb_si, kb_sb, k_nt, k_nl, k_ns, k_bt, k_bl, k_bs, k_it, k_il, k_is, k_st, k_sl, k_ss, k_tt, k_tl, k_ts, k_ti, k_tb, k_lt, k_ll, k_ls, k_li, k_lb, e]
theorem shut_ok (A : Al) (h : A.Ok) (x : Int) (h0 : 0 ≤ x) (h1 : x ≤ 1000000000) : F_shut [A.d, .int x] = .ok (.int (if (x - 1 - A.L) / A.H + 1 > 0 then (x - 1 - A.L) / A.H + 1 else 0)) := by
  simp [F_shut, G_shut, -List.map_map, -List.map_take, runR, runD, sq, bnd, fB, f2, fVar, fC, ret, app2, app1, peek, ixG, atI, ixN, cmpG, toB, dats, dats_map, slots0, List.replicate, fN, fCons, fNil, appN, peeks, intG, modG, divG, asg, setM, setIx, frz, rowOf, addG, addI, subG, mul_c, powG, lenG, fCallR, frzAll, callRM, fCall, callM, fAnd, fOr, fNot, vAnd, vOr, vNot, fCh, isiG, tyN, fTup, tupM, fLst, lstM, newL, fL, appL, lstG, tupG, maxG, tupleG, gCn, gNl, cutM, toI, negM, par2, tupI, rng1I, rng2I, q_int, q_bool, q_nint, q_nbool, kb_ii, kb_ib, kb_bi, kb_bb, kb_ni, kb_nb, kb_si, kb_sb, k_nt, k_nl, k_ns, k_bt, k_bl, k_bs, k_it, k_il, k_is, k_st, k_sl, k_ss, k_tt, k_tl, k_ts, k_ti, k_tb, k_lt, k_ll, k_ls, k_li, k_lb, need_ok A h, need_hour_ok x h0 h1, shut_by_ok A h x]
theorem opened_ok (A : Al) (h : A.Ok) (x : Int) (h0 : 0 ≤ x) (h1 : x ≤ 1000000000) : F_opened [A.d, .int x] = .ok (.int (if (x - A.F) / A.H + 1 > 0 then (x - A.F) / A.H + 1 else 0)) := by
  simp [F_opened, G_opened, -List.map_map, -List.map_take, runR, runD, sq, bnd, fB, f2, fVar, fC, ret, app2, app1, peek, ixG, atI, ixN, cmpG, toB, dats, dats_map, slots0, List.replicate, fN, fCons, fNil, appN, peeks, intG, modG, divG, asg, setM, setIx, frz, rowOf, addG, addI, subG, mul_c, powG, lenG, fCallR, frzAll, callRM, fCall, callM, fAnd, fOr, fNot, vAnd, vOr, vNot, fCh, isiG, tyN, fTup, tupM, fLst, lstM, newL, fL, appL, lstG, tupG, maxG, tupleG, gCn, gNl, cutM, toI, negM, par2, tupI, rng1I, rng2I, q_int, q_bool, q_nint, q_nbool, kb_ii, kb_ib, kb_bi, kb_bb, kb_ni, kb_nb, kb_si, kb_sb, k_nt, k_nl, k_ns, k_bt, k_bl, k_bs, k_it, k_il, k_is, k_st, k_sl, k_ss, k_tt, k_tl, k_ts, k_ti, k_tb, k_lt, k_ll, k_ls, k_li, k_lb, need_ok A h, need_hour_ok x h0 h1, opened_by_ok A h x]
theorem urgent_ok (A : Al) (h : A.Ok) (x : Int) (h0 : 0 ≤ x) (h1 : x ≤ 1000000000) : F_urgent [A.d, .int x] = .ok (.int (if (x + A.T - 1 - A.L) / A.H + 1 > 0 then (x + A.T - 1 - A.L) / A.H + 1 else 0)) := by
  simp [F_urgent, G_urgent, -List.map_map, -List.map_take, runR, runD, sq, bnd, fB, f2, fVar, fC, ret, app2, app1, peek, ixG, atI, ixN, cmpG, toB, dats, dats_map, slots0, List.replicate, fN, fCons, fNil, appN, peeks, intG, modG, divG, asg, setM, setIx, frz, rowOf, addG, addI, subG, mul_c, powG, lenG, fCallR, frzAll, callRM, fCall, callM, fAnd, fOr, fNot, vAnd, vOr, vNot, fCh, isiG, tyN, fTup, tupM, fLst, lstM, newL, fL, appL, lstG, tupG, maxG, tupleG, gCn, gNl, cutM, toI, negM, par2, tupI, rng1I, rng2I, q_int, q_bool, q_nint, q_nbool, kb_ii, kb_ib, kb_bi, kb_bb, kb_ni, kb_nb, kb_si, kb_sb, k_nt, k_nl, k_ns, k_bt, k_bl, k_bs, k_it, k_il, k_is, k_st, k_sl, k_ss, k_tt, k_tl, k_ts, k_ti, k_tb, k_lt, k_ll, k_ls, k_li, k_lb, need_ok A h, need_hour_ok x h0 h1, urgent_at_ok A h x]
theorem sg_shut (A : Al) (x i : Int) (m1 : mulG (.int i) (.int A.H) = some (.int (i * A.H))) : (fB (f2 ltG (f2 addG (f2 mulG (fVar 2) (f2 ixG (fVar 0) (fC (.int 0)))) (f2 ixG (fVar 0) (fC (.int 2)))) (fVar 1))) ⟨[some (.dat A.d), some (.dat (.int x)), some (.dat (.int i))], []⟩ = .ok (decide (i * A.H + A.L < x)) ⟨[some (.dat A.d), some (.dat (.int x)), some (.dat (.int i))], []⟩ := by
  simp [Al.d, -List.map_map, -List.map_take, runR, runD, sq, bnd, fB, f2, fVar, fC, ret, app2, app1, peek, ixG, atI, ixN, cmpG, toB, dats, dats_map, slots0, List.replicate, fN, fCons, fNil, appN, peeks, intG, modG, divG, asg, setM, setIx, frz, rowOf, addG, addI, subG, mul_c, powG, lenG, fCallR, frzAll, callRM, fCall, callM, fAnd, fOr, fNot, vAnd, vOr, vNot, fCh, isiG, tyN, fTup, tupM, fLst, lstM, newL, fL, appL, lstG, tupG, maxG, tupleG, gCn, gNl, cutM, toI, negM, par2, tupI, rng1I, rng2I, q_int, q_bool, q_nint, q_nbool, kb_ii, kb_ib, kb_bi, kb_bb, kb_ni, kb_nb, kb_si, kb_sb, k_nt, k_nl, k_ns, k_bt, k_bl, k_bs, k_it, k_il, k_is, k_st, k_sl, k_ss, k_tt, k_tl, k_ts, k_ti, k_tb, k_lt, k_ll, k_ls, k_li, k_lb, m1]
theorem law_shut_ok (A : Al) (h : A.Ok) (x : Int) : F__law_shut [A.d, .int x] = .ok (.int (if (x - 1 - A.L) / A.H + 1 > 0 then (x - 1 - A.L) / A.H + 1 else 0)) := by
  have h1 := h.h
  have e1 : 0 < A.H := by omega
  have m1 : ∀ i : Int, mulG (.int i) (.int A.H) = some (.int (i * A.H)) := fun i => mul_ok (by omega) (by omega)
  refine runD_ok rfl (e := ⟨[some (.dat A.d), some (.dat (.int x)), some (.dat (.int (if (x - 1 - A.L) / A.H + 1 > 0 then (x - 1 - A.L) / A.H + 1 else 0)))], []⟩) ?_
  refine sq_to ⟨[some (.dat A.d), some (.dat (.int x)), some (.dat (.int ((0 : Nat) : Int)))], []⟩ (by simp [-List.map_map, -List.map_take, runR, runD, sq, bnd, fB, f2, fVar, fC, ret, app2, app1, peek, ixG, atI, ixN, cmpG, toB, dats, dats_map, slots0, List.replicate, fN, fCons, fNil, appN, peeks, intG, modG, divG, asg, setM, setIx, frz, rowOf, addG, addI, subG, mul_c, powG, lenG, fCallR, frzAll, callRM, fCall, callM, fAnd, fOr, fNot, vAnd, vOr, vNot, fCh, isiG, tyN, fTup, tupM, fLst, lstM, newL, fL, appL, lstG, tupG, maxG, tupleG, gCn, gNl, cutM, toI, negM, par2, tupI, rng1I, rng2I, q_int, q_bool, q_nint, q_nbool, kb_ii, kb_ib, kb_bi, kb_bb, kb_ni, kb_nb, kb_si, kb_sb, k_nt, k_nl, k_ns, k_bt, k_bl, k_bs, k_it, k_il, k_is, k_st, k_sl, k_ss, k_tt, k_tl, k_ts, k_ti, k_tb, k_lt, k_ll, k_ls, k_li, k_lb]) ?_
  have key : ∀ i : Nat, (i : Int) * A.H + A.L < x ↔ (i : Int) < (x - 1 - A.L) / A.H + 1 := fun i => by
    have := Int.le_ediv_iff_mul_le (a := (i : Int)) (b := x - 1 - A.L) e1
    constructor
    · intro q
      have := this.mpr (by omega)
      omega
    · intro q
      have := this.mp (by omega)
      omega
  refine sq_to ⟨[some (.dat A.d), some (.dat (.int x)), some (.dat (.int (((if (x - 1 - A.L) / A.H + 1 > 0 then (x - 1 - A.L) / A.H + 1 else 0).toNat : Nat) : Int)))], []⟩ ?_ ?_
  · refine while_count (fun i => ⟨[some (.dat A.d), some (.dat (.int x)), some (.dat (.int (i : Int)))], []⟩) _ (fun i hi => ?_) ?_
    · have hk : (i : Int) * A.H + A.L < x := (key i).mpr (by split at hi <;> omega)
      exact ⟨(sg_shut A x _ (m1 _)).trans (by rw [decide_eq_true hk]), by simp [-List.map_map, -List.map_take, runR, runD, sq, bnd, fB, f2, fVar, fC, ret, app2, app1, peek, ixG, atI, ixN, cmpG, toB, dats, dats_map, slots0, List.replicate, fN, fCons, fNil, appN, peeks, intG, modG, divG, asg, setM, setIx, frz, rowOf, addG, addI, subG, mul_c, powG, lenG, fCallR, frzAll, callRM, fCall, callM, fAnd, fOr, fNot, vAnd, vOr, vNot, fCh, isiG, tyN, fTup, tupM, fLst, lstM, newL, fL, appL, lstG, tupG, maxG, tupleG, gCn, gNl, cutM, toI, negM, par2, tupI, rng1I, rng2I, q_int, q_bool, q_nint, q_nbool, kb_ii, kb_ib, kb_bi, kb_bb, kb_ni, kb_nb, kb_si, kb_sb, k_nt, k_nl, k_ns, k_bt, k_bl, k_bs, k_it, k_il, k_is, k_st, k_sl, k_ss, k_tt, k_tl, k_ts, k_ti, k_tb, k_lt, k_ll, k_ls, k_li, k_lb]⟩
    · have hk : ¬ ((((if (x - 1 - A.L) / A.H + 1 > 0 then (x - 1 - A.L) / A.H + 1 else 0).toNat : Nat) : Int) * A.H + A.L < x) := fun q => by
        have := (key _).mp q
        split at this <;> omega
      exact (sg_shut A x _ (m1 _)).trans (by rw [decide_eq_false hk])
  · have e : (((if (x - 1 - A.L) / A.H + 1 > 0 then (x - 1 - A.L) / A.H + 1 else 0).toNat : Nat) : Int) = (if (x - 1 - A.L) / A.H + 1 > 0 then (x - 1 - A.L) / A.H + 1 else 0) := by split <;> omega
    rw [e]
    simp [-List.map_map, -List.map_take, runR, runD, sq, bnd, fB, f2, fVar, fC, ret, app2, app1, peek, ixG, atI, ixN, cmpG, toB, dats, dats_map, slots0, List.replicate, fN, fCons, fNil, appN, peeks, intG, modG, divG, asg, setM, setIx, frz, rowOf, addG, addI, subG, mul_c, powG, lenG, fCallR, frzAll, callRM, fCall, callM, fAnd, fOr, fNot, vAnd, vOr, vNot, fCh, isiG, tyN, fTup, tupM, fLst, lstM, newL, fL, appL, lstG, tupG, maxG, tupleG, gCn, gNl, cutM, toI, negM, par2, tupI, rng1I, rng2I, q_int, q_bool, q_nint, q_nbool, kb_ii, kb_ib, kb_bi, kb_bb, kb_ni, kb_nb, kb_si, kb_sb, k_nt, k_nl, k_ns, k_bt, k_bl, k_bs, k_it, k_il, k_is, k_st, k_sl, k_ss, k_tt, k_tl, k_ts, k_ti, k_tb, k_lt, k_ll, k_ls, k_li, k_lb]
theorem sg_open (A : Al) (x i : Int) (m1 : mulG (.int i) (.int A.H) = some (.int (i * A.H))) : (fB (f2 leG (f2 addG (f2 mulG (fVar 2) (f2 ixG (fVar 0) (fC (.int 0)))) (f2 ixG (fVar 0) (fC (.int 1)))) (fVar 1))) ⟨[some (.dat A.d), some (.dat (.int x)), some (.dat (.int i))], []⟩ = .ok (decide (i * A.H + A.F ≤ x)) ⟨[some (.dat A.d), some (.dat (.int x)), some (.dat (.int i))], []⟩ := by
  simp [Al.d, -List.map_map, -List.map_take, runR, runD, sq, bnd, fB, f2, fVar, fC, ret, app2, app1, peek, ixG, atI, ixN, cmpG, toB, dats, dats_map, slots0, List.replicate, fN, fCons, fNil, appN, peeks, intG, modG, divG, asg, setM, setIx, frz, rowOf, addG, addI, subG, mul_c, powG, lenG, fCallR, frzAll, callRM, fCall, callM, fAnd, fOr, fNot, vAnd, vOr, vNot, fCh, isiG, tyN, fTup, tupM, fLst, lstM, newL, fL, appL, lstG, tupG, maxG, tupleG, gCn, gNl, cutM, toI, negM, par2, tupI, rng1I, rng2I, q_int, q_bool, q_nint, q_nbool, kb_ii, kb_ib, kb_bi, kb_bb, kb_ni, kb_nb, kb_si, kb_sb, k_nt, k_nl, k_ns, k_bt, k_bl, k_bs, k_it, k_il, k_is, k_st, k_sl, k_ss, k_tt, k_tl, k_ts, k_ti, k_tb, k_lt, k_ll, k_ls, k_li, k_lb, m1]
theorem law_open_ok (A : Al) (h : A.Ok) (x : Int) : F__law_open [A.d, .int x] = .ok (.int (if (x - A.F) / A.H + 1 > 0 then (x - A.F) / A.H + 1 else 0)) := by
  have h1 := h.h
  have e1 : 0 < A.H := by omega
  have m1 : ∀ i : Int, mulG (.int i) (.int A.H) = some (.int (i * A.H)) := fun i => mul_ok (by omega) (by omega)
  refine runD_ok rfl (e := ⟨[some (.dat A.d), some (.dat (.int x)), some (.dat (.int (if (x - A.F) / A.H + 1 > 0 then (x - A.F) / A.H + 1 else 0)))], []⟩) ?_
  refine sq_to ⟨[some (.dat A.d), some (.dat (.int x)), some (.dat (.int ((0 : Nat) : Int)))], []⟩ (by simp [-List.map_map, -List.map_take, runR, runD, sq, bnd, fB, f2, fVar, fC, ret, app2, app1, peek, ixG, atI, ixN, cmpG, toB, dats, dats_map, slots0, List.replicate, fN, fCons, fNil, appN, peeks, intG, modG, divG, asg, setM, setIx, frz, rowOf, addG, addI, subG, mul_c, powG, lenG, fCallR, frzAll, callRM, fCall, callM, fAnd, fOr, fNot, vAnd, vOr, vNot, fCh, isiG, tyN, fTup, tupM, fLst, lstM, newL, fL, appL, lstG, tupG, maxG, tupleG, gCn, gNl, cutM, toI, negM, par2, tupI, rng1I, rng2I, q_int, q_bool, q_nint, q_nbool, kb_ii, kb_ib, kb_bi, kb_bb, kb_ni, kb_nb, kb_si, kb_sb, k_nt, k_nl, k_ns, k_bt, k_bl, k_bs, k_it, k_il, k_is, k_st, k_sl, k_ss, k_tt, k_tl, k_ts, k_ti, k_tb, k_lt, k_ll, k_ls, k_li, k_lb]) ?_
  have key : ∀ i : Nat, (i : Int) * A.H + A.F ≤ x ↔ (i : Int) < (x - A.F) / A.H + 1 := fun i => by
    have := Int.le_ediv_iff_mul_le (a := (i : Int)) (b := x - A.F) e1
    constructor
    · intro q
      have := this.mpr (by omega)
      omega
    · intro q
      have := this.mp (by omega)
      omega
  refine sq_to ⟨[some (.dat A.d), some (.dat (.int x)), some (.dat (.int (((if (x - A.F) / A.H + 1 > 0 then (x - A.F) / A.H + 1 else 0).toNat : Nat) : Int)))], []⟩ ?_ ?_
  · refine while_count (fun i => ⟨[some (.dat A.d), some (.dat (.int x)), some (.dat (.int (i : Int)))], []⟩) _ (fun i hi => ?_) ?_
    · have hk : (i : Int) * A.H + A.F ≤ x := (key i).mpr (by split at hi <;> omega)
      exact ⟨(sg_open A x _ (m1 _)).trans (by rw [decide_eq_true hk]), by simp [-List.map_map, -List.map_take, runR, runD, sq, bnd, fB, f2, fVar, fC, ret, app2, app1, peek, ixG, atI, ixN, cmpG, toB, dats, dats_map, slots0, List.replicate, fN, fCons, fNil, appN, peeks, intG, modG, divG, asg, setM, setIx, frz, rowOf, addG, addI, subG, mul_c, powG, lenG, fCallR, frzAll, callRM, fCall, callM, fAnd, fOr, fNot, vAnd, vOr, vNot, fCh, isiG, tyN, fTup, tupM, fLst, lstM, newL, fL, appL, lstG, tupG, maxG, tupleG, gCn, gNl, cutM, toI, negM, par2, tupI, rng1I, rng2I, q_int, q_bool, q_nint, q_nbool, kb_ii, kb_ib, kb_bi, kb_bb, kb_ni, kb_nb, kb_si, kb_sb, k_nt, k_nl, k_ns, k_bt, k_bl, k_bs, k_it, k_il, k_is, k_st, k_sl, k_ss, k_tt, k_tl, k_ts, k_ti, k_tb, k_lt, k_ll, k_ls, k_li, k_lb]⟩
    · have hk : ¬ ((((if (x - A.F) / A.H + 1 > 0 then (x - A.F) / A.H + 1 else 0).toNat : Nat) : Int) * A.H + A.F ≤ x) := fun q => by
        have := (key _).mp q
        split at this <;> omega
      exact (sg_open A x _ (m1 _)).trans (by rw [decide_eq_false hk])
  · have e : (((if (x - A.F) / A.H + 1 > 0 then (x - A.F) / A.H + 1 else 0).toNat : Nat) : Int) = (if (x - A.F) / A.H + 1 > 0 then (x - A.F) / A.H + 1 else 0) := by split <;> omega
    rw [e]
    simp [-List.map_map, -List.map_take, runR, runD, sq, bnd, fB, f2, fVar, fC, ret, app2, app1, peek, ixG, atI, ixN, cmpG, toB, dats, dats_map, slots0, List.replicate, fN, fCons, fNil, appN, peeks, intG, modG, divG, asg, setM, setIx, frz, rowOf, addG, addI, subG, mul_c, powG, lenG, fCallR, frzAll, callRM, fCall, callM, fAnd, fOr, fNot, vAnd, vOr, vNot, fCh, isiG, tyN, fTup, tupM, fLst, lstM, newL, fL, appL, lstG, tupG, maxG, tupleG, gCn, gNl, cutM, toI, negM, par2, tupI, rng1I, rng2I, q_int, q_bool, q_nint, q_nbool, kb_ii, kb_ib, kb_bi, kb_bb, kb_ni, kb_nb, kb_si, kb_sb, k_nt, k_nl, k_ns, k_bt, k_bl, k_bs, k_it, k_il, k_is, k_st, k_sl, k_ss, k_tt, k_tl, k_ts, k_ti, k_tb, k_lt, k_ll, k_ls, k_li, k_lb]
theorem toVs_ints : ∀ l : List Int, toVs (l.map PyData.int) = some (l.map V.int)
  | [] => rfl
  | i :: l => by simp [toVs, toV, toVs_ints l]
theorem at_list {l : List PyData} {q : Nat} (h : q < l.length) : ixG (.list l) (.int (q : Int)) = some l[q] := by
  have h2 : (q : Int) < (l.length : Int) := by omega
  simp [ixG, atI, ixN, h, h2]
theorem at_tup {l : List PyData} {q : Nat} (h : q < l.length) : ixG (.tuple l) (.int (q : Int)) = some l[q] := by
  have h2 : (q : Int) < (l.length : Int) := by omega
  simp [ixG, atI, ixN, h, h2]
theorem at_last {l : List PyData} (h : 0 < l.length) : ixG (.tuple l) (.int (-1)) = some (l[l.length - 1]'(by omega)) := by
  have h2 : -(l.length : Int) ≤ -1 := by omega
  have e : ((-1 : Int) + (l.length : Int)).toNat = l.length - 1 := by omega
  have h3 : l.length - 1 < l.length := by omega
  simp [ixG, atI, ixN, h2, e, h3]
theorem pick_ok (w : Rw) (hp : 0 ≤ w.p) (l : List Int) (h0 : 0 < l.length) (h1 : l.length < 1000) : ∃ (v : Int) (w' : Rw), F__law_pick w.l [.list (l.map PyData.int)] = .ok (.int v) w'.l ∧ v ∈ l ∧ 0 ≤ w'.p := by
  obtain ⟨v, w', e1, a1, b1, p1⟩ := taken_ok w hp (l.length : Int) (by omega) (by omega)
  obtain ⟨q, rfl⟩ := Int.eq_ofNat_of_zero_le a1
  have hq : q < l.length := by omega
  refine ⟨l[q], w', ?_, List.getElem_mem hq, p1⟩
  have e2 : ixG (.list (l.map PyData.int)) (.int (q : Int)) = some (.int l[q]) := by
    rw [at_list (by simpa using hq)]
    simp
  refine runR_ok rfl (e := ⟨[some (.own 0), some (.dat (.list (l.map PyData.int)))], [.lst (w'.l.map Rv.dat)]⟩) ?_ (by simp [rowOf, dats_map, -List.map_map])
  unfold G__law_pick
  refine bnd_to (.dat (.int l[q])) _ ?_ rfl
  unfold f2
  refine bnd_to (.dat (.list (l.map PyData.int))) _ rfl ?_
  refine bnd_to (.dat (.int (q : Int))) ⟨[some (.own 0), some (.dat (.list (l.map PyData.int)))], [.lst (w'.l.map Rv.dat)]⟩ (by simp [-List.map_map, -List.map_take, runR, runD, sq, bnd, fB, f2, fVar, fC, ret, app2, app1, peek, ixG, atI, ixN, cmpG, toB, dats, dats_map, slots0, List.replicate, fN, fCons, fNil, appN, peeks, intG, modG, divG, asg, setM, setIx, frz, rowOf, addG, addI, subG, mul_c, powG, lenG, fCallR, frzAll, callRM, fCall, callM, fAnd, fOr, fNot, vAnd, vOr, vNot, fCh, isiG, tyN, fTup, tupM, fLst, lstM, newL, fL, appL, lstG, tupG, maxG, tupleG, gCn, gNl, cutM, toI, negM, par2, tupI, rng1I, rng2I, q_int, q_bool, q_nint, q_nbool, kb_ii, kb_ib, kb_bi, kb_bb, kb_ni, kb_nb, kb_si, kb_sb, k_nt, k_nl, k_ns, k_bt, k_bl, k_bs, k_it, k_il, k_is, k_st, k_sl, k_ss, k_tt, k_tl, k_ts, k_ti, k_tb, k_lt, k_ll, k_ls, k_li, k_lb, e1]) ?_
  simp [app2, peek, e2]
/-! ### stories -/
def setsOk (A : Al) : Int → Int → List (Int × Int) → Prop
  | _, _, [] => True
  | lo, hi, p :: r => lo ≤ p.1 ∧ p.1 ≤ hi ∧ p.2 ∈ A.st ∧ setsOk A (p.1 + A.R) hi r
def nxt (A : Al) : Int → List (Int × Int) → Int
  | lo, [] => lo
  | _, p :: r => nxt A (p.1 + A.R) r
theorem sets_snoc (A : Al) {hi hi' h v : Int} : ∀ {s : List (Int × Int)} {lo : Int}, setsOk A lo hi s → nxt A lo s ≤ h → h ≤ hi' → hi ≤ hi' → v ∈ A.st → setsOk A lo hi' (s ++ [(h, v)]) ∧ nxt A lo (s ++ [(h, v)]) = h + A.R
  | [], lo, _, h2, h3, _, h5 => ⟨⟨h2, h3, h5, trivial⟩, rfl⟩
  | p :: r, lo, h1, h2, h3, h4, h5 => by
    obtain ⟨a, b, c, d⟩ := h1
    obtain ⟨e, f⟩ := sets_snoc A d h2 h3 h4 h5
    exact ⟨⟨a, Int.le_trans b h4, c, e⟩, f⟩
theorem sets_up (A : Al) {hi hi' : Int} (h : hi ≤ hi') : ∀ {s : List (Int × Int)} {lo : Int}, setsOk A lo hi s → setsOk A lo hi' s
  | [], _, _ => trivial
  | p :: r, lo, ⟨a, b, c, d⟩ => ⟨a, Int.le_trans b h, c, sets_up A h d⟩
def wkOk (A : Al) (wk : List Int) : Prop := ∀ (i : Nat) (h : i + 1 < wk.length), wk[i] + A.S ≤ wk[i + 1] ∧ wk[i + 1] ≤ wk[i] + A.T
theorem wk_snoc (A : Al) {wk : List Int} {a b : Int} (h : wkOk A wk) (hl : wk.getLast? = some a) (h1 : a + A.S ≤ b) (h2 : b ≤ a + A.T) : wkOk A (wk ++ [b]) := by
  intro i hi
  simp only [List.length_append, List.length_cons, List.length_nil] at hi
  by_cases hc : i + 1 < wk.length
  · rw [List.getElem_append_left (by omega), List.getElem_append_left hc]
    exact h i hc
  · have e : wk.length = i + 1 := by omega
    rw [List.getElem_append_left (by omega), List.getElem_append_right (by omega)]
    rw [List.getLast?_eq_getElem?] at hl
    have e2 : wk.length - 1 = i := by omega
    rw [e2, List.getElem?_eq_getElem (by omega)] at hl
    have hl' := Option.some.inj hl
    rw [hl']
    simp
    exact ⟨h1, h2⟩
def sd (s : List (Int × Int)) : List PyData := s.map fun p => .tuple [.int p.1, .int p.2]
/-- a story -/
structure St where
  wk : List Int
  ss : List (Int × Int)
def St.d (S : St) : PyData := .tuple [.tuple (S.wk.map PyData.int), .tuple (sd S.ss)]
structure St.Ok (A : Al) (S : St) : Prop where
  n : 0 < S.wk.length ∧ S.wk.length ≤ 60
  hd : S.wk[0]? = some 0
  wk : wkOk A S.wk
  ss : ∃ hi, S.wk.getLast? = some hi ∧ setsOk A 1 hi S.ss
  m : S.ss.length ≤ 1000
end Pd

namespace Pd
open PySem PySem.Spec PyProof.Rows L2
theorem sd_snoc (s : List (Int × Int)) (h v : Int) : sd s ++ [.tuple [.int h, .int v]] = sd (s ++ [(h, v)]) := by simp [sd]
theorem ints_snoc (s : List Int) (h : Int) : s.map PyData.int ++ [.int h] = (s ++ [h]).map PyData.int := by simp
theorem catT {a b : List PyData} (h : a.length + b.length ≤ sizeLine) : addT (.tuple a) (.tuple b) = some (.tuple (a ++ b)) := by
  simp [addT, h]
/-- the slots of the story's drawing -/
def sE (A : Al) (m hour least : Int) (ss : List (Int × Int)) (wk : List Int) (a8 a9 a10 : Option Rv) : List (Option Rv) :=
  [some (.own 0), some (.dat A.d), some (.dat (.int m)), some (.dat (.int hour)), some (.dat (.int 0)), some (.dat (.int least)), some (.dat (.tuple (sd ss))), some (.dat (.tuple (wk.map PyData.int))), a8, a9, a10]
/-- a step within a gap -/
theorem step_ok (A : Al) (hA : A.Ok) (m hour least : Int) (ss : List (Int × Int)) (wk : List Int) (a8 a9 a10 : Option Rv) (w : Rw) (hp : 0 ≤ w.p) (junk : List Oc) (h0 : 0 ≤ hour) (h1 : (ss.length : Int) ≤ hour) (h2 : hour ≤ 1000) (hs : setsOk A 1 hour ss) (hn : least = nxt A 1 ss) :
    ∃ (w' : Rw) (junk' : List Oc) (least' : Int) (ss' : List (Int × Int)), 0 ≤ w'.p ∧ (ss'.length : Int) ≤ hour + 1 ∧ setsOk A 1 (hour + 1) ss' ∧ least' = nxt A 1 ss' ∧
    (sq (bnd (f2 addG (fVar 3) (fC (.int 1))) (asg (setM 3)))
  (bnd (fAnd (fB (f2 geG (fVar 3) (fVar 5))) (fAnd (fB (f2 neG (f2 ixG (fVar 1) (fC (.int 5))) (fTup fNil))) (fB (f2 eqG (fCallR F__law_taken (fVar 0) (fCons (fC (.int 3)) fNil)) (fC (.int 0)))))) fun k => if k = true then (bnd (fCons (f2 addG (fVar 6) (fTup (fCons (fTup (fCons (fVar 3) (fCons (fCallR F__law_pick (fVar 0) (fCons (fL lstG (fCons (f2 ixG (fVar 1) (fC (.int 5))) fNil)) fNil)) fNil))) fNil))) (fCons (f2 addG (fVar 3) (f2 ixG (fVar 1) (fC (.int 6)))) fNil)) (par2 6 5)) else (ret .nx)))
      ⟨sE A m hour least ss wk a8 a9 a10, .lst (w.l.map Rv.dat) :: junk⟩ = .ok .nx ⟨sE A m (hour + 1) least' ss' wk a8 a9 a10, .lst (w'.l.map Rv.dat) :: junk'⟩ := by
  have z0 : (0 : Nat) ≤ sizeLine := by decide
  have z1 : (1 : Nat) ≤ sizeLine := by decide
  have z2 : (2 : Nat) ≤ sizeLine := by decide
  have up := sets_up A (show hour ≤ hour + 1 by omega) hs
  by_cases c1 : least ≤ hour + 1
  · cases hst : A.st with
    | nil =>
      refine ⟨w, junk, least, ss, hp, by omega, up, hn, ?_⟩
      have q : neG (.tuple []) (.tuple []) = some (.bool false) := by simpa using q_ntup0 []
      simp [sE, Al.d, -List.map_map, -List.map_take, runR, runD, sq, bnd, fB, f2, fVar, fC, ret, app2, app1, peek, ixG, atI, ixN, cmpG, toB, dats, dats_map, slots0, List.replicate, fN, fCons, fNil, appN, peeks, intG, modG, divG, asg, setM, setIx, frz, rowOf, addG, addI, subG, mul_c, powG, lenG, fCallR, frzAll, callRM, fCall, callM, fAnd, fOr, fNot, vAnd, vOr, vNot, fCh, isiG, tyN, fTup, tupM, fLst, lstM, newL, fL, appL, lstG, tupG, maxG, tupleG, gCn, gNl, cutM, toI, negM, par2, tupI, rng1I, rng2I, q_int, q_bool, q_nint, q_nbool, kb_ii, kb_ib, kb_bi, kb_bb, kb_ni, kb_nb, kb_si, kb_sb, k_nt, k_nl, k_ns, k_bt, k_bl, k_bs, k_it, k_il, k_is, k_st, k_sl, k_ss, k_tt, k_tl, k_ts, k_ti, k_tb, k_lt, k_ll, k_ls, k_li, k_lb, hst, c1, z0, q]
    | cons y ys =>
      obtain ⟨v, w1, e1, a1, b1, p1⟩ := taken_ok w hp 3 (by omega) (by omega)
      have q := q_ntup0 (y :: ys)
      simp only [List.isEmpty_cons, Bool.not_false] at q
      by_cases hv : v = 0
      · obtain ⟨u, w2, e2, mu, p2⟩ := pick_ok w1 p1 (y :: ys) (by simp) (by have := hA.n; rw [hst] at this; omega)
        obtain ⟨g1, g2⟩ := sets_snoc A (h := hour + 1) (v := u) (hi' := hour + 1) hs (by rw [← hn]; exact c1) (Int.le_refl _) (by omega) (by rw [hst]; exact mu)
        refine ⟨w2, junk ++ [.fz ((y :: ys).map PyData.int)], hour + 1 + A.R, ss ++ [(hour + 1, u)], p2, by simp; omega, g1, g2.symm, ?_⟩
        have hz : (sd ss).length + [PyData.tuple [.int (hour + 1), .int u]].length ≤ sizeLine := by
          have := szl
          simp [sd]
          omega
        have cz := catT hz
        rw [sd_snoc] at cz
        subst hv
        refine sq_to ⟨sE A m (hour + 1) least ss wk a8 a9 a10, .lst (w.l.map Rv.dat) :: junk⟩ (by simp [sE, -List.map_map, -List.map_take, runR, runD, sq, bnd, fB, f2, fVar, fC, ret, app2, app1, peek, ixG, atI, ixN, cmpG, toB, dats, dats_map, slots0, List.replicate, fN, fCons, fNil, appN, peeks, intG, modG, divG, asg, setM, setIx, frz, rowOf, addG, addI, subG, mul_c, powG, lenG, fCallR, frzAll, callRM, fCall, callM, fAnd, fOr, fNot, vAnd, vOr, vNot, fCh, isiG, tyN, fTup, tupM, fLst, lstM, newL, fL, appL, lstG, tupG, maxG, tupleG, gCn, gNl, cutM, toI, negM, par2, tupI, rng1I, rng2I, q_int, q_bool, q_nint, q_nbool, kb_ii, kb_ib, kb_bi, kb_bb, kb_ni, kb_nb, kb_si, kb_sb, k_nt, k_nl, k_ns, k_bt, k_bl, k_bs, k_it, k_il, k_is, k_st, k_sl, k_ss, k_tt, k_tl, k_ts, k_ti, k_tb, k_lt, k_ll, k_ls, k_li, k_lb]) ?_
        refine bnd_to true ⟨sE A m (hour + 1) least ss wk a8 a9 a10, .lst (w1.l.map Rv.dat) :: junk⟩ ?_ ?_
        · have q' : neG (.tuple (A.st.map PyData.int)) (.tuple []) = some (.bool true) := by rw [hst]; exact q
          simp [sE, Al.d, -List.map_map, -List.map_take, runR, runD, sq, bnd, fB, f2, fVar, fC, ret, app2, app1, peek, ixG, atI, ixN, cmpG, toB, dats, dats_map, slots0, List.replicate, fN, fCons, fNil, appN, peeks, intG, modG, divG, asg, setM, setIx, frz, rowOf, addG, addI, subG, mul_c, powG, lenG, fCallR, frzAll, callRM, fCall, callM, fAnd, fOr, fNot, vAnd, vOr, vNot, fCh, isiG, tyN, fTup, tupM, fLst, lstM, newL, fL, appL, lstG, tupG, maxG, tupleG, gCn, gNl, cutM, toI, negM, par2, tupI, rng1I, rng2I, q_int, q_bool, q_nint, q_nbool, kb_ii, kb_ib, kb_bi, kb_bb, kb_ni, kb_nb, kb_si, kb_sb, k_nt, k_nl, k_ns, k_bt, k_bl, k_bs, k_it, k_il, k_is, k_st, k_sl, k_ss, k_tt, k_tl, k_ts, k_ti, k_tb, k_lt, k_ll, k_ls, k_li, k_lb, c1, z0, q', e1]
        · rw [if_pos rfl]
          have e2' : F__law_pick w1.l [.list (A.st.map PyData.int)] = .ok (.int u) w2.l := by rw [hst]; exact e2
          have fr : ∀ (o : List Oc) (x y : Oc), (o ++ [x]).set o.length y = o ++ [y] := fun o x y => by simp
          rw [← hst]
          simp [sE, Al.d, -List.map_map, -List.map_take, runR, runD, sq, bnd, fB, f2, fVar, fC, ret, app2, app1, peek, ixG, atI, ixN, cmpG, toB, dats, dats_map, slots0, List.replicate, fN, fCons, fNil, appN, peeks, intG, modG, divG, asg, setM, setIx, frz, rowOf, addG, addI, subG, mul_c, powG, lenG, fCallR, frzAll, callRM, fCall, callM, fAnd, fOr, fNot, vAnd, vOr, vNot, fCh, isiG, tyN, fTup, tupM, fLst, lstM, newL, fL, appL, lstG, tupG, maxG, tupleG, gCn, gNl, cutM, toI, negM, par2, tupI, rng1I, rng2I, q_int, q_bool, q_nint, q_nbool, kb_ii, kb_ib, kb_bi, kb_bb, kb_ni, kb_nb, kb_si, kb_sb, k_nt, k_nl, k_ns, k_bt, k_bl, k_bs, k_it, k_il, k_is, k_st, k_sl, k_ss, k_tt, k_tl, k_ts, k_ti, k_tb, k_lt, k_ll, k_ls, k_li, k_lb, z1, z2, e2', fr, cz]
      · refine ⟨w1, junk, least, ss, p1, by omega, up, hn, ?_⟩
        have q' : neG (.tuple (A.st.map PyData.int)) (.tuple []) = some (.bool true) := by rw [hst]; exact q
        simp [sE, Al.d, -List.map_map, -List.map_take, runR, runD, sq, bnd, fB, f2, fVar, fC, ret, app2, app1, peek, ixG, atI, ixN, cmpG, toB, dats, dats_map, slots0, List.replicate, fN, fCons, fNil, appN, peeks, intG, modG, divG, asg, setM, setIx, frz, rowOf, addG, addI, subG, mul_c, powG, lenG, fCallR, frzAll, callRM, fCall, callM, fAnd, fOr, fNot, vAnd, vOr, vNot, fCh, isiG, tyN, fTup, tupM, fLst, lstM, newL, fL, appL, lstG, tupG, maxG, tupleG, gCn, gNl, cutM, toI, negM, par2, tupI, rng1I, rng2I, q_int, q_bool, q_nint, q_nbool, kb_ii, kb_ib, kb_bi, kb_bb, kb_ni, kb_nb, kb_si, kb_sb, k_nt, k_nl, k_ns, k_bt, k_bl, k_bs, k_it, k_il, k_is, k_st, k_sl, k_ss, k_tt, k_tl, k_ts, k_ti, k_tb, k_lt, k_ll, k_ls, k_li, k_lb, c1, z0, q', e1, hv]
  · refine ⟨w, junk, least, ss, hp, by omega, up, hn, ?_⟩
    simp [sE, -List.map_map, -List.map_take, runR, runD, sq, bnd, fB, f2, fVar, fC, ret, app2, app1, peek, ixG, atI, ixN, cmpG, toB, dats, dats_map, slots0, List.replicate, fN, fCons, fNil, appN, peeks, intG, modG, divG, asg, setM, setIx, frz, rowOf, addG, addI, subG, mul_c, powG, lenG, fCallR, frzAll, callRM, fCall, callM, fAnd, fOr, fNot, vAnd, vOr, vNot, fCh, isiG, tyN, fTup, tupM, fLst, lstM, newL, fL, appL, lstG, tupG, maxG, tupleG, gCn, gNl, cutM, toI, negM, par2, tupI, rng1I, rng2I, q_int, q_bool, q_nint, q_nbool, kb_ii, kb_ib, kb_bi, kb_bb, kb_ni, kb_nb, kb_si, kb_sb, k_nt, k_nl, k_ns, k_bt, k_bl, k_bs, k_it, k_il, k_is, k_st, k_sl, k_ss, k_tt, k_tl, k_ts, k_ti, k_tb, k_lt, k_ll, k_ls, k_li, k_lb, c1]
theorem story_ok (A : Al) (hA : A.Ok) (w : Rw) (hp : 0 ≤ w.p) (m : Int) (h0 : 0 < m) (h1 : m ≤ 50) : ∃ (S : St) (w' : Rw), F__law_story w.l [A.d, .int m] = .ok S.d w'.l ∧ S.Ok A ∧ 0 ≤ w'.p ∧ (∀ x ∈ S.wk, 0 ≤ x ∧ x ≤ 500) := by
  obtain ⟨n, w1, e1, a1, b1, p1⟩ := taken_ok w hp m h0 (by omega)
  obtain ⟨n, rfl⟩ := Int.eq_ofNat_of_zero_le a1
  have hs := hA.s
  have ht := hA.t
  have z0 : (0 : Nat) ≤ sizeLine := by decide
  have z1 : (1 : Nat) ≤ sizeLine := by decide
  have z2 : (2 : Nat) ≤ sizeLine := by decide
  have z5 : (5 : Nat) ≤ sizeLine := by decide
  -- the outer loop
  let I : Nat → En → Prop := fun i en => ∃ (w : Rw) (hour least : Int) (ss : List (Int × Int)) (wk : List Int) (junk : List Oc) (a8 a9 a10 : Option Rv), en = ⟨sE A m hour least ss wk a8 a9 a10, .lst (w.l.map Rv.dat) :: junk⟩ ∧ 0 ≤ w.p ∧ 0 ≤ hour ∧ hour ≤ 5 * (i : Int) ∧ (ss.length : Int) ≤ hour ∧
    setsOk A 1 hour ss ∧ least = nxt A 1 ss ∧ wk.length = i + 1 ∧ wk[0]? = some 0 ∧ wkOk A wk ∧ wk.getLast? = some hour ∧ ∀ x ∈ wk, 0 ≤ x ∧ x ≤ 5 * (i : Int)
  obtain ⟨en', f1, w2, hour, least, ss, wk, junk, a8, a9, a10, rfl, g1, g2, g3, g4, g5, g6, g7, g8, g9, g10, g11⟩ := forM_inv (h := setM 8) (G := (sq (bnd (f2 addG (f2 ixG (fVar 1) (fC (.int 3))) (fCallR F__law_taken (fVar 0) (fCons (f2 addG (f2 subG (f2 ixG (fVar 1) (fC (.int 4))) (f2 ixG (fVar 1) (fC (.int 3)))) (fC (.int 1))) fNil))) (asg (setM 9)))
  (sq (bnd (bnd (fCons (fVar 9) fNil) rng1I) (forM (setM 10) (sq (bnd (f2 addG (fVar 3) (fC (.int 1))) (asg (setM 3)))
  (bnd (fAnd (fB (f2 geG (fVar 3) (fVar 5))) (fAnd (fB (f2 neG (f2 ixG (fVar 1) (fC (.int 5))) (fTup fNil))) (fB (f2 eqG (fCallR F__law_taken (fVar 0) (fCons (fC (.int 3)) fNil)) (fC (.int 0)))))) fun k => if k = true then (bnd (fCons (f2 addG (fVar 6) (fTup (fCons (fTup (fCons (fVar 3) (fCons (fCallR F__law_pick (fVar 0) (fCons (fL lstG (fCons (f2 ixG (fVar 1) (fC (.int 5))) fNil)) fNil)) fNil))) fNil))) (fCons (f2 addG (fVar 3) (f2 ixG (fVar 1) (fC (.int 6)))) fNil)) (par2 6 5)) else (ret .nx)))))
  (bnd (f2 addG (fVar 7) (fTup (fCons (fVar 3) fNil))) (asg (setM 7)))))) (upI 0 n) I
    (fun i hi en hI => by
      obtain ⟨w, hour, least, ss, wk, junk, a8, a9, a10, rfl, g1, g2, g3, g4, g5, g6, g7, g8, g9, g10, g11⟩ := hI
      have hin : i < n := by simpa [upI] using hi
      obtain ⟨g, w2, e2, a2, b2, p2⟩ := taken_ok w g1 (A.T - A.S + 1) (by omega) (by omega)
      obtain ⟨gap, hgap⟩ := Int.eq_ofNat_of_zero_le (show 0 ≤ A.S + g by omega)
      -- the inner loop
      let J : Nat → En → Prop := fun j en => ∃ (w : Rw) (least : Int) (ss : List (Int × Int)) (junk : List Oc) (a10 : Option Rv), en = ⟨sE A m (hour + (j : Int)) least ss wk (some (.dat (upI 0 n)[i])) (some (.dat (.int (gap : Int)))) a10, .lst (w.l.map Rv.dat) :: junk⟩ ∧ 0 ≤ w.p ∧ (ss.length : Int) ≤ hour + (j : Int) ∧ setsOk A 1 (hour + (j : Int)) ss ∧ least = nxt A 1 ss
      obtain ⟨en2, f2', w3, least3, ss3, junk3, a103, rfl, k1, k2, k3, k4⟩ := forM_inv (h := setM 10) (G := (sq (bnd (f2 addG (fVar 3) (fC (.int 1))) (asg (setM 3)))
  (bnd (fAnd (fB (f2 geG (fVar 3) (fVar 5))) (fAnd (fB (f2 neG (f2 ixG (fVar 1) (fC (.int 5))) (fTup fNil))) (fB (f2 eqG (fCallR F__law_taken (fVar 0) (fCons (fC (.int 3)) fNil)) (fC (.int 0)))))) fun k => if k = true then (bnd (fCons (f2 addG (fVar 6) (fTup (fCons (fTup (fCons (fVar 3) (fCons (fCallR F__law_pick (fVar 0) (fCons (fL lstG (fCons (f2 ixG (fVar 1) (fC (.int 5))) fNil)) fNil)) fNil))) fNil))) (fCons (f2 addG (fVar 3) (f2 ixG (fVar 1) (fC (.int 6)))) fNil)) (par2 6 5)) else (ret .nx)))) (upI 0 gap) J
        (fun j hj en hJ => by
          obtain ⟨w, least, ss, junk, a10, rfl, k1, k2, k3, k4⟩ := hJ
          have hjg : j < gap := by simpa [upI] using hj
          obtain ⟨w', junk', least', ss', q1, q2, q3, q4, q5⟩ := step_ok A hA m (hour + (j : Int)) least ss wk (some (.dat (upI 0 n)[i])) (some (.dat (.int (gap : Int)))) (some (.dat (upI 0 gap)[j])) w k1 junk (by omega) k2 (by omega) k3 k4
          have ej : hour + ((j + 1 : Nat) : Int) = hour + (j : Int) + 1 := by omega
          refine ⟨⟨sE A m (hour + (j : Int)) least ss wk (some (.dat (upI 0 n)[i])) (some (.dat (.int (gap : Int)))) (some (.dat (upI 0 gap)[j])), .lst (w.l.map Rv.dat) :: junk⟩, _, rfl, q5, ?_⟩
          exact ⟨w', least', ss', junk', _, by rw [ej], q1, by rw [ej]; exact q2, by rw [ej]; exact q3, q4⟩)
        ⟨sE A m hour least ss wk (some (.dat (upI 0 n)[i])) (some (.dat (.int (gap : Int)))) a10, .lst (w2.l.map Rv.dat) :: junk⟩ ⟨w2, least, ss, junk, a10, by simp, p2, by omega, by simpa using g5, g6⟩
      have hlg : (upI 0 gap).length = gap := by simp [upI]
      rw [hlg] at k2 k3 f2'
      refine ⟨⟨sE A m hour least ss wk (some (.dat (upI 0 n)[i])) a9 a10, .lst (w.l.map Rv.dat) :: junk⟩, ⟨sE A m (hour + (gap : Int)) least3 ss3 (wk ++ [hour + (gap : Int)]) (some (.dat (upI 0 n)[i])) (some (.dat (.int (gap : Int)))) a103, .lst (w3.l.map Rv.dat) :: junk3⟩, rfl, ?_, ?_⟩
      · refine sq_to ⟨sE A m hour least ss wk (some (.dat (upI 0 n)[i])) (some (.dat (.int (gap : Int)))) a10, .lst (w2.l.map Rv.dat) :: junk⟩ (by simp [sE, Al.d, -List.map_map, -List.map_take, runR, runD, sq, bnd, fB, f2, fVar, fC, ret, app2, app1, peek, ixG, atI, ixN, cmpG, toB, dats, dats_map, slots0, List.replicate, fN, fCons, fNil, appN, peeks, intG, modG, divG, asg, setM, setIx, frz, rowOf, addG, addI, subG, mul_c, powG, lenG, fCallR, frzAll, callRM, fCall, callM, fAnd, fOr, fNot, vAnd, vOr, vNot, fCh, isiG, tyN, fTup, tupM, fLst, lstM, newL, fL, appL, lstG, tupG, maxG, tupleG, gCn, gNl, cutM, toI, negM, par2, tupI, rng1I, rng2I, q_int, q_bool, q_nint, q_nbool, kb_ii, kb_ib, kb_bi, kb_bb, kb_ni, kb_nb, kb_si, kb_sb, k_nt, k_nl, k_ns, k_bt, k_bl, k_bs, k_it, k_il, k_is, k_st, k_sl, k_ss, k_tt, k_tl, k_ts, k_ti, k_tb, k_lt, k_ll, k_ls, k_li, k_lb, e2, hgap]) ?_
        refine sq_to _ (bnd_to (upI 0 gap) ⟨sE A m hour least ss wk (some (.dat (upI 0 n)[i])) (some (.dat (.int (gap : Int)))) a10, .lst (w2.l.map Rv.dat) :: junk⟩ ?_ f2') ?_
        · refine bnd_to [.dat (.int (gap : Int))] ⟨sE A m hour least ss wk (some (.dat (upI 0 n)[i])) (some (.dat (.int (gap : Int)))) a10, .lst (w2.l.map Rv.dat) :: junk⟩ (by simp [sE, -List.map_map, -List.map_take, runR, runD, sq, bnd, fB, f2, fVar, fC, ret, app2, app1, peek, ixG, atI, ixN, cmpG, toB, dats, dats_map, slots0, List.replicate, fN, fCons, fNil, appN, peeks, intG, modG, divG, asg, setM, setIx, frz, rowOf, addG, addI, subG, mul_c, powG, lenG, fCallR, frzAll, callRM, fCall, callM, fAnd, fOr, fNot, vAnd, vOr, vNot, fCh, isiG, tyN, fTup, tupM, fLst, lstM, newL, fL, appL, lstG, tupG, maxG, tupleG, gCn, gNl, cutM, toI, negM, par2, tupI, rng1I, rng2I, q_int, q_bool, q_nint, q_nbool, kb_ii, kb_ib, kb_bi, kb_bb, kb_ni, kb_nb, kb_si, kb_sb, k_nt, k_nl, k_ns, k_bt, k_bl, k_bs, k_it, k_il, k_is, k_st, k_sl, k_ss, k_tt, k_tl, k_ts, k_ti, k_tb, k_lt, k_ll, k_ls, k_li, k_lb]) (rng1_ok gap (by omega) _)
        · have hz : (wk.map PyData.int).length + [PyData.int (hour + (gap : Int))].length ≤ sizeLine := by
            have := szl
            simp
            omega
          have cz := catT hz
          rw [ints_snoc] at cz
          simp [sE, -List.map_map, -List.map_take, runR, runD, sq, bnd, fB, f2, fVar, fC, ret, app2, app1, peek, ixG, atI, ixN, cmpG, toB, dats, dats_map, slots0, List.replicate, fN, fCons, fNil, appN, peeks, intG, modG, divG, asg, setM, setIx, frz, rowOf, addG, addI, subG, mul_c, powG, lenG, fCallR, frzAll, callRM, fCall, callM, fAnd, fOr, fNot, vAnd, vOr, vNot, fCh, isiG, tyN, fTup, tupM, fLst, lstM, newL, fL, appL, lstG, tupG, maxG, tupleG, gCn, gNl, cutM, toI, negM, par2, tupI, rng1I, rng2I, q_int, q_bool, q_nint, q_nbool, kb_ii, kb_ib, kb_bi, kb_bb, kb_ni, kb_nb, kb_si, kb_sb, k_nt, k_nl, k_ns, k_bt, k_bl, k_bs, k_it, k_il, k_is, k_st, k_sl, k_ss, k_tt, k_tl, k_ts, k_ti, k_tb, k_lt, k_ll, k_ls, k_li, k_lb, z1, cz]
      · refine ⟨w3, hour + (gap : Int), least3, ss3, wk ++ [hour + (gap : Int)], junk3, _, _, _, rfl, k1, by omega, by push_cast; omega, k2, k3, k4, by simp [g7], ?_, wk_snoc A g9 g10 (by omega) (by omega), by simp, fun x hx => ?_⟩
        · rw [List.getElem?_append_left (by omega)]; exact g8
        · rcases List.mem_append.mp hx with z | z
          · have := g11 x z
            push_cast
            omega
          · rw [List.mem_singleton.mp z]
            push_cast
            omega)
    ⟨sE A m 0 1 [] [0] none none none, [.lst (w1.l.map Rv.dat)]⟩ ⟨w1, 0, 1, [], [0], [], none, none, none, rfl, p1, by omega, by omega, by simp, trivial, rfl, rfl, rfl, fun i h => by simp at h, rfl, fun x hx => by simp at hx; omega⟩
  have hln : (upI 0 n).length = n := by simp [upI]
  rw [hln] at g3 g7 g11
  refine ⟨⟨wk, ss⟩, w2, ?_, ⟨by simp only; omega, g8, g9, ⟨hour, g10, g5⟩, by simp only; omega⟩, g1, fun x hx => ?_⟩
  · refine runR_ok rfl (e := ⟨sE A m hour least ss wk a8 a9 a10, .lst (w2.l.map Rv.dat) :: junk⟩) ?_ (by simp [rowOf, dats_map, -List.map_map])
    unfold G__law_story
    refine sq_to ⟨sE A m 0 1 [] [0] none none none, [.lst (w.l.map Rv.dat)]⟩ (by simp [sE, sd, -List.map_map, -List.map_take, runR, runD, sq, bnd, fB, f2, fVar, fC, ret, app2, app1, peek, ixG, atI, ixN, cmpG, toB, dats, dats_map, slots0, List.replicate, fN, fCons, fNil, appN, peeks, intG, modG, divG, asg, setM, setIx, frz, rowOf, addG, addI, subG, mul_c, powG, lenG, fCallR, frzAll, callRM, fCall, callM, fAnd, fOr, fNot, vAnd, vOr, vNot, fCh, isiG, tyN, fTup, tupM, fLst, lstM, newL, fL, appL, lstG, tupG, maxG, tupleG, gCn, gNl, cutM, toI, negM, par2, tupI, rng1I, rng2I, q_int, q_bool, q_nint, q_nbool, kb_ii, kb_ib, kb_bi, kb_bb, kb_ni, kb_nb, kb_si, kb_sb, k_nt, k_nl, k_ns, k_bt, k_bl, k_bs, k_it, k_il, k_is, k_st, k_sl, k_ss, k_tt, k_tl, k_ts, k_ti, k_tb, k_lt, k_ll, k_ls, k_li, k_lb, z0, z1, z5]) ?_
    refine sq_to _ (bnd_to (upI 0 n) ⟨sE A m 0 1 [] [0] none none none, [.lst (w1.l.map Rv.dat)]⟩ ?_ f1) ?_
    · refine bnd_to [.dat (.int (n : Int))] ⟨sE A m 0 1 [] [0] none none none, [.lst (w1.l.map Rv.dat)]⟩ (by simp [sE, -List.map_map, -List.map_take, runR, runD, sq, bnd, fB, f2, fVar, fC, ret, app2, app1, peek, ixG, atI, ixN, cmpG, toB, dats, dats_map, slots0, List.replicate, fN, fCons, fNil, appN, peeks, intG, modG, divG, asg, setM, setIx, frz, rowOf, addG, addI, subG, mul_c, powG, lenG, fCallR, frzAll, callRM, fCall, callM, fAnd, fOr, fNot, vAnd, vOr, vNot, fCh, isiG, tyN, fTup, tupM, fLst, lstM, newL, fL, appL, lstG, tupG, maxG, tupleG, gCn, gNl, cutM, toI, negM, par2, tupI, rng1I, rng2I, q_int, q_bool, q_nint, q_nbool, kb_ii, kb_ib, kb_bi, kb_bb, kb_ni, kb_nb, kb_si, kb_sb, k_nt, k_nl, k_ns, k_bt, k_bl, k_bs, k_it, k_il, k_is, k_st, k_sl, k_ss, k_tt, k_tl, k_ts, k_ti, k_tb, k_lt, k_ll, k_ls, k_li, k_lb, e1]) (rng1_ok n (by omega) _)
    · simp [sE, St.d, -List.map_map, -List.map_take, runR, runD, sq, bnd, fB, f2, fVar, fC, ret, app2, app1, peek, ixG, atI, ixN, cmpG, toB, dats, dats_map, slots0, List.replicate, fN, fCons, fNil, appN, peeks, intG, modG, divG, asg, setM, setIx, frz, rowOf, addG, addI, subG, mul_c, powG, lenG, fCallR, frzAll, callRM, fCall, callM, fAnd, fOr, fNot, vAnd, vOr, vNot, fCh, isiG, tyN, fTup, tupM, fLst, lstM, newL, fL, appL, lstG, tupG, maxG, tupleG, gCn, gNl, cutM, toI, negM, par2, tupI, rng1I, rng2I, q_int, q_bool, q_nint, q_nbool, kb_ii, kb_ib, kb_bi, kb_bb, kb_ni, kb_nb, kb_si, kb_sb, k_nt, k_nl, k_ns, k_bt, k_bl, k_bs, k_it, k_il, k_is, k_st, k_sl, k_ss, k_tt, k_tl, k_ts, k_ti, k_tb, k_lt, k_ll, k_ls, k_li, k_lb, z2]
  · have := g11 x hx
    omega
theorem cut1 (l : List PyData) : cutD l (some 1) none = l.drop 1 := by
  unfold cutD
  have e : HT.sIx l.length 0 (some (1 : Int)) = min 1 l.length := by
    show (if (1 : Int) < 0 then ((1 : Int) + (l.length : Int)).toNat else min (1 : Int).toNat l.length) = _
    rw [if_neg (by omega)]
    rfl
  rw [e]
  cases l with
  | nil => simp [HT.sIx]
  | cons a l =>
    have e2 : min 1 (a :: l).length = 1 := by simp
    rw [e2]
    simp [HT.sIx]
theorem zip_item (wk : List Int) (i : Nat) (hi : i < (zipI (wk.map PyData.int) ((wk.map PyData.int).drop 1)).length) : ∃ h : i + 1 < wk.length, (zipI (wk.map PyData.int) ((wk.map PyData.int).drop 1))[i] = .tuple [.int wk[i], .int wk[i + 1]] := by
  have hl : i + 1 < wk.length := by
    simp [zipI] at hi
    omega
  refine ⟨hl, ?_⟩
  have e : 1 + i = i + 1 := Nat.add_comm 1 i
  simp [zipI, e]
theorem wakings_ok (A : Al) (hA : A.Ok) (wk : List Int) (h0 : wk[0]? = some 0) (hn : wk.length ≤ 60) (hw : wkOk A wk) : F_are_wakings [A.d, .tuple (wk.map PyData.int)] = .ok (.bool true) := by
  have hpos : 0 < wk.length := by
    cases wk with
    | nil => simp at h0
    | cons a t => simp
  have l1 : (1 : Int) ≤ (wk.length : Int) := by omega
  have l2 : (wk.length : Int) ≤ 60 := by omega
  have i0 : ixG (.tuple (wk.map PyData.int)) (.int 0) = some (.int 0) := by
    have q := at_tup (l := wk.map PyData.int) (q := 0) (by simpa using hpos)
    rw [List.getElem?_eq_getElem hpos] at h0
    have h0' := Option.some.inj h0
    have e : (wk.map PyData.int)[0]'(by simpa using hpos) = .int 0 := by simp [h0']
    rw [e] at q
    exact q
  have n0 := num_t (v := 0) (lo := 0) (hi := 0) (by omega) (by omega)
  obtain ⟨en', f1, a2, a3, rfl⟩ := forM_inv (h := tupleG 2 (gCn (setM 2) (gCn (setM 3) gNl))) (G := (bnd (fNot (fB (fCall F_is_number (fCons (fVar 3) (fCons (f2 addG (fVar 2) (f2 ixG (fVar 0) (fC (.int 3)))) (fCons (f2 addG (fVar 2) (f2 ixG (fVar 0) (fC (.int 4)))) fNil)))))) fun k => if k = true then (bnd (fC (.bool false)) fun r => ret (.ret r)) else (ret .nx)))
    (zipI (wk.map PyData.int) ((wk.map PyData.int).drop 1)) (fun i en => ∃ a2 a3, en = ⟨[some (.dat A.d), some (.dat (.tuple (wk.map PyData.int))), a2, a3], []⟩)
    (fun i hi en ⟨a2, a3, he⟩ => by
      subst he
      obtain ⟨h, e⟩ := zip_item wk i hi
      obtain ⟨q1, q2⟩ := hw i h
      have nn := num_t q1 q2
      rw [e]
      refine ⟨⟨[some (.dat A.d), some (.dat (.tuple (wk.map PyData.int))), some (.dat (.int wk[i])), some (.dat (.int wk[i + 1]))], []⟩, ⟨[some (.dat A.d), some (.dat (.tuple (wk.map PyData.int))), some (.dat (.int wk[i])), some (.dat (.int wk[i + 1]))], []⟩, rfl, ?_, _, _, rfl⟩
      simp [Al.d, -List.map_map, -List.map_take, runR, runD, sq, bnd, fB, f2, fVar, fC, ret, app2, app1, peek, ixG, atI, ixN, cmpG, toB, dats, dats_map, slots0, List.replicate, fN, fCons, fNil, appN, peeks, intG, modG, divG, asg, setM, setIx, frz, rowOf, addG, addI, subG, mul_c, powG, lenG, fCallR, frzAll, callRM, fCall, callM, fAnd, fOr, fNot, vAnd, vOr, vNot, fCh, isiG, tyN, fTup, tupM, fLst, lstM, newL, fL, appL, lstG, tupG, maxG, tupleG, gCn, gNl, cutM, toI, negM, par2, tupI, rng1I, rng2I, q_int, q_bool, q_nint, q_nbool, kb_ii, kb_ib, kb_bi, kb_bb, kb_ni, kb_nb, kb_si, kb_sb, k_nt, k_nl, k_ns, k_bt, k_bl, k_bs, k_it, k_il, k_is, k_st, k_sl, k_ss, k_tt, k_tl, k_ts, k_ti, k_tb, k_lt, k_ll, k_ls, k_li, k_lb, nn])
    ⟨[some (.dat A.d), some (.dat (.tuple (wk.map PyData.int))), none, none], []⟩ ⟨_, _, rfl⟩
  refine runD_ok rfl (e := ⟨[some (.dat A.d), some (.dat (.tuple (wk.map PyData.int))), a2, a3], []⟩) ?_
  unfold G_are_wakings
  have p1 : (fB (fCh leG leG (fC (.int 1)) (fN lenG (fCons (fVar 1) fNil)) (fC (.int 60)))) ⟨[some (.dat A.d), some (.dat (.tuple (wk.map PyData.int))), none, none], []⟩ = .ok true ⟨[some (.dat A.d), some (.dat (.tuple (wk.map PyData.int))), none, none], []⟩ := by
    simp [-List.map_map, -List.map_take, runR, runD, sq, bnd, fB, f2, fVar, fC, ret, app2, app1, peek, ixG, atI, ixN, cmpG, toB, dats, dats_map, slots0, List.replicate, fN, fCons, fNil, appN, peeks, intG, modG, divG, asg, setM, setIx, frz, rowOf, addG, addI, subG, mul_c, powG, lenG, fCallR, frzAll, callRM, fCall, callM, fAnd, fOr, fNot, vAnd, vOr, vNot, fCh, isiG, tyN, fTup, tupM, fLst, lstM, newL, fL, appL, lstG, tupG, maxG, tupleG, gCn, gNl, cutM, toI, negM, par2, tupI, rng1I, rng2I, q_int, q_bool, q_nint, q_nbool, kb_ii, kb_ib, kb_bi, kb_bb, kb_ni, kb_nb, kb_si, kb_sb, k_nt, k_nl, k_ns, k_bt, k_bl, k_bs, k_it, k_il, k_is, k_st, k_sl, k_ss, k_tt, k_tl, k_ts, k_ti, k_tb, k_lt, k_ll, k_ls, k_li, k_lb, l1, l2]
  have p2 : (f2 ixG (fVar 1) (fC (.int 0))) ⟨[some (.dat A.d), some (.dat (.tuple (wk.map PyData.int))), none, none], []⟩ = .ok (.dat (.int 0)) ⟨[some (.dat A.d), some (.dat (.tuple (wk.map PyData.int))), none, none], []⟩ := by
    simp [f2, bnd, fVar, fC, ret, app2, peek, i0]
  have p3 : (fNot (fB (fCall F_is_number (fCons (f2 ixG (fVar 1) (fC (.int 0))) (fCons (fC (.int 0)) (fCons (fC (.int 0)) fNil)))))) ⟨[some (.dat A.d), some (.dat (.tuple (wk.map PyData.int))), none, none], []⟩ = .ok false ⟨[some (.dat A.d), some (.dat (.tuple (wk.map PyData.int))), none, none], []⟩ := by
    have p2' : (f2 ixG (fVar 1) (ret (.dat (.int 0)))) ⟨[some (.dat A.d), some (.dat (.tuple (wk.map PyData.int))), none, none], []⟩ = .ok (.dat (.int 0)) ⟨[some (.dat A.d), some (.dat (.tuple (wk.map PyData.int))), none, none], []⟩ := p2
    simp [fNot, fB, fCall, fCons, bnd, p2', fC, ret, fNil, frzAll, frz, callM, n0, toB]
  refine sq_to ⟨[some (.dat A.d), some (.dat (.tuple (wk.map PyData.int))), none, none], []⟩ ?_ ?_
  · refine bnd_to false ⟨[some (.dat A.d), some (.dat (.tuple (wk.map PyData.int))), none, none], []⟩ ?_ rfl
    unfold fOr
    refine bnd_to false ⟨[some (.dat A.d), some (.dat (.tuple (wk.map PyData.int))), none, none], []⟩ (by simp [-List.map_map, -List.map_take, runR, runD, sq, bnd, fB, f2, fVar, fC, ret, app2, app1, peek, ixG, atI, ixN, cmpG, toB, dats, dats_map, slots0, List.replicate, fN, fCons, fNil, appN, peeks, intG, modG, divG, asg, setM, setIx, frz, rowOf, addG, addI, subG, mul_c, powG, lenG, fCallR, frzAll, callRM, fCall, callM, fAnd, fOr, fNot, vAnd, vOr, vNot, fCh, isiG, tyN, fTup, tupM, fLst, lstM, newL, fL, appL, lstG, tupG, maxG, tupleG, gCn, gNl, cutM, toI, negM, par2, tupI, rng1I, rng2I, q_int, q_bool, q_nint, q_nbool, kb_ii, kb_ib, kb_bi, kb_bb, kb_ni, kb_nb, kb_si, kb_sb, k_nt, k_nl, k_ns, k_bt, k_bl, k_bs, k_it, k_il, k_is, k_st, k_sl, k_ss, k_tt, k_tl, k_ts, k_ti, k_tb, k_lt, k_ll, k_ls, k_li, k_lb]) ?_
    rw [if_neg Bool.false_ne_true]
    refine bnd_to false ⟨[some (.dat A.d), some (.dat (.tuple (wk.map PyData.int))), none, none], []⟩ (by simp only [fNot, bnd, p1]; rfl) ?_
    rw [if_neg Bool.false_ne_true]
    exact p3
  · refine sq_to _ (bnd_to (zipI (wk.map PyData.int) ((wk.map PyData.int).drop 1)) ⟨[some (.dat A.d), some (.dat (.tuple (wk.map PyData.int))), none, none], []⟩ ?_ f1) rfl
    simp [-List.map_map, -List.map_take, runR, runD, sq, bnd, fB, f2, fVar, fC, ret, app2, app1, peek, ixG, atI, ixN, cmpG, toB, dats, dats_map, slots0, List.replicate, fN, fCons, fNil, appN, peeks, intG, modG, divG, asg, setM, setIx, frz, rowOf, addG, addI, subG, mul_c, powG, lenG, fCallR, frzAll, callRM, fCall, callM, fAnd, fOr, fNot, vAnd, vOr, vNot, fCh, isiG, tyN, fTup, tupM, fLst, lstM, newL, fL, appL, lstG, tupG, maxG, tupleG, gCn, gNl, cutM, toI, negM, par2, tupI, rng1I, rng2I, q_int, q_bool, q_nint, q_nbool, kb_ii, kb_ib, kb_bi, kb_bb, kb_ni, kb_nb, kb_si, kb_sb, k_nt, k_nl, k_ns, k_bt, k_bl, k_bs, k_it, k_il, k_is, k_st, k_sl, k_ss, k_tt, k_tl, k_ts, k_ti, k_tb, k_lt, k_ll, k_ls, k_li, k_lb, zipTI, cut1]
theorem inV_ints (v : Int) (l : List Int) (h : v ∈ l) : inV (.int v) (l.map V.int) = true := by
  unfold inV
  rw [List.any_eq_true]
  exact ⟨.int v, List.mem_map.mpr ⟨v, h, rfl⟩, by simp [eqV]⟩
theorem are_sets_ok (A : Al) (hA : A.Ok) (ss : List (Int × Int)) (hi : Int) (hs : setsOk A 1 hi ss) : F_are_sets [A.d, .tuple (sd ss), .int hi] = .ok (.bool true) := by
  obtain ⟨en', f1, a4, lo, rfl, _⟩ := forM_inv (h := setM 4) (G := (sq (bnd (fOr (fNot (fB (bnd (fVar 4) (app1 (isiG "tuple"))))) (fOr (fB (f2 neG (fN lenG (fCons (fVar 4) fNil)) (fC (.int 2)))) (fNot (fB (fCall F_is_number (fCons (f2 ixG (fVar 4) (fC (.int 0))) (fCons (fVar 3) (fCons (fVar 2) fNil)))))))) fun k => if k = true then (bnd (fC (.bool false)) fun r => ret (.ret r)) else (ret .nx))
  (sq (bnd (fOr (fB (bnd (f2 ixG (fVar 4) (fC (.int 1))) (app1 (isiG "bool")))) (fOr (fNot (fB (bnd (f2 ixG (fVar 4) (fC (.int 1))) (app1 (isiG "int"))))) (fB (f2 (inG true) (f2 ixG (fVar 4) (fC (.int 1))) (f2 ixG (fVar 0) (fC (.int 5))))))) fun k => if k = true then (bnd (fC (.bool false)) fun r => ret (.ret r)) else (ret .nx))
  (bnd (f2 addG (f2 ixG (fVar 4) (fC (.int 0))) (f2 ixG (fVar 0) (fC (.int 6)))) (asg (setM 3)))))) (sd ss)
    (fun i en => ∃ (a4 : Option Rv) (lo : Int), en = ⟨[some (.dat A.d), some (.dat (.tuple (sd ss))), some (.dat (.int hi)), some (.dat (.int lo)), a4], []⟩ ∧ setsOk A lo hi (ss.drop i))
    (fun i hi2 en ⟨a4, lo, he, hk⟩ => by
      subst he
      have hil : i < ss.length := by simpa [sd] using hi2
      have er : (sd ss)[i] = .tuple [.int ss[i].1, .int ss[i].2] := by simp [sd]
      rw [List.drop_eq_getElem_cons hil] at hk
      obtain ⟨k1, k2, k3, k4⟩ := hk
      have nn := num_t k1 k2
      have nin : inG true (.int ss[i].2) (.tuple (A.st.map PyData.int)) = some (.bool false) := by
        simp [inG, toV, items, toVs_ints, inV_ints _ _ k3]
      rw [er]
      refine ⟨⟨[some (.dat A.d), some (.dat (.tuple (sd ss))), some (.dat (.int hi)), some (.dat (.int lo)), some (.dat (.tuple [.int ss[i].1, .int ss[i].2]))], []⟩, ⟨[some (.dat A.d), some (.dat (.tuple (sd ss))), some (.dat (.int hi)), some (.dat (.int (ss[i].1 + A.R))), some (.dat (.tuple [.int ss[i].1, .int ss[i].2]))], []⟩, rfl, ?_, _, _, rfl, k4⟩
      simp [Al.d, -List.map_map, -List.map_take, runR, runD, sq, bnd, fB, f2, fVar, fC, ret, app2, app1, peek, ixG, atI, ixN, cmpG, toB, dats, dats_map, slots0, List.replicate, fN, fCons, fNil, appN, peeks, intG, modG, divG, asg, setM, setIx, frz, rowOf, addG, addI, subG, mul_c, powG, lenG, fCallR, frzAll, callRM, fCall, callM, fAnd, fOr, fNot, vAnd, vOr, vNot, fCh, isiG, tyN, fTup, tupM, fLst, lstM, newL, fL, appL, lstG, tupG, maxG, tupleG, gCn, gNl, cutM, toI, negM, par2, tupI, rng1I, rng2I, q_int, q_bool, q_nint, q_nbool, kb_ii, kb_ib, kb_bi, kb_bb, kb_ni, kb_nb, kb_si, kb_sb, k_nt, k_nl, k_ns, k_bt, k_bl, k_bs, k_it, k_il, k_is, k_st, k_sl, k_ss, k_tt, k_tl, k_ts, k_ti, k_tb, k_lt, k_ll, k_ls, k_li, k_lb, nn, nin])
    ⟨[some (.dat A.d), some (.dat (.tuple (sd ss))), some (.dat (.int hi)), some (.dat (.int 1)), none], []⟩ ⟨_, _, rfl, hs⟩
  refine runD_ok rfl (e := ⟨[some (.dat A.d), some (.dat (.tuple (sd ss))), some (.dat (.int hi)), some (.dat (.int lo)), a4], []⟩) ?_
  unfold G_are_sets
  refine sq_to ⟨[some (.dat A.d), some (.dat (.tuple (sd ss))), some (.dat (.int hi)), none, none], []⟩ (by simp [-List.map_map, -List.map_take, runR, runD, sq, bnd, fB, f2, fVar, fC, ret, app2, app1, peek, ixG, atI, ixN, cmpG, toB, dats, dats_map, slots0, List.replicate, fN, fCons, fNil, appN, peeks, intG, modG, divG, asg, setM, setIx, frz, rowOf, addG, addI, subG, mul_c, powG, lenG, fCallR, frzAll, callRM, fCall, callM, fAnd, fOr, fNot, vAnd, vOr, vNot, fCh, isiG, tyN, fTup, tupM, fLst, lstM, newL, fL, appL, lstG, tupG, maxG, tupleG, gCn, gNl, cutM, toI, negM, par2, tupI, rng1I, rng2I, q_int, q_bool, q_nint, q_nbool, kb_ii, kb_ib, kb_bi, kb_bb, kb_ni, kb_nb, kb_si, kb_sb, k_nt, k_nl, k_ns, k_bt, k_bl, k_bs, k_it, k_il, k_is, k_st, k_sl, k_ss, k_tt, k_tl, k_ts, k_ti, k_tb, k_lt, k_ll, k_ls, k_li, k_lb]) ?_
  refine sq_to ⟨[some (.dat A.d), some (.dat (.tuple (sd ss))), some (.dat (.int hi)), some (.dat (.int 1)), none], []⟩ (by simp [-List.map_map, -List.map_take, runR, runD, sq, bnd, fB, f2, fVar, fC, ret, app2, app1, peek, ixG, atI, ixN, cmpG, toB, dats, dats_map, slots0, List.replicate, fN, fCons, fNil, appN, peeks, intG, modG, divG, asg, setM, setIx, frz, rowOf, addG, addI, subG, mul_c, powG, lenG, fCallR, frzAll, callRM, fCall, callM, fAnd, fOr, fNot, vAnd, vOr, vNot, fCh, isiG, tyN, fTup, tupM, fLst, lstM, newL, fL, appL, lstG, tupG, maxG, tupleG, gCn, gNl, cutM, toI, negM, par2, tupI, rng1I, rng2I, q_int, q_bool, q_nint, q_nbool, kb_ii, kb_ib, kb_bi, kb_bb, kb_ni, kb_nb, kb_si, kb_sb, k_nt, k_nl, k_ns, k_bt, k_bl, k_bs, k_it, k_il, k_is, k_st, k_sl, k_ss, k_tt, k_tl, k_ts, k_ti, k_tb, k_lt, k_ll, k_ls, k_li, k_lb]) ?_
  exact sq_to _ (bnd_to (sd ss) _ rfl f1) rfl
theorem is_story_ok (A : Al) (hA : A.Ok) (S : St) (hS : S.Ok A) : F_is_story [A.d, S.d] = .ok (.bool true) := by
  obtain ⟨hi, h1, h2⟩ := hS.ss
  have w := wakings_ok A hA S.wk hS.hd hS.n.2 hS.wk
  have s := are_sets_ok A hA S.ss hi h2
  have l : ixG (.tuple (S.wk.map PyData.int)) (.int (-1)) = some (.int hi) := by
    have hp := hS.n.1
    rw [at_last (by simpa using hp)]
    rw [List.getLast?_eq_getElem?, List.getElem?_eq_getElem (by omega)] at h1
    have h1' := Option.some.inj h1
    simp [h1']
  have p : ∀ en : En, en.sl = [some (.dat A.d), some (.dat S.d)] → (f2 ixG (f2 ixG (fVar 1) (fC (.int 0))) (bnd (fC (.int 1)) negM)) en = .ok (.dat (.int hi)) en := fun en he => by
    have e1 : (f2 ixG (fVar 1) (fC (.int 0))) en = .ok (.dat (.tuple (S.wk.map PyData.int))) en := by
      simp [-List.map_map, -List.map_take, runR, runD, sq, bnd, fB, f2, fVar, fC, ret, app2, app1, peek, ixG, atI, ixN, cmpG, toB, dats, dats_map, slots0, List.replicate, fN, fCons, fNil, appN, peeks, intG, modG, divG, asg, setM, setIx, frz, rowOf, addG, addI, subG, mul_c, powG, lenG, fCallR, frzAll, callRM, fCall, callM, fAnd, fOr, fNot, vAnd, vOr, vNot, fCh, isiG, tyN, fTup, tupM, fLst, lstM, newL, fL, appL, lstG, tupG, maxG, tupleG, gCn, gNl, cutM, toI, negM, par2, tupI, rng1I, rng2I, q_int, q_bool, q_nint, q_nbool, kb_ii, kb_ib, kb_bi, kb_bb, kb_ni, kb_nb, kb_si, kb_sb, k_nt, k_nl, k_ns, k_bt, k_bl, k_bs, k_it, k_il, k_is, k_st, k_sl, k_ss, k_tt, k_tl, k_ts, k_ti, k_tb, k_lt, k_ll, k_ls, k_li, k_lb, he, St.d]
    rw [f2]
    refine bnd_to _ _ e1 ?_
    refine bnd_to (.dat (.int (-1))) en rfl ?_
    simp [app2, peek, l]
  refine runD_ok rfl (e := ⟨[some (.dat A.d), some (.dat S.d)], []⟩) ?_
  unfold G_is_story
  refine sq_to ⟨[some (.dat A.d), some (.dat S.d)], []⟩ (by simp [St.d, -List.map_map, -List.map_take, runR, runD, sq, bnd, fB, f2, fVar, fC, ret, app2, app1, peek, ixG, atI, ixN, cmpG, toB, dats, dats_map, slots0, List.replicate, fN, fCons, fNil, appN, peeks, intG, modG, divG, asg, setM, setIx, frz, rowOf, addG, addI, subG, mul_c, powG, lenG, fCallR, frzAll, callRM, fCall, callM, fAnd, fOr, fNot, vAnd, vOr, vNot, fCh, isiG, tyN, fTup, tupM, fLst, lstM, newL, fL, appL, lstG, tupG, maxG, tupleG, gCn, gNl, cutM, toI, negM, par2, tupI, rng1I, rng2I, q_int, q_bool, q_nint, q_nbool, kb_ii, kb_ib, kb_bi, kb_bb, kb_ni, kb_nb, kb_si, kb_sb, k_nt, k_nl, k_ns, k_bt, k_bl, k_bs, k_it, k_il, k_is, k_st, k_sl, k_ss, k_tt, k_tl, k_ts, k_ti, k_tb, k_lt, k_ll, k_ls, k_li, k_lb, w]) ?_
  refine bnd_to (.dat (.bool true)) _ ?_ rfl
  have a : (fCons (fVar 0) (fCons (f2 ixG (fVar 1) (fC (.int 1))) (fCons (f2 ixG (f2 ixG (fVar 1) (fC (.int 0))) (bnd (fC (.int 1)) negM)) fNil))) ⟨[some (.dat A.d), some (.dat S.d)], []⟩ = .ok [.dat A.d, .dat (.tuple (sd S.ss)), .dat (.int hi)] ⟨[some (.dat A.d), some (.dat S.d)], []⟩ := by
    unfold fCons
    refine bnd_to (.dat A.d) _ rfl ?_
    refine bnd_to [.dat (.tuple (sd S.ss)), .dat (.int hi)] _ ?_ rfl
    refine bnd_to (.dat (.tuple (sd S.ss))) ⟨[some (.dat A.d), some (.dat S.d)], []⟩ (by simp [St.d, -List.map_map, -List.map_take, runR, runD, sq, bnd, fB, f2, fVar, fC, ret, app2, app1, peek, ixG, atI, ixN, cmpG, toB, dats, dats_map, slots0, List.replicate, fN, fCons, fNil, appN, peeks, intG, modG, divG, asg, setM, setIx, frz, rowOf, addG, addI, subG, mul_c, powG, lenG, fCallR, frzAll, callRM, fCall, callM, fAnd, fOr, fNot, vAnd, vOr, vNot, fCh, isiG, tyN, fTup, tupM, fLst, lstM, newL, fL, appL, lstG, tupG, maxG, tupleG, gCn, gNl, cutM, toI, negM, par2, tupI, rng1I, rng2I, q_int, q_bool, q_nint, q_nbool, kb_ii, kb_ib, kb_bi, kb_bb, kb_ni, kb_nb, kb_si, kb_sb, k_nt, k_nl, k_ns, k_bt, k_bl, k_bs, k_it, k_il, k_is, k_st, k_sl, k_ss, k_tt, k_tl, k_ts, k_ti, k_tb, k_lt, k_ll, k_ls, k_li, k_lb]) ?_
    refine bnd_to [.dat (.int hi)] ⟨[some (.dat A.d), some (.dat S.d)], []⟩ ?_ rfl
    exact bnd_to _ _ (p _ rfl) rfl
  unfold fCall
  refine bnd_to _ _ a ?_
  simp [frzAll, frz, bnd, ret, callM, s]
/-! ### readings -/
theorem toIs_ints : ∀ l : List Int, toIs (l.map PyData.int) = some l
  | [] => rfl
  | i :: l => by simp [toIs, toIs_ints l]
/-- the settings of the sets up to hour x -/
def pk (x : Int) (ss : List (Int × Int)) : List Int := (ss.filter fun p => decide (p.1 ≤ x)).map (·.2)
theorem pk_map (x : Int) (ss : List (Int × Int)) (f : PyData → Option Rv) (hf : ∀ p : Int × Int, f (.tuple [.int p.1, .int p.2]) = if p.1 ≤ x then some (.dat (.int p.2)) else none) : (sd ss).filterMap f = ((pk x ss).map PyData.int).map Rv.dat := by
  induction ss with
  | nil => rfl
  | cons p r ih =>
    have e : sd (p :: r) = .tuple [.int p.1, .int p.2] :: sd r := rfl
    rw [e, List.filterMap_cons, hf p]
    by_cases c : p.1 ≤ x
    · rw [if_pos c]
      simp only [pk, List.filter_cons, decide_eq_true c, if_true, List.map_cons]
      rw [ih]
      rfl
    · rw [if_neg c]
      simp only [pk, List.filter_cons, decide_eq_false c, Bool.false_eq_true, if_false]
      exact ih
def fpk (x : Int) (r : PyData) : Option Rv := match r with
  | .tuple [.int h, .int v] => if h ≤ x then some (.dat (.int v)) else none
  | _ => none
theorem comp_read (x : Int) (ss : List (Int × Int)) (hl : ss.length ≤ 1000) (b0 b1 b2 b4 b6 : Option Rv) (ob : List Oc) :
    (bnd (bnd (fVar 3) tupI) (compM [7, 8] (tupleG 2 (gCn (setM 7) (gCn (setM 8) gNl))) (fB (f2 leG (fVar 7) (fVar 5))) (fVar 8))) ⟨[b0, b1, b2, some (.dat (.tuple (sd ss))), b4, some (.dat (.int x)), b6, none, none], ob⟩ =
      .ok (.own ob.length) ⟨[b0, b1, b2, some (.dat (.tuple (sd ss))), b4, some (.dat (.int x)), b6, none, none], ob ++ [.lst (((pk x ss).map PyData.int).map Rv.dat)]⟩ := by
  refine bnd_to (sd ss) ⟨[b0, b1, b2, some (.dat (.tuple (sd ss))), b4, some (.dat (.int x)), b6, none, none], ob⟩ rfl ?_
  have h := compL_pure (h := tupleG 2 (gCn (setM 7) (gCn (setM 8) gNl))) (gt := fB (f2 leG (fVar 7) (fVar 5))) (fe := fVar 8) (sl := [b0, b1, b2, some (.dat (.tuple (sd ss))), b4, some (.dat (.int x)), b6, none, none]) (ob := ob) (sd ss) (fpk x)
    (fun r hr acc => by
      obtain ⟨p, _, rfl⟩ := List.mem_map.mp hr
      refine ⟨⟨[b0, b1, b2, some (.dat (.tuple (sd ss))), b4, some (.dat (.int x)), b6, some (.dat (.int p.1)), some (.dat (.int p.2))], ob ++ [.lst acc]⟩, decide (p.1 ≤ x), [b0, b1, b2, some (.dat (.tuple (sd ss))), b4, some (.dat (.int x)), b6, some (.dat (.int p.1)), some (.dat (.int p.2))], rfl, by simp [-List.map_map, -List.map_take, runR, runD, sq, bnd, fB, f2, fVar, fC, ret, app2, app1, peek, ixG, atI, ixN, cmpG, toB, dats, dats_map, slots0, List.replicate, fN, fCons, fNil, appN, peeks, intG, modG, divG, asg, setM, setIx, frz, rowOf, addG, addI, subG, mul_c, powG, lenG, fCallR, frzAll, callRM, fCall, callM, fAnd, fOr, fNot, vAnd, vOr, vNot, fCh, isiG, tyN, fTup, tupM, fLst, lstM, newL, fL, appL, lstG, tupG, maxG, tupleG, gCn, gNl, cutM, toI, negM, par2, tupI, rng1I, rng2I, q_int, q_bool, q_nint, q_nbool, kb_ii, kb_ib, kb_bi, kb_bb, kb_ni, kb_nb, kb_si, kb_sb, k_nt, k_nl, k_ns, k_bt, k_bl, k_bs, k_it, k_il, k_is, k_st, k_sl, k_ss, k_tt, k_tl, k_ts, k_ti, k_tb, k_lt, k_ll, k_ls, k_li, k_lb], fun c => ?_, fun c => ⟨.dat (.int p.2), [b0, b1, b2, some (.dat (.tuple (sd ss))), b4, some (.dat (.int x)), b6, some (.dat (.int p.1)), some (.dat (.int p.2))], rfl, ?_⟩⟩
      · exact if_neg (of_decide_eq_false c)
      · exact if_pos (of_decide_eq_true c)) [] (by have := szl; simp [sd]; omega)
  rw [pk_map x ss (fpk x) (fun p => rfl)] at h
  unfold compM
  have e : wipeL [b0, b1, b2, some (.dat (.tuple (sd ss))), b4, some (.dat (.int x)), b6, none, none] [7, 8] = [b0, b1, b2, some (.dat (.tuple (sd ss))), b4, some (.dat (.int x)), b6, none, none] := rfl
  simp only [e, h, List.nil_append]
theorem comp_read2 (x : Int) (ss : List (Int × Int)) (wk : PyData) (hl : ss.length ≤ 1000) (b0 b2 b4 : Option Rv) (ob : List Oc) :
    (bnd (bnd (f2 ixG (fVar 1) (fC (.int 1))) tupI) (compM [5, 6] (tupleG 2 (gCn (setM 5) (gCn (setM 6) gNl))) (fB (f2 leG (fVar 5) (fVar 3))) (fVar 6))) ⟨[b0, some (.dat (.tuple [wk, .tuple (sd ss)])), b2, some (.dat (.int x)), b4, none, none], ob⟩ =
      .ok (.own ob.length) ⟨[b0, some (.dat (.tuple [wk, .tuple (sd ss)])), b2, some (.dat (.int x)), b4, none, none], ob ++ [.lst (((pk x ss).map PyData.int).map Rv.dat)]⟩ := by
  refine bnd_to (sd ss) ⟨[b0, some (.dat (.tuple [wk, .tuple (sd ss)])), b2, some (.dat (.int x)), b4, none, none], ob⟩ (by simp [-List.map_map, -List.map_take, runR, runD, sq, bnd, fB, f2, fVar, fC, ret, app2, app1, peek, ixG, atI, ixN, cmpG, toB, dats, dats_map, slots0, List.replicate, fN, fCons, fNil, appN, peeks, intG, modG, divG, asg, setM, setIx, frz, rowOf, addG, addI, subG, mul_c, powG, lenG, fCallR, frzAll, callRM, fCall, callM, fAnd, fOr, fNot, vAnd, vOr, vNot, fCh, isiG, tyN, fTup, tupM, fLst, lstM, newL, fL, appL, lstG, tupG, maxG, tupleG, gCn, gNl, cutM, toI, negM, par2, tupI, rng1I, rng2I, q_int, q_bool, q_nint, q_nbool, kb_ii, kb_ib, kb_bi, kb_bb, kb_ni, kb_nb, kb_si, kb_sb, k_nt, k_nl, k_ns, k_bt, k_bl, k_bs, k_it, k_il, k_is, k_st, k_sl, k_ss, k_tt, k_tl, k_ts, k_ti, k_tb, k_lt, k_ll, k_ls, k_li, k_lb]) ?_
  have h := compL_pure (h := tupleG 2 (gCn (setM 5) (gCn (setM 6) gNl))) (gt := fB (f2 leG (fVar 5) (fVar 3))) (fe := fVar 6) (sl := [b0, some (.dat (.tuple [wk, .tuple (sd ss)])), b2, some (.dat (.int x)), b4, none, none]) (ob := ob) (sd ss) (fpk x)
    (fun r hr acc => by
      obtain ⟨p, _, rfl⟩ := List.mem_map.mp hr
      refine ⟨⟨[b0, some (.dat (.tuple [wk, .tuple (sd ss)])), b2, some (.dat (.int x)), b4, some (.dat (.int p.1)), some (.dat (.int p.2))], ob ++ [.lst acc]⟩, decide (p.1 ≤ x), [b0, some (.dat (.tuple [wk, .tuple (sd ss)])), b2, some (.dat (.int x)), b4, some (.dat (.int p.1)), some (.dat (.int p.2))], rfl, by simp [-List.map_map, -List.map_take, runR, runD, sq, bnd, fB, f2, fVar, fC, ret, app2, app1, peek, ixG, atI, ixN, cmpG, toB, dats, dats_map, slots0, List.replicate, fN, fCons, fNil, appN, peeks, intG, modG, divG, asg, setM, setIx, frz, rowOf, addG, addI, subG, mul_c, powG, lenG, fCallR, frzAll, callRM, fCall, callM, fAnd, fOr, fNot, vAnd, vOr, vNot, fCh, isiG, tyN, fTup, tupM, fLst, lstM, newL, fL, appL, lstG, tupG, maxG, tupleG, gCn, gNl, cutM, toI, negM, par2, tupI, rng1I, rng2I, q_int, q_bool, q_nint, q_nbool, kb_ii, kb_ib, kb_bi, kb_bb, kb_ni, kb_nb, kb_si, kb_sb, k_nt, k_nl, k_ns, k_bt, k_bl, k_bs, k_it, k_il, k_is, k_st, k_sl, k_ss, k_tt, k_tl, k_ts, k_ti, k_tb, k_lt, k_ll, k_ls, k_li, k_lb], fun c => ?_, fun c => ⟨.dat (.int p.2), [b0, some (.dat (.tuple [wk, .tuple (sd ss)])), b2, some (.dat (.int x)), b4, some (.dat (.int p.1)), some (.dat (.int p.2))], rfl, ?_⟩⟩
      · exact if_neg (of_decide_eq_false c)
      · exact if_pos (of_decide_eq_true c)) [] (by have := szl; simp [sd]; omega)
  rw [pk_map x ss (fpk x) (fun p => rfl)] at h
  unfold compM
  have e : wipeL [b0, some (.dat (.tuple [wk, .tuple (sd ss)])), b2, some (.dat (.int x)), b4, none, none] [5, 6] = [b0, some (.dat (.tuple [wk, .tuple (sd ss)])), b2, some (.dat (.int x)), b4, none, none] := rfl
  simp only [e, h, List.nil_append]
/-- what the clocks read -/
def reads (A : Al) (S : St) : List Int := S.wk.map fun x => (x + (pk x S.ss).sum) % A.H
theorem read_at_ok (A : Al) (hA : A.Ok) (S : St) (hS : S.Ok A) : F_read_at [A.d, S.d] = .ok (.tuple ((reads A S).map PyData.int)) := by
  have hH : 0 < A.H := by have := hA.h; omega
  have hn := hS.n
  have hm := hS.m
  have z0 : (0 : Nat) ≤ sizeLine := by decide
  obtain ⟨en', f1, junk, a5, a6, rfl⟩ := forM_inv (h := setM 5) (G := (sq (bnd (fN sumG (fCons (bnd (bnd (fVar 3) tupI) (compM [7, 8] (tupleG 2 (gCn (setM 7) (gCn (setM 8) gNl))) (fB (f2 leG (fVar 7) (fVar 5))) (fVar 8))) fNil)) (asg (setM 6)))
  (bnd (bnd (fVar 4) fun r => bnd (chkL r) fun _ => bnd (f2 modG (f2 addG (fVar 5) (fVar 6)) (f2 ixG (fVar 0) (fC (.int 0)))) fun v => appM r v) fun _ => ret .nx))) (S.wk.map PyData.int)
    (fun i en => ∃ (junk : List Oc) (a5 a6 : Option Rv), en = ⟨[some (.dat A.d), some (.dat S.d), some (.dat (.tuple (S.wk.map PyData.int))), some (.dat (.tuple (sd S.ss))), some (.own 0), a5, a6, none, none], .lst ((((reads A S).take i).map PyData.int).map Rv.dat) :: junk⟩)
    (fun i hi en ⟨junk, a5, a6, he⟩ => by
      subst he
      have hil : i < S.wk.length := by simpa using hi
      have er : (S.wk.map PyData.int)[i] = .int S.wk[i] := by simp
      rw [er]
      refine ⟨⟨[some (.dat A.d), some (.dat S.d), some (.dat (.tuple (S.wk.map PyData.int))), some (.dat (.tuple (sd S.ss))), some (.own 0), some (.dat (.int S.wk[i])), a6, none, none], .lst ((((reads A S).take i).map PyData.int).map Rv.dat) :: junk⟩,
        ⟨[some (.dat A.d), some (.dat S.d), some (.dat (.tuple (S.wk.map PyData.int))), some (.dat (.tuple (sd S.ss))), some (.own 0), some (.dat (.int S.wk[i])), some (.dat (.int (pk S.wk[i] S.ss).sum)), none, none], .lst ((((reads A S).take (i + 1)).map PyData.int).map Rv.dat) :: (junk ++ [.lst (((pk S.wk[i] S.ss).map PyData.int).map Rv.dat)])⟩, rfl, ?_, _, _, _, rfl⟩
      have tk : (reads A S).take (i + 1) = (reads A S).take i ++ [(S.wk[i] + (pk S.wk[i] S.ss).sum) % A.H] := by
        rw [List.take_succ]
        simp [reads, hil]
      have lt : ((((reads A S).take i).map PyData.int).map Rv.dat).length < sizeLine := by
        have := szl
        simp [reads]
        omega
      have c := comp_read S.wk[i] S.ss hm (some (.dat A.d)) (some (.dat S.d)) (some (.dat (.tuple (S.wk.map PyData.int)))) (some (.own 0)) a6 (.lst ((((reads A S).take i).map PyData.int).map Rv.dat) :: junk)
      have cs : (fN sumG (fCons (bnd (bnd (fVar 3) tupI) (compM [7, 8] (tupleG 2 (gCn (setM 7) (gCn (setM 8) gNl))) (fB (f2 leG (fVar 7) (fVar 5))) (fVar 8))) fNil)) ⟨[some (.dat A.d), some (.dat S.d), some (.dat (.tuple (S.wk.map PyData.int))), some (.dat (.tuple (sd S.ss))), some (.own 0), some (.dat (.int S.wk[i])), a6, none, none], .lst ((((reads A S).take i).map PyData.int).map Rv.dat) :: junk⟩ = .ok (.dat (.int (pk S.wk[i] S.ss).sum)) ⟨[some (.dat A.d), some (.dat S.d), some (.dat (.tuple (S.wk.map PyData.int))), some (.dat (.tuple (sd S.ss))), some (.own 0), some (.dat (.int S.wk[i])), a6, none, none], .lst ((((reads A S).take i).map PyData.int).map Rv.dat) :: (junk ++ [.lst (((pk S.wk[i] S.ss).map PyData.int).map Rv.dat)])⟩ := by
        unfold fN fCons
        refine bnd_to _ _ (bnd_to _ _ c rfl) ?_
        simp [appN, peeks, peek, dats_map, sumG, toIs_ints, -List.map_map, -List.map_take]
      refine sq_to ⟨[some (.dat A.d), some (.dat S.d), some (.dat (.tuple (S.wk.map PyData.int))), some (.dat (.tuple (sd S.ss))), some (.own 0), some (.dat (.int S.wk[i])), some (.dat (.int (pk S.wk[i] S.ss).sum)), none, none], .lst ((((reads A S).take i).map PyData.int).map Rv.dat) :: (junk ++ [.lst (((pk S.wk[i] S.ss).map PyData.int).map Rv.dat)])⟩ (bnd_to _ _ cs rfl) ?_
      rw [tk]
      simp only [List.map_append, List.map_cons, List.map_nil]
      have lt' := lt
      simp only [List.length_map, List.length_take] at lt'
      simp [-List.map_map, -List.map_take, runR, runD, sq, bnd, fB, f2, fVar, fC, ret, app2, app1, peek, ixG, atI, ixN, cmpG, toB, dats, dats_map, slots0, List.replicate, fN, fCons, fNil, appN, peeks, intG, modG, divG, asg, setM, setIx, frz, rowOf, addG, addI, subG, mul_c, powG, lenG, fCallR, frzAll, callRM, fCall, callM, fAnd, fOr, fNot, vAnd, vOr, vNot, fCh, isiG, tyN, fTup, tupM, fLst, lstM, newL, fL, appL, lstG, tupG, maxG, tupleG, gCn, gNl, cutM, toI, negM, par2, tupI, rng1I, rng2I, q_int, q_bool, q_nint, q_nbool, kb_ii, kb_ib, kb_bi, kb_bb, kb_ni, kb_nb, kb_si, kb_sb, k_nt, k_nl, k_ns, k_bt, k_bl, k_bs, k_it, k_il, k_is, k_st, k_sl, k_ss, k_tt, k_tl, k_ts, k_ti, k_tb, k_lt, k_ll, k_ls, k_li, k_lb, chkL, appM, Al.d, hH, lt'])
    ⟨[some (.dat A.d), some (.dat S.d), some (.dat (.tuple (S.wk.map PyData.int))), some (.dat (.tuple (sd S.ss))), some (.own 0), none, none, none, none], [.lst []]⟩ ⟨[], none, none, rfl⟩
  have hrl : (reads A S).take (S.wk.map PyData.int).length = reads A S := List.take_of_length_le (by simp [reads])
  rw [hrl] at f1
  refine runD_ok rfl (e := ⟨[some (.dat A.d), some (.dat S.d), some (.dat (.tuple (S.wk.map PyData.int))), some (.dat (.tuple (sd S.ss))), some (.own 0), a5, a6, none, none], .lst (((reads A S).map PyData.int).map Rv.dat) :: junk⟩) ?_
  unfold G_read_at
  refine sq_to ⟨[some (.dat A.d), some (.dat S.d), some (.dat (.tuple (S.wk.map PyData.int))), some (.dat (.tuple (sd S.ss))), none, none, none, none, none], []⟩ (by simp [-List.map_map, -List.map_take, runR, runD, sq, bnd, fB, f2, fVar, fC, ret, app2, app1, peek, ixG, atI, ixN, cmpG, toB, dats, dats_map, slots0, List.replicate, fN, fCons, fNil, appN, peeks, intG, modG, divG, asg, setM, setIx, frz, rowOf, addG, addI, subG, mul_c, powG, lenG, fCallR, frzAll, callRM, fCall, callM, fAnd, fOr, fNot, vAnd, vOr, vNot, fCh, isiG, tyN, fTup, tupM, fLst, lstM, newL, fL, appL, lstG, tupG, maxG, tupleG, gCn, gNl, cutM, toI, negM, par2, tupI, rng1I, rng2I, q_int, q_bool, q_nint, q_nbool, kb_ii, kb_ib, kb_bi, kb_bb, kb_ni, kb_nb, kb_si, kb_sb, k_nt, k_nl, k_ns, k_bt, k_bl, k_bs, k_it, k_il, k_is, k_st, k_sl, k_ss, k_tt, k_tl, k_ts, k_ti, k_tb, k_lt, k_ll, k_ls, k_li, k_lb, St.d]) ?_
  refine sq_to ⟨[some (.dat A.d), some (.dat S.d), some (.dat (.tuple (S.wk.map PyData.int))), some (.dat (.tuple (sd S.ss))), some (.own 0), none, none, none, none], [.lst []]⟩ (by simp [-List.map_map, -List.map_take, runR, runD, sq, bnd, fB, f2, fVar, fC, ret, app2, app1, peek, ixG, atI, ixN, cmpG, toB, dats, dats_map, slots0, List.replicate, fN, fCons, fNil, appN, peeks, intG, modG, divG, asg, setM, setIx, frz, rowOf, addG, addI, subG, mul_c, powG, lenG, fCallR, frzAll, callRM, fCall, callM, fAnd, fOr, fNot, vAnd, vOr, vNot, fCh, isiG, tyN, fTup, tupM, fLst, lstM, newL, fL, appL, lstG, tupG, maxG, tupleG, gCn, gNl, cutM, toI, negM, par2, tupI, rng1I, rng2I, q_int, q_bool, q_nint, q_nbool, kb_ii, kb_ib, kb_bi, kb_bb, kb_ni, kb_nb, kb_si, kb_sb, k_nt, k_nl, k_ns, k_bt, k_bl, k_bs, k_it, k_il, k_is, k_st, k_sl, k_ss, k_tt, k_tl, k_ts, k_ti, k_tb, k_lt, k_ll, k_ls, k_li, k_lb, z0]) ?_
  refine sq_to _ (bnd_to (S.wk.map PyData.int) _ rfl f1) ?_
  simp [-List.map_map, -List.map_take, runR, runD, sq, bnd, fB, f2, fVar, fC, ret, app2, app1, peek, ixG, atI, ixN, cmpG, toB, dats, dats_map, slots0, List.replicate, fN, fCons, fNil, appN, peeks, intG, modG, divG, asg, setM, setIx, frz, rowOf, addG, addI, subG, mul_c, powG, lenG, fCallR, frzAll, callRM, fCall, callM, fAnd, fOr, fNot, vAnd, vOr, vNot, fCh, isiG, tyN, fTup, tupM, fLst, lstM, newL, fL, appL, lstG, tupG, maxG, tupleG, gCn, gNl, cutM, toI, negM, par2, tupI, rng1I, rng2I, q_int, q_bool, q_nint, q_nbool, kb_ii, kb_ib, kb_bi, kb_bb, kb_ni, kb_nb, kb_si, kb_sb, k_nt, k_nl, k_ns, k_bt, k_bl, k_bs, k_it, k_il, k_is, k_st, k_sl, k_ss, k_tt, k_tl, k_ts, k_ti, k_tb, k_lt, k_ll, k_ls, k_li, k_lb]
theorem law_read_ok (A : Al) (hA : A.Ok) (S : St) (hS : S.Ok A) : F__law_read [A.d, S.d] = .ok (.tuple ((reads A S).map PyData.int)) := by
  have hH : 0 < A.H := by have := hA.h; omega
  have hn := hS.n
  have hm := hS.m
  have z0 : (0 : Nat) ≤ sizeLine := by decide
  obtain ⟨en', f1, junk, a5, a6, rfl⟩ := forM_inv (h := setM 3) (G := (sq (bnd (fN sumG (fCons (bnd (bnd (f2 ixG (fVar 1) (fC (.int 1))) tupI) (compM [5, 6] (tupleG 2 (gCn (setM 5) (gCn (setM 6) gNl))) (fB (f2 leG (fVar 5) (fVar 3))) (fVar 6))) fNil)) (asg (setM 4)))
  (bnd (bnd (fVar 2) fun r => bnd (chkL r) fun _ => bnd (f2 modG (fN intG (fCons (f2 addG (fVar 3) (fVar 4)) fNil)) (f2 ixG (fVar 0) (fC (.int 0)))) fun v => appM r v) fun _ => ret .nx))) (S.wk.map PyData.int)
    (fun i en => ∃ (junk : List Oc) (a5 a6 : Option Rv), en = ⟨[some (.dat A.d), some (.dat S.d), some (.own 0), a5, a6, none, none], .lst ((((reads A S).take i).map PyData.int).map Rv.dat) :: junk⟩)
    (fun i hi en ⟨junk, a5, a6, he⟩ => by
      subst he
      have hil : i < S.wk.length := by simpa using hi
      have er : (S.wk.map PyData.int)[i] = .int S.wk[i] := by simp
      rw [er]
      refine ⟨⟨[some (.dat A.d), some (.dat S.d), some (.own 0), some (.dat (.int S.wk[i])), a6, none, none], .lst ((((reads A S).take i).map PyData.int).map Rv.dat) :: junk⟩,
        ⟨[some (.dat A.d), some (.dat S.d), some (.own 0), some (.dat (.int S.wk[i])), some (.dat (.int (pk S.wk[i] S.ss).sum)), none, none], .lst ((((reads A S).take (i + 1)).map PyData.int).map Rv.dat) :: (junk ++ [.lst (((pk S.wk[i] S.ss).map PyData.int).map Rv.dat)])⟩, rfl, ?_, _, _, _, rfl⟩
      have tk : (reads A S).take (i + 1) = (reads A S).take i ++ [(S.wk[i] + (pk S.wk[i] S.ss).sum) % A.H] := by
        rw [List.take_succ]
        simp [reads, hil]
      have lt : ((((reads A S).take i).map PyData.int).map Rv.dat).length < sizeLine := by
        have := szl
        simp [reads]
        omega
      have c := comp_read2 S.wk[i] S.ss (.tuple (S.wk.map PyData.int)) hm (some (.dat A.d)) (some (.own 0)) a6 (.lst ((((reads A S).take i).map PyData.int).map Rv.dat) :: junk)
      have cs : (fN sumG (fCons (bnd (bnd (f2 ixG (fVar 1) (fC (.int 1))) tupI) (compM [5, 6] (tupleG 2 (gCn (setM 5) (gCn (setM 6) gNl))) (fB (f2 leG (fVar 5) (fVar 3))) (fVar 6))) fNil)) ⟨[some (.dat A.d), some (.dat S.d), some (.own 0), some (.dat (.int S.wk[i])), a6, none, none], .lst ((((reads A S).take i).map PyData.int).map Rv.dat) :: junk⟩ = .ok (.dat (.int (pk S.wk[i] S.ss).sum)) ⟨[some (.dat A.d), some (.dat S.d), some (.own 0), some (.dat (.int S.wk[i])), a6, none, none], .lst ((((reads A S).take i).map PyData.int).map Rv.dat) :: (junk ++ [.lst (((pk S.wk[i] S.ss).map PyData.int).map Rv.dat)])⟩ := by
        unfold fN fCons
        refine bnd_to _ _ (bnd_to _ _ c rfl) ?_
        simp [appN, peeks, peek, dats_map, sumG, toIs_ints, St.d, -List.map_map, -List.map_take]
      refine sq_to ⟨[some (.dat A.d), some (.dat S.d), some (.own 0), some (.dat (.int S.wk[i])), some (.dat (.int (pk S.wk[i] S.ss).sum)), none, none], .lst ((((reads A S).take i).map PyData.int).map Rv.dat) :: (junk ++ [.lst (((pk S.wk[i] S.ss).map PyData.int).map Rv.dat)])⟩ (bnd_to _ _ cs rfl) ?_
      rw [tk]
      simp only [List.map_append, List.map_cons, List.map_nil]
      have lt' := lt
      simp only [List.length_map, List.length_take] at lt'
      simp [-List.map_map, -List.map_take, runR, runD, sq, bnd, fB, f2, fVar, fC, ret, app2, app1, peek, ixG, atI, ixN, cmpG, toB, dats, dats_map, slots0, List.replicate, fN, fCons, fNil, appN, peeks, intG, modG, divG, asg, setM, setIx, frz, rowOf, addG, addI, subG, mul_c, powG, lenG, fCallR, frzAll, callRM, fCall, callM, fAnd, fOr, fNot, vAnd, vOr, vNot, fCh, isiG, tyN, fTup, tupM, fLst, lstM, newL, fL, appL, lstG, tupG, maxG, tupleG, gCn, gNl, cutM, toI, negM, par2, tupI, rng1I, rng2I, q_int, q_bool, q_nint, q_nbool, kb_ii, kb_ib, kb_bi, kb_bb, kb_ni, kb_nb, kb_si, kb_sb, k_nt, k_nl, k_ns, k_bt, k_bl, k_bs, k_it, k_il, k_is, k_st, k_sl, k_ss, k_tt, k_tl, k_ts, k_ti, k_tb, k_lt, k_ll, k_ls, k_li, k_lb, chkL, appM, Al.d, hH, lt'])
    ⟨[some (.dat A.d), some (.dat S.d), some (.own 0), none, none, none, none], [.lst []]⟩ ⟨[], none, none, rfl⟩
  have hrl : (reads A S).take (S.wk.map PyData.int).length = reads A S := List.take_of_length_le (by simp [reads])
  rw [hrl] at f1
  refine runD_ok rfl (e := ⟨[some (.dat A.d), some (.dat S.d), some (.own 0), a5, a6, none, none], .lst (((reads A S).map PyData.int).map Rv.dat) :: junk⟩) ?_
  unfold G__law_read
  refine sq_to ⟨[some (.dat A.d), some (.dat S.d), some (.own 0), none, none, none, none], [.lst []]⟩ (by simp [-List.map_map, -List.map_take, runR, runD, sq, bnd, fB, f2, fVar, fC, ret, app2, app1, peek, ixG, atI, ixN, cmpG, toB, dats, dats_map, slots0, List.replicate, fN, fCons, fNil, appN, peeks, intG, modG, divG, asg, setM, setIx, frz, rowOf, addG, addI, subG, mul_c, powG, lenG, fCallR, frzAll, callRM, fCall, callM, fAnd, fOr, fNot, vAnd, vOr, vNot, fCh, isiG, tyN, fTup, tupM, fLst, lstM, newL, fL, appL, lstG, tupG, maxG, tupleG, gCn, gNl, cutM, toI, negM, par2, tupI, rng1I, rng2I, q_int, q_bool, q_nint, q_nbool, kb_ii, kb_ib, kb_bi, kb_bb, kb_ni, kb_nb, kb_si, kb_sb, k_nt, k_nl, k_ns, k_bt, k_bl, k_bs, k_it, k_il, k_is, k_st, k_sl, k_ss, k_tt, k_tl, k_ts, k_ti, k_tb, k_lt, k_ll, k_ls, k_li, k_lb, z0]) ?_
  refine sq_to _ (bnd_to (S.wk.map PyData.int) ⟨[some (.dat A.d), some (.dat S.d), some (.own 0), none, none, none, none], [.lst []]⟩ (by simp [-List.map_map, -List.map_take, runR, runD, sq, bnd, fB, f2, fVar, fC, ret, app2, app1, peek, ixG, atI, ixN, cmpG, toB, dats, dats_map, slots0, List.replicate, fN, fCons, fNil, appN, peeks, intG, modG, divG, asg, setM, setIx, frz, rowOf, addG, addI, subG, mul_c, powG, lenG, fCallR, frzAll, callRM, fCall, callM, fAnd, fOr, fNot, vAnd, vOr, vNot, fCh, isiG, tyN, fTup, tupM, fLst, lstM, newL, fL, appL, lstG, tupG, maxG, tupleG, gCn, gNl, cutM, toI, negM, par2, tupI, rng1I, rng2I, q_int, q_bool, q_nint, q_nbool, kb_ii, kb_ib, kb_bi, kb_bb, kb_ni, kb_nb, kb_si, kb_sb, k_nt, k_nl, k_ns, k_bt, k_bl, k_bs, k_it, k_il, k_is, k_st, k_sl, k_ss, k_tt, k_tl, k_ts, k_ti, k_tb, k_lt, k_ll, k_ls, k_li, k_lb, St.d]) f1) ?_
  simp [-List.map_map, -List.map_take, runR, runD, sq, bnd, fB, f2, fVar, fC, ret, app2, app1, peek, ixG, atI, ixN, cmpG, toB, dats, dats_map, slots0, List.replicate, fN, fCons, fNil, appN, peeks, intG, modG, divG, asg, setM, setIx, frz, rowOf, addG, addI, subG, mul_c, powG, lenG, fCallR, frzAll, callRM, fCall, callM, fAnd, fOr, fNot, vAnd, vOr, vNot, fCh, isiG, tyN, fTup, tupM, fLst, lstM, newL, fL, appL, lstG, tupG, maxG, tupleG, gCn, gNl, cutM, toI, negM, par2, tupI, rng1I, rng2I, q_int, q_bool, q_nint, q_nbool, kb_ii, kb_ib, kb_bi, kb_bb, kb_ni, kb_nb, kb_si, kb_sb, k_nt, k_nl, k_ns, k_bt, k_bl, k_bs, k_it, k_il, k_is, k_st, k_sl, k_ss, k_tt, k_tl, k_ts, k_ti, k_tb, k_lt, k_ll, k_ls, k_li, k_lb]
theorem readings_ok (A : Al) (hA : A.Ok) (S : St) (hS : S.Ok A) : F_readings [A.d, S.d] = .ok (.tuple ((reads A S).map PyData.int)) := by
  simp [F_readings, G_readings, -List.map_map, -List.map_take, runR, runD, sq, bnd, fB, f2, fVar, fC, ret, app2, app1, peek, ixG, atI, ixN, cmpG, toB, dats, dats_map, slots0, List.replicate, fN, fCons, fNil, appN, peeks, intG, modG, divG, asg, setM, setIx, frz, rowOf, addG, addI, subG, mul_c, powG, lenG, fCallR, frzAll, callRM, fCall, callM, fAnd, fOr, fNot, vAnd, vOr, vNot, fCh, isiG, tyN, fTup, tupM, fLst, lstM, newL, fL, appL, lstG, tupG, maxG, tupleG, gCn, gNl, cutM, toI, negM, par2, tupI, rng1I, rng2I, q_int, q_bool, q_nint, q_nbool, kb_ii, kb_ib, kb_bi, kb_bb, kb_ni, kb_nb, kb_si, kb_sb, k_nt, k_nl, k_ns, k_bt, k_bl, k_bs, k_it, k_il, k_is, k_st, k_sl, k_ss, k_tt, k_tl, k_ts, k_ti, k_tb, k_lt, k_ll, k_ls, k_li, k_lb, need_ok A hA, is_story_ok A hA S hS, read_at_ok A hA S hS]
/-! ### alike -/
def plain : Nat → PyData → Prop
  | _, .none => True
  | _, .bool _ => True
  | _, .int _ => True
  | _, .str x => SeqAt.shaped (.str x) = true
  | n + 1, .list ds => ds.length < 1000000 ∧ ∀ d ∈ ds, plain n d
  | n + 1, .tuple ds => ds.length < 1000000 ∧ ∀ d ∈ ds, plain n d
  | _, _ => False
theorem q_str (x : Str) (h : SeqAt.shaped (.str x) = true) : eqG (.str x) (.str x) = some (.bool true) := by
  unfold eqG
  simp [h, PyData.eqv]
theorem alike_seq (rec : List PyData → Res) (ds : List PyData) (tp : Bool) (hl : ds.length < 1000000) (hr : ∀ d ∈ ds, rec [d, d] = .ok (.bool true)) :
    runD 2 3 (G__law_alike rec) [if tp then .tuple ds else .list ds, if tp then .tuple ds else .list ds] = .ok (.bool true) := by
  have z0 : (0 : Nat) ≤ sizeLine := by decide
  have key : ∀ s : PyData, (s = .tuple ds ∨ s = .list ds) → (bnd (bnd (fCons (fN lenG (fCons (fVar 1) fNil)) fNil) rng1I) (compM [2] (setM 2) (fNot (fB (fCall rec (fCons (f2 ixG (fVar 0) (fVar 2)) (fCons (f2 ixG (fVar 1) (fVar 2)) fNil))))) (fVar 2))) ⟨[some (.dat s), some (.dat s), none], []⟩ = .ok (.own 0) ⟨[some (.dat s), some (.dat s), none], [.lst []]⟩ := by
    intro s hs
    have len : lenG [s] = some (.int (ds.length : Int)) := by rcases hs with rfl | rfl <;> rfl
    refine bnd_to (upI 0 ds.length) ⟨[some (.dat s), some (.dat s), none], []⟩ ?_ ?_
    · refine bnd_to [.dat (.int (ds.length : Int))] ⟨[some (.dat s), some (.dat s), none], []⟩ ?_ (rng1_ok _ hl _)
      simp [fCons, fN, bnd, fVar, fNil, ret, appN, peeks, peek, len]
    · have h := compL_pure (h := setM 2) (gt := fNot (fB (fCall rec (fCons (f2 ixG (fVar 0) (fVar 2)) (fCons (f2 ixG (fVar 1) (fVar 2)) fNil))))) (fe := fVar 2) (sl := [some (.dat s), some (.dat s), none]) (ob := []) (upI 0 ds.length) (fun _ => none)
        (fun r hr2 acc => by
          obtain ⟨k, hk, rfl⟩ := List.mem_map.mp hr2
          have hk' : k < ds.length := List.mem_range.mp hk
          have ix : ixG s (.int (0 + (k : Int))) = some ds[k] := by
            rw [Int.zero_add]
            rcases hs with rfl | rfl
            · exact at_tup hk'
            · exact at_list hk'
          refine ⟨⟨[some (.dat s), some (.dat s), some (.dat (.int (0 + (k : Int))))], [.lst acc]⟩, false, [some (.dat s), some (.dat s), some (.dat (.int (0 + (k : Int))))], rfl, ?_, fun _ => rfl, fun z => nomatch z⟩
          have hrk := hr ds[k] (List.getElem_mem hk')
          simp only [fNot, fB, fCall, fCons, f2, bnd, fVar, List.getElem?_cons_zero, List.getElem?_cons_succ, app2, peek, ix, fNil, ret, frzAll, frz, callM, hrk, toB]
          rfl) [] (by have := szl; simp [upI]; omega)
      have hf : (upI 0 ds.length).filterMap (fun _ => (none : Option Rv)) = [] := by
        rw [List.filterMap_eq_nil_iff]
        intro a _
        rfl
      rw [hf] at h
      unfold compM
      have e : wipeL [some (.dat s), some (.dat s), none] [2] = [some (.dat s), some (.dat s), none] := rfl
      simp only [e]
      have h' : compL (setM 2) (fNot (fB (fCall rec (fCons (f2 ixG (fVar 0) (fVar 2)) (fCons (f2 ixG (fVar 1) (fVar 2)) fNil))))) (fVar 2) [some (.dat s), some (.dat s), none] 0 (upI 0 ds.length) ⟨[some (.dat s), some (.dat s), none], [.lst []]⟩ = some ⟨[some (.dat s), some (.dat s), none], [.lst []]⟩ := h
      simp only [List.length_nil, List.nil_append]
      rw [h']
  cases tp with
  | true =>
    have k := key (.tuple ds) (.inl rfl)
    refine runD_ok rfl (e := ⟨[some (.dat (.tuple ds)), some (.dat (.tuple ds)), none], [.lst [], .lst []]⟩) ?_
    unfold G__law_alike
    have inner : (sq (bnd (fOr (fNot (fB (bnd (fVar 0) (app1 (isiG2 "tuple" "list"))))) (fB (f2 neG (bnd (fVar 0) (app1 (isiG "list"))) (bnd (fVar 1) (app1 (isiG "list")))))) fun k => if k = true then (bnd (fC (.bool false)) fun r => ret (.ret r)) else (ret .nx))
  (sq (bnd (fB (f2 neG (fN lenG (fCons (fVar 0) fNil)) (fN lenG (fCons (fVar 1) fNil)))) fun k => if k = true then (bnd (fC (.bool false)) fun r => ret (.ret r)) else (ret .nx))
  (bnd (f2 eqG (bnd (bnd (fCons (fN lenG (fCons (fVar 1) fNil)) fNil) rng1I) (compM [2] (setM 2) (fNot (fB (fCall rec (fCons (f2 ixG (fVar 0) (fVar 2)) (fCons (f2 ixG (fVar 1) (fVar 2)) fNil))))) (fVar 2))) (fLst fNil)) fun r => ret (.ret r)))) ⟨[some (.dat (.tuple ds)), some (.dat (.tuple ds)), none], []⟩ = .ok (.ret (.dat (.bool true))) ⟨[some (.dat (.tuple ds)), some (.dat (.tuple ds)), none], [.lst [], .lst []]⟩ := by
      refine sq_to ⟨[some (.dat (.tuple ds)), some (.dat (.tuple ds)), none], []⟩ (by simp [-List.map_map, -List.map_take, runR, runD, sq, bnd, fB, f2, fVar, fC, ret, app2, app1, peek, ixG, atI, ixN, cmpG, toB, dats, dats_map, slots0, List.replicate, fN, fCons, fNil, appN, peeks, intG, modG, divG, asg, setM, setIx, frz, rowOf, addG, addI, subG, mul_c, powG, lenG, fCallR, frzAll, callRM, fCall, callM, fAnd, fOr, fNot, vAnd, vOr, vNot, fCh, isiG, tyN, fTup, tupM, fLst, lstM, newL, fL, appL, lstG, tupG, maxG, tupleG, gCn, gNl, cutM, toI, negM, par2, tupI, rng1I, rng2I, q_int, q_bool, q_nint, q_nbool, kb_ii, kb_ib, kb_bi, kb_bb, kb_ni, kb_nb, kb_si, kb_sb, k_nt, k_nl, k_ns, k_bt, k_bl, k_bs, k_it, k_il, k_is, k_st, k_sl, k_ss, k_tt, k_tl, k_ts, k_ti, k_tb, k_lt, k_ll, k_ls, k_li, k_lb, isiG2]) ?_
      refine sq_to ⟨[some (.dat (.tuple ds)), some (.dat (.tuple ds)), none], []⟩ (by simp [-List.map_map, -List.map_take, runR, runD, sq, bnd, fB, f2, fVar, fC, ret, app2, app1, peek, ixG, atI, ixN, cmpG, toB, dats, dats_map, slots0, List.replicate, fN, fCons, fNil, appN, peeks, intG, modG, divG, asg, setM, setIx, frz, rowOf, addG, addI, subG, mul_c, powG, lenG, fCallR, frzAll, callRM, fCall, callM, fAnd, fOr, fNot, vAnd, vOr, vNot, fCh, isiG, tyN, fTup, tupM, fLst, lstM, newL, fL, appL, lstG, tupG, maxG, tupleG, gCn, gNl, cutM, toI, negM, par2, tupI, rng1I, rng2I, q_int, q_bool, q_nint, q_nbool, kb_ii, kb_ib, kb_bi, kb_bb, kb_ni, kb_nb, kb_si, kb_sb, k_nt, k_nl, k_ns, k_bt, k_bl, k_bs, k_it, k_il, k_is, k_st, k_sl, k_ss, k_tt, k_tl, k_ts, k_ti, k_tb, k_lt, k_ll, k_ls, k_li, k_lb]) ?_
      refine bnd_to (.dat (.bool true)) _ ?_ rfl
      unfold f2
      refine bnd_to _ _ k ?_
      simp [fLst, fNil, bnd, ret, lstM, z0, newL, app2, peek, dats, q_lst0]
    refine sq_ret (bnd_to true ⟨[some (.dat (.tuple ds)), some (.dat (.tuple ds)), none], []⟩ (by simp [-List.map_map, -List.map_take, runR, runD, sq, bnd, fB, f2, fVar, fC, ret, app2, app1, peek, ixG, atI, ixN, cmpG, toB, dats, dats_map, slots0, List.replicate, fN, fCons, fNil, appN, peeks, intG, modG, divG, asg, setM, setIx, frz, rowOf, addG, addI, subG, mul_c, powG, lenG, fCallR, frzAll, callRM, fCall, callM, fAnd, fOr, fNot, vAnd, vOr, vNot, fCh, isiG, tyN, fTup, tupM, fLst, lstM, newL, fL, appL, lstG, tupG, maxG, tupleG, gCn, gNl, cutM, toI, negM, par2, tupI, rng1I, rng2I, q_int, q_bool, q_nint, q_nbool, kb_ii, kb_ib, kb_bi, kb_bb, kb_ni, kb_nb, kb_si, kb_sb, k_nt, k_nl, k_ns, k_bt, k_bl, k_bs, k_it, k_il, k_is, k_st, k_sl, k_ss, k_tt, k_tl, k_ts, k_ti, k_tb, k_lt, k_ll, k_ls, k_li, k_lb, isiG2]) ?_)
    rw [if_pos rfl]
    exact inner
  | false =>
    have k := key (.list ds) (.inr rfl)
    refine runD_ok rfl (e := ⟨[some (.dat (.list ds)), some (.dat (.list ds)), none], [.lst [], .lst []]⟩) ?_
    unfold G__law_alike
    have inner : (sq (bnd (fOr (fNot (fB (bnd (fVar 0) (app1 (isiG2 "tuple" "list"))))) (fB (f2 neG (bnd (fVar 0) (app1 (isiG "list"))) (bnd (fVar 1) (app1 (isiG "list")))))) fun k => if k = true then (bnd (fC (.bool false)) fun r => ret (.ret r)) else (ret .nx))
  (sq (bnd (fB (f2 neG (fN lenG (fCons (fVar 0) fNil)) (fN lenG (fCons (fVar 1) fNil)))) fun k => if k = true then (bnd (fC (.bool false)) fun r => ret (.ret r)) else (ret .nx))
  (bnd (f2 eqG (bnd (bnd (fCons (fN lenG (fCons (fVar 1) fNil)) fNil) rng1I) (compM [2] (setM 2) (fNot (fB (fCall rec (fCons (f2 ixG (fVar 0) (fVar 2)) (fCons (f2 ixG (fVar 1) (fVar 2)) fNil))))) (fVar 2))) (fLst fNil)) fun r => ret (.ret r)))) ⟨[some (.dat (.list ds)), some (.dat (.list ds)), none], []⟩ = .ok (.ret (.dat (.bool true))) ⟨[some (.dat (.list ds)), some (.dat (.list ds)), none], [.lst [], .lst []]⟩ := by
      refine sq_to ⟨[some (.dat (.list ds)), some (.dat (.list ds)), none], []⟩ (by simp [-List.map_map, -List.map_take, runR, runD, sq, bnd, fB, f2, fVar, fC, ret, app2, app1, peek, ixG, atI, ixN, cmpG, toB, dats, dats_map, slots0, List.replicate, fN, fCons, fNil, appN, peeks, intG, modG, divG, asg, setM, setIx, frz, rowOf, addG, addI, subG, mul_c, powG, lenG, fCallR, frzAll, callRM, fCall, callM, fAnd, fOr, fNot, vAnd, vOr, vNot, fCh, isiG, tyN, fTup, tupM, fLst, lstM, newL, fL, appL, lstG, tupG, maxG, tupleG, gCn, gNl, cutM, toI, negM, par2, tupI, rng1I, rng2I, q_int, q_bool, q_nint, q_nbool, kb_ii, kb_ib, kb_bi, kb_bb, kb_ni, kb_nb, kb_si, kb_sb, k_nt, k_nl, k_ns, k_bt, k_bl, k_bs, k_it, k_il, k_is, k_st, k_sl, k_ss, k_tt, k_tl, k_ts, k_ti, k_tb, k_lt, k_ll, k_ls, k_li, k_lb, isiG2]) ?_
      refine sq_to ⟨[some (.dat (.list ds)), some (.dat (.list ds)), none], []⟩ (by simp [-List.map_map, -List.map_take, runR, runD, sq, bnd, fB, f2, fVar, fC, ret, app2, app1, peek, ixG, atI, ixN, cmpG, toB, dats, dats_map, slots0, List.replicate, fN, fCons, fNil, appN, peeks, intG, modG, divG, asg, setM, setIx, frz, rowOf, addG, addI, subG, mul_c, powG, lenG, fCallR, frzAll, callRM, fCall, callM, fAnd, fOr, fNot, vAnd, vOr, vNot, fCh, isiG, tyN, fTup, tupM, fLst, lstM, newL, fL, appL, lstG, tupG, maxG, tupleG, gCn, gNl, cutM, toI, negM, par2, tupI, rng1I, rng2I, q_int, q_bool, q_nint, q_nbool, kb_ii, kb_ib, kb_bi, kb_bb, kb_ni, kb_nb, kb_si, kb_sb, k_nt, k_nl, k_ns, k_bt, k_bl, k_bs, k_it, k_il, k_is, k_st, k_sl, k_ss, k_tt, k_tl, k_ts, k_ti, k_tb, k_lt, k_ll, k_ls, k_li, k_lb]) ?_
      refine bnd_to (.dat (.bool true)) _ ?_ rfl
      unfold f2
      refine bnd_to _ _ k ?_
      simp [fLst, fNil, bnd, ret, lstM, z0, newL, app2, peek, dats, q_lst0]
    refine sq_ret (bnd_to true ⟨[some (.dat (.list ds)), some (.dat (.list ds)), none], []⟩ (by simp [-List.map_map, -List.map_take, runR, runD, sq, bnd, fB, f2, fVar, fC, ret, app2, app1, peek, ixG, atI, ixN, cmpG, toB, dats, dats_map, slots0, List.replicate, fN, fCons, fNil, appN, peeks, intG, modG, divG, asg, setM, setIx, frz, rowOf, addG, addI, subG, mul_c, powG, lenG, fCallR, frzAll, callRM, fCall, callM, fAnd, fOr, fNot, vAnd, vOr, vNot, fCh, isiG, tyN, fTup, tupM, fLst, lstM, newL, fL, appL, lstG, tupG, maxG, tupleG, gCn, gNl, cutM, toI, negM, par2, tupI, rng1I, rng2I, q_int, q_bool, q_nint, q_nbool, kb_ii, kb_ib, kb_bi, kb_bb, kb_ni, kb_nb, kb_si, kb_sb, k_nt, k_nl, k_ns, k_bt, k_bl, k_bs, k_it, k_il, k_is, k_st, k_sl, k_ss, k_tt, k_tl, k_ts, k_ti, k_tb, k_lt, k_ll, k_ls, k_li, k_lb, isiG2]) ?_)
    rw [if_pos rfl]
    exact inner
theorem alike_ok : ∀ (n : Nat) (d : PyData), plain n d → F__law_alike (n + 1) [d, d] = .ok (.bool true) := by
  intro n
  induction n with
  | zero =>
    intro d h
    cases d with
    | none => simp [F__law_alike, G__law_alike, -List.map_map, -List.map_take, runR, runD, sq, bnd, fB, f2, fVar, fC, ret, app2, app1, peek, ixG, atI, ixN, cmpG, toB, dats, dats_map, slots0, List.replicate, fN, fCons, fNil, appN, peeks, intG, modG, divG, asg, setM, setIx, frz, rowOf, addG, addI, subG, mul_c, powG, lenG, fCallR, frzAll, callRM, fCall, callM, fAnd, fOr, fNot, vAnd, vOr, vNot, fCh, isiG, tyN, fTup, tupM, fLst, lstM, newL, fL, appL, lstG, tupG, maxG, tupleG, gCn, gNl, cutM, toI, negM, par2, tupI, rng1I, rng2I, q_int, q_bool, q_nint, q_nbool, kb_ii, kb_ib, kb_bi, kb_bb, kb_ni, kb_nb, kb_si, kb_sb, k_nt, k_nl, k_ns, k_bt, k_bl, k_bs, k_it, k_il, k_is, k_st, k_sl, k_ss, k_tt, k_tl, k_ts, k_ti, k_tb, k_lt, k_ll, k_ls, k_li, k_lb, isiG2, isNG, isNo, eqG, SeqAt.shaped, PyData.canLay0, PyData.depth, PyData.eqv]
    | bool b => simp [F__law_alike, G__law_alike, -List.map_map, -List.map_take, runR, runD, sq, bnd, fB, f2, fVar, fC, ret, app2, app1, peek, ixG, atI, ixN, cmpG, toB, dats, dats_map, slots0, List.replicate, fN, fCons, fNil, appN, peeks, intG, modG, divG, asg, setM, setIx, frz, rowOf, addG, addI, subG, mul_c, powG, lenG, fCallR, frzAll, callRM, fCall, callM, fAnd, fOr, fNot, vAnd, vOr, vNot, fCh, isiG, tyN, fTup, tupM, fLst, lstM, newL, fL, appL, lstG, tupG, maxG, tupleG, gCn, gNl, cutM, toI, negM, par2, tupI, rng1I, rng2I, q_int, q_bool, q_nint, q_nbool, kb_ii, kb_ib, kb_bi, kb_bb, kb_ni, kb_nb, kb_si, kb_sb, k_nt, k_nl, k_ns, k_bt, k_bl, k_bs, k_it, k_il, k_is, k_st, k_sl, k_ss, k_tt, k_tl, k_ts, k_ti, k_tb, k_lt, k_ll, k_ls, k_li, k_lb, isiG2, isNG, isNo]
    | int i => simp [F__law_alike, G__law_alike, -List.map_map, -List.map_take, runR, runD, sq, bnd, fB, f2, fVar, fC, ret, app2, app1, peek, ixG, atI, ixN, cmpG, toB, dats, dats_map, slots0, List.replicate, fN, fCons, fNil, appN, peeks, intG, modG, divG, asg, setM, setIx, frz, rowOf, addG, addI, subG, mul_c, powG, lenG, fCallR, frzAll, callRM, fCall, callM, fAnd, fOr, fNot, vAnd, vOr, vNot, fCh, isiG, tyN, fTup, tupM, fLst, lstM, newL, fL, appL, lstG, tupG, maxG, tupleG, gCn, gNl, cutM, toI, negM, par2, tupI, rng1I, rng2I, q_int, q_bool, q_nint, q_nbool, kb_ii, kb_ib, kb_bi, kb_bb, kb_ni, kb_nb, kb_si, kb_sb, k_nt, k_nl, k_ns, k_bt, k_bl, k_bs, k_it, k_il, k_is, k_st, k_sl, k_ss, k_tt, k_tl, k_ts, k_ti, k_tb, k_lt, k_ll, k_ls, k_li, k_lb, isiG2, isNG, isNo]
    | str x => simp [F__law_alike, G__law_alike, -List.map_map, -List.map_take, runR, runD, sq, bnd, fB, f2, fVar, fC, ret, app2, app1, peek, ixG, atI, ixN, cmpG, toB, dats, dats_map, slots0, List.replicate, fN, fCons, fNil, appN, peeks, intG, modG, divG, asg, setM, setIx, frz, rowOf, addG, addI, subG, mul_c, powG, lenG, fCallR, frzAll, callRM, fCall, callM, fAnd, fOr, fNot, vAnd, vOr, vNot, fCh, isiG, tyN, fTup, tupM, fLst, lstM, newL, fL, appL, lstG, tupG, maxG, tupleG, gCn, gNl, cutM, toI, negM, par2, tupI, rng1I, rng2I, q_int, q_bool, q_nint, q_nbool, kb_ii, kb_ib, kb_bi, kb_bb, kb_ni, kb_nb, kb_si, kb_sb, k_nt, k_nl, k_ns, k_bt, k_bl, k_bs, k_it, k_il, k_is, k_st, k_sl, k_ss, k_tt, k_tl, k_ts, k_ti, k_tb, k_lt, k_ll, k_ls, k_li, k_lb, isiG2, isNG, isNo, q_str x h]
    | _ => exact h.elim
  | succ n ih =>
    intro d h
    cases d with
    | none => simp [F__law_alike, G__law_alike, -List.map_map, -List.map_take, runR, runD, sq, bnd, fB, f2, fVar, fC, ret, app2, app1, peek, ixG, atI, ixN, cmpG, toB, dats, dats_map, slots0, List.replicate, fN, fCons, fNil, appN, peeks, intG, modG, divG, asg, setM, setIx, frz, rowOf, addG, addI, subG, mul_c, powG, lenG, fCallR, frzAll, callRM, fCall, callM, fAnd, fOr, fNot, vAnd, vOr, vNot, fCh, isiG, tyN, fTup, tupM, fLst, lstM, newL, fL, appL, lstG, tupG, maxG, tupleG, gCn, gNl, cutM, toI, negM, par2, tupI, rng1I, rng2I, q_int, q_bool, q_nint, q_nbool, kb_ii, kb_ib, kb_bi, kb_bb, kb_ni, kb_nb, kb_si, kb_sb, k_nt, k_nl, k_ns, k_bt, k_bl, k_bs, k_it, k_il, k_is, k_st, k_sl, k_ss, k_tt, k_tl, k_ts, k_ti, k_tb, k_lt, k_ll, k_ls, k_li, k_lb, isiG2, isNG, isNo, eqG, SeqAt.shaped, PyData.canLay0, PyData.depth, PyData.eqv]
    | bool b => simp [F__law_alike, G__law_alike, -List.map_map, -List.map_take, runR, runD, sq, bnd, fB, f2, fVar, fC, ret, app2, app1, peek, ixG, atI, ixN, cmpG, toB, dats, dats_map, slots0, List.replicate, fN, fCons, fNil, appN, peeks, intG, modG, divG, asg, setM, setIx, frz, rowOf, addG, addI, subG, mul_c, powG, lenG, fCallR, frzAll, callRM, fCall, callM, fAnd, fOr, fNot, vAnd, vOr, vNot, fCh, isiG, tyN, fTup, tupM, fLst, lstM, newL, fL, appL, lstG, tupG, maxG, tupleG, gCn, gNl, cutM, toI, negM, par2, tupI, rng1I, rng2I, q_int, q_bool, q_nint, q_nbool, kb_ii, kb_ib, kb_bi, kb_bb, kb_ni, kb_nb, kb_si, kb_sb, k_nt, k_nl, k_ns, k_bt, k_bl, k_bs, k_it, k_il, k_is, k_st, k_sl, k_ss, k_tt, k_tl, k_ts, k_ti, k_tb, k_lt, k_ll, k_ls, k_li, k_lb, isiG2, isNG, isNo]
    | int i => simp [F__law_alike, G__law_alike, -List.map_map, -List.map_take, runR, runD, sq, bnd, fB, f2, fVar, fC, ret, app2, app1, peek, ixG, atI, ixN, cmpG, toB, dats, dats_map, slots0, List.replicate, fN, fCons, fNil, appN, peeks, intG, modG, divG, asg, setM, setIx, frz, rowOf, addG, addI, subG, mul_c, powG, lenG, fCallR, frzAll, callRM, fCall, callM, fAnd, fOr, fNot, vAnd, vOr, vNot, fCh, isiG, tyN, fTup, tupM, fLst, lstM, newL, fL, appL, lstG, tupG, maxG, tupleG, gCn, gNl, cutM, toI, negM, par2, tupI, rng1I, rng2I, q_int, q_bool, q_nint, q_nbool, kb_ii, kb_ib, kb_bi, kb_bb, kb_ni, kb_nb, kb_si, kb_sb, k_nt, k_nl, k_ns, k_bt, k_bl, k_bs, k_it, k_il, k_is, k_st, k_sl, k_ss, k_tt, k_tl, k_ts, k_ti, k_tb, k_lt, k_ll, k_ls, k_li, k_lb, isiG2, isNG, isNo]
    | str x => simp [F__law_alike, G__law_alike, -List.map_map, -List.map_take, runR, runD, sq, bnd, fB, f2, fVar, fC, ret, app2, app1, peek, ixG, atI, ixN, cmpG, toB, dats, dats_map, slots0, List.replicate, fN, fCons, fNil, appN, peeks, intG, modG, divG, asg, setM, setIx, frz, rowOf, addG, addI, subG, mul_c, powG, lenG, fCallR, frzAll, callRM, fCall, callM, fAnd, fOr, fNot, vAnd, vOr, vNot, fCh, isiG, tyN, fTup, tupM, fLst, lstM, newL, fL, appL, lstG, tupG, maxG, tupleG, gCn, gNl, cutM, toI, negM, par2, tupI, rng1I, rng2I, q_int, q_bool, q_nint, q_nbool, kb_ii, kb_ib, kb_bi, kb_bb, kb_ni, kb_nb, kb_si, kb_sb, k_nt, k_nl, k_ns, k_bt, k_bl, k_bs, k_it, k_il, k_is, k_st, k_sl, k_ss, k_tt, k_tl, k_ts, k_ti, k_tb, k_lt, k_ll, k_ls, k_li, k_lb, isiG2, isNG, isNo, q_str x h]
    | list ds => exact alike_seq (F__law_alike (n + 1)) ds false h.1 fun d hd => ih d (h.2 d hd)
    | tuple ds => exact alike_seq (F__law_alike (n + 1)) ds true h.1 fun d hd => ih d (h.2 d hd)
    | dict _ => exact h.elim
theorem ints_plain (n : Nat) (l : List Int) (h : l.length < 1000000) : plain (n + 1) (.tuple (l.map PyData.int)) ∧ plain (n + 1) (.list (l.map PyData.int)) := by
  have k : ∀ d ∈ l.map PyData.int, plain n d := fun d hd => by
    obtain ⟨i, _, rfl⟩ := List.mem_map.mp hd
    cases n <;> trivial
  exact ⟨⟨by simpa using h, k⟩, ⟨by simpa using h, k⟩⟩
theorem law_ok (ns : List Int) : F_law [.list (ns.map PyData.int)] = .ok (.bool true) := by
  have z4 : (4 : Nat) ≤ sizeLine := by decide
  have z3 : (3 : Nat) ≤ sizeLine := by decide
  obtain ⟨A, w1, e1, hA, p1⟩ := alm_ok ⟨ns, 0, 3001, 0⟩ (by simp)
  have hH := hA.h
  have hT := hA.t
  have hS := hA.s
  have hF := hA.f
  let sl : Option Rv → Option Rv → Option Rv → Option Rv → List (Option Rv) := fun a3 a4 a5 a6 => [some (.dat (.list (ns.map PyData.int))), some (.own 0), some (.dat A.d), a3, a4, a5, a6, none, none]
  obtain ⟨en', f1, w2, junk, a3, a4, a5, a6, rfl, p2⟩ := forM_inv (h := setM 3) (G := (sq (bnd (fCallR F__law_story (fVar 1) (fCons (fVar 2) (fCons (fC (.int 40)) fNil))) (asg (setM 4)))
  (sq (bnd (fNot (fB (fCall (F__law_alike 8) (fCons (fCall F_readings (fCons (fVar 2) (fCons (fVar 4) fNil))) (fCons (fCall F__law_read (fCons (fVar 2) (fCons (fVar 4) fNil))) fNil))))) fun k => if k = true then (bnd (fC (.bool false)) fun r => ret (.ret r)) else (ret .nx))
  (sq (bnd (fCallR F__law_taken (fVar 1) (fCons (fC (.int 90)) fNil)) (asg (setM 5)))
  (sq (bnd (fLst (fCons (fCall F__law_shut (fCons (fVar 2) (fCons (fVar 5) fNil))) (fCons (fCall F__law_open (fCons (fVar 2) (fCons (fVar 5) fNil))) (fCons (fCall F__law_shut (fCons (fVar 2) (fCons (f2 addG (fVar 5) (f2 ixG (fVar 2) (fC (.int 4)))) fNil))) fNil)))) (asg (setM 6)))
  (bnd (fNot (fB (fCall (F__law_alike 8) (fCons (fLst (fCons (fCall F_shut (fCons (fVar 2) (fCons (fVar 5) fNil))) (fCons (fCall F_opened (fCons (fVar 2) (fCons (fVar 5) fNil))) (fCons (fCall F_urgent (fCons (fVar 2) (fCons (fVar 5) fNil))) fNil)))) (fCons (fVar 6) fNil))))) fun k => if k = true then (bnd (fC (.bool false)) fun r => ret (.ret r)) else (ret .nx))))))) (upI 0 3)
    (fun i en => ∃ (w : Rw) (junk : List Oc) (a3 a4 a5 a6 : Option Rv), en = ⟨sl a3 a4 a5 a6, .lst (w.l.map Rv.dat) :: junk⟩ ∧ 0 ≤ w.p)
    (fun i hi en ⟨w, junk, a3, a4, a5, a6, he, hp⟩ => by
      subst he
      obtain ⟨S, w2, e2, hSt, p2, _⟩ := story_ok A hA w hp 40 (by omega) (by omega)
      obtain ⟨x, w3, e3, b3, c3, p3⟩ := taken_ok w2 p2 90 (by omega) (by omega)
      have r1 := readings_ok A hA S hSt
      have r2 := law_read_ok A hA S hSt
      have al := alike_ok 7 _ (ints_plain 6 (reads A S) (by have := hSt.n; simp [reads]; omega)).1
      have s1 := law_shut_ok A hA x
      have s2 := law_open_ok A hA x
      have s3 := law_shut_ok A hA (x + A.T)
      have t1 := shut_ok A hA x b3 (by omega)
      have t2 := opened_ok A hA x b3 (by omega)
      have t3 := urgent_ok A hA x b3 (by omega)
      generalize hv1 : (if (x - 1 - A.L) / A.H + 1 > 0 then (x - 1 - A.L) / A.H + 1 else 0) = v1 at s1 t1
      generalize hv2 : (if (x - A.F) / A.H + 1 > 0 then (x - A.F) / A.H + 1 else 0) = v2 at s2 t2
      generalize hv3 : (if (x + A.T - 1 - A.L) / A.H + 1 > 0 then (x + A.T - 1 - A.L) / A.H + 1 else 0) = v3 at s3 t3
      have al2 : F__law_alike 8 [.list [.int v1, .int v2, .int v3], .list [.int v1, .int v2, .int v3]] = .ok (.bool true) := alike_ok 7 _ (ints_plain 6 [v1, v2, v3] (by simp)).2
      have ixT : ∀ en : En, en.sl[2]? = some (some (.dat A.d)) → (f2 ixG (fVar 2) (fC (.int 4))) en = .ok (.dat (.int A.T)) en := fun en he => by
        simp [-List.map_map, -List.map_take, runR, runD, sq, bnd, fB, f2, fVar, fC, ret, app2, app1, peek, ixG, atI, ixN, cmpG, toB, dats, dats_map, slots0, List.replicate, fN, fCons, fNil, appN, peeks, intG, modG, divG, asg, setM, setIx, frz, rowOf, addG, addI, subG, mul_c, powG, lenG, fCallR, frzAll, callRM, fCall, callM, fAnd, fOr, fNot, vAnd, vOr, vNot, fCh, isiG, tyN, fTup, tupM, fLst, lstM, newL, fL, appL, lstG, tupG, maxG, tupleG, gCn, gNl, cutM, toI, negM, par2, tupI, rng1I, rng2I, q_int, q_bool, q_nint, q_nbool, kb_ii, kb_ib, kb_bi, kb_bb, kb_ni, kb_nb, kb_si, kb_sb, k_nt, k_nl, k_ns, k_bt, k_bl, k_bs, k_it, k_il, k_is, k_st, k_sl, k_ss, k_tt, k_tl, k_ts, k_ti, k_tb, k_lt, k_ll, k_ls, k_li, k_lb, he, Al.d]
      refine ⟨⟨sl (some (.dat (upI 0 3)[i])) a4 a5 a6, .lst (w.l.map Rv.dat) :: junk⟩, ⟨sl (some (.dat (upI 0 3)[i])) (some (.dat S.d)) (some (.dat (.int x))) (some (.own (junk.length + 1))), .lst (w3.l.map Rv.dat) :: (junk ++ [.fz [.int v1, .int v2, .int v3]] ++ [.fz [.int v1, .int v2, .int v3]])⟩, rfl, ?_, w3, _, _, _, _, _, rfl, p3⟩
      refine sq_to ⟨sl (some (.dat (upI 0 3)[i])) (some (.dat S.d)) a5 a6, .lst (w2.l.map Rv.dat) :: junk⟩ (by simp [sl, -List.map_map, -List.map_take, runR, runD, sq, bnd, fB, f2, fVar, fC, ret, app2, app1, peek, ixG, atI, ixN, cmpG, toB, dats, dats_map, slots0, List.replicate, fN, fCons, fNil, appN, peeks, intG, modG, divG, asg, setM, setIx, frz, rowOf, addG, addI, subG, mul_c, powG, lenG, fCallR, frzAll, callRM, fCall, callM, fAnd, fOr, fNot, vAnd, vOr, vNot, fCh, isiG, tyN, fTup, tupM, fLst, lstM, newL, fL, appL, lstG, tupG, maxG, tupleG, gCn, gNl, cutM, toI, negM, par2, tupI, rng1I, rng2I, q_int, q_bool, q_nint, q_nbool, kb_ii, kb_ib, kb_bi, kb_bb, kb_ni, kb_nb, kb_si, kb_sb, k_nt, k_nl, k_ns, k_bt, k_bl, k_bs, k_it, k_il, k_is, k_st, k_sl, k_ss, k_tt, k_tl, k_ts, k_ti, k_tb, k_lt, k_ll, k_ls, k_li, k_lb, e2]) ?_
      refine sq_to ⟨sl (some (.dat (upI 0 3)[i])) (some (.dat S.d)) a5 a6, .lst (w2.l.map Rv.dat) :: junk⟩ (by simp [sl, -List.map_map, -List.map_take, runR, runD, sq, bnd, fB, f2, fVar, fC, ret, app2, app1, peek, ixG, atI, ixN, cmpG, toB, dats, dats_map, slots0, List.replicate, fN, fCons, fNil, appN, peeks, intG, modG, divG, asg, setM, setIx, frz, rowOf, addG, addI, subG, mul_c, powG, lenG, fCallR, frzAll, callRM, fCall, callM, fAnd, fOr, fNot, vAnd, vOr, vNot, fCh, isiG, tyN, fTup, tupM, fLst, lstM, newL, fL, appL, lstG, tupG, maxG, tupleG, gCn, gNl, cutM, toI, negM, par2, tupI, rng1I, rng2I, q_int, q_bool, q_nint, q_nbool, kb_ii, kb_ib, kb_bi, kb_bb, kb_ni, kb_nb, kb_si, kb_sb, k_nt, k_nl, k_ns, k_bt, k_bl, k_bs, k_it, k_il, k_is, k_st, k_sl, k_ss, k_tt, k_tl, k_ts, k_ti, k_tb, k_lt, k_ll, k_ls, k_li, k_lb, r1, r2, al]) ?_
      refine sq_to ⟨sl (some (.dat (upI 0 3)[i])) (some (.dat S.d)) (some (.dat (.int x))) a6, .lst (w3.l.map Rv.dat) :: junk⟩ (by simp [sl, -List.map_map, -List.map_take, runR, runD, sq, bnd, fB, f2, fVar, fC, ret, app2, app1, peek, ixG, atI, ixN, cmpG, toB, dats, dats_map, slots0, List.replicate, fN, fCons, fNil, appN, peeks, intG, modG, divG, asg, setM, setIx, frz, rowOf, addG, addI, subG, mul_c, powG, lenG, fCallR, frzAll, callRM, fCall, callM, fAnd, fOr, fNot, vAnd, vOr, vNot, fCh, isiG, tyN, fTup, tupM, fLst, lstM, newL, fL, appL, lstG, tupG, maxG, tupleG, gCn, gNl, cutM, toI, negM, par2, tupI, rng1I, rng2I, q_int, q_bool, q_nint, q_nbool, kb_ii, kb_ib, kb_bi, kb_bb, kb_ni, kb_nb, kb_si, kb_sb, k_nt, k_nl, k_ns, k_bt, k_bl, k_bs, k_it, k_il, k_is, k_st, k_sl, k_ss, k_tt, k_tl, k_ts, k_ti, k_tb, k_lt, k_ll, k_ls, k_li, k_lb, e3]) ?_
      refine sq_to ⟨sl (some (.dat (upI 0 3)[i])) (some (.dat S.d)) (some (.dat (.int x))) (some (.own (junk.length + 1))), .lst (w3.l.map Rv.dat) :: (junk ++ [.lst [.dat (.int v1), .dat (.int v2), .dat (.int v3)]])⟩ ?_ ?_
      · refine bnd_to (.own (junk.length + 1)) ⟨sl (some (.dat (upI 0 3)[i])) (some (.dat S.d)) (some (.dat (.int x))) a6, .lst (w3.l.map Rv.dat) :: (junk ++ [.lst [.dat (.int v1), .dat (.int v2), .dat (.int v3)]])⟩ ?_ rfl
        have c1 : (fCall F__law_shut (fCons (fVar 2) (fCons (fVar 5) fNil))) ⟨sl (some (.dat (upI 0 3)[i])) (some (.dat S.d)) (some (.dat (.int x))) a6, .lst (w3.l.map Rv.dat) :: junk⟩ = .ok (.dat (.int v1)) ⟨sl (some (.dat (upI 0 3)[i])) (some (.dat S.d)) (some (.dat (.int x))) a6, .lst (w3.l.map Rv.dat) :: junk⟩ := by
          simp [sl, -List.map_map, -List.map_take, runR, runD, sq, bnd, fB, f2, fVar, fC, ret, app2, app1, peek, ixG, atI, ixN, cmpG, toB, dats, dats_map, slots0, List.replicate, fN, fCons, fNil, appN, peeks, intG, modG, divG, asg, setM, setIx, frz, rowOf, addG, addI, subG, mul_c, powG, lenG, fCallR, frzAll, callRM, fCall, callM, fAnd, fOr, fNot, vAnd, vOr, vNot, fCh, isiG, tyN, fTup, tupM, fLst, lstM, newL, fL, appL, lstG, tupG, maxG, tupleG, gCn, gNl, cutM, toI, negM, par2, tupI, rng1I, rng2I, q_int, q_bool, q_nint, q_nbool, kb_ii, kb_ib, kb_bi, kb_bb, kb_ni, kb_nb, kb_si, kb_sb, k_nt, k_nl, k_ns, k_bt, k_bl, k_bs, k_it, k_il, k_is, k_st, k_sl, k_ss, k_tt, k_tl, k_ts, k_ti, k_tb, k_lt, k_ll, k_ls, k_li, k_lb, s1]
        have c2 : (fCall F__law_open (fCons (fVar 2) (fCons (fVar 5) fNil))) ⟨sl (some (.dat (upI 0 3)[i])) (some (.dat S.d)) (some (.dat (.int x))) a6, .lst (w3.l.map Rv.dat) :: junk⟩ = .ok (.dat (.int v2)) ⟨sl (some (.dat (upI 0 3)[i])) (some (.dat S.d)) (some (.dat (.int x))) a6, .lst (w3.l.map Rv.dat) :: junk⟩ := by
          simp [sl, -List.map_map, -List.map_take, runR, runD, sq, bnd, fB, f2, fVar, fC, ret, app2, app1, peek, ixG, atI, ixN, cmpG, toB, dats, dats_map, slots0, List.replicate, fN, fCons, fNil, appN, peeks, intG, modG, divG, asg, setM, setIx, frz, rowOf, addG, addI, subG, mul_c, powG, lenG, fCallR, frzAll, callRM, fCall, callM, fAnd, fOr, fNot, vAnd, vOr, vNot, fCh, isiG, tyN, fTup, tupM, fLst, lstM, newL, fL, appL, lstG, tupG, maxG, tupleG, gCn, gNl, cutM, toI, negM, par2, tupI, rng1I, rng2I, q_int, q_bool, q_nint, q_nbool, kb_ii, kb_ib, kb_bi, kb_bb, kb_ni, kb_nb, kb_si, kb_sb, k_nt, k_nl, k_ns, k_bt, k_bl, k_bs, k_it, k_il, k_is, k_st, k_sl, k_ss, k_tt, k_tl, k_ts, k_ti, k_tb, k_lt, k_ll, k_ls, k_li, k_lb, s2]
        have c3 : (fCall F__law_shut (fCons (fVar 2) (fCons (f2 addG (fVar 5) (f2 ixG (fVar 2) (fC (.int 4)))) fNil))) ⟨sl (some (.dat (upI 0 3)[i])) (some (.dat S.d)) (some (.dat (.int x))) a6, .lst (w3.l.map Rv.dat) :: junk⟩ = .ok (.dat (.int v3)) ⟨sl (some (.dat (upI 0 3)[i])) (some (.dat S.d)) (some (.dat (.int x))) a6, .lst (w3.l.map Rv.dat) :: junk⟩ := by
          have cT : (f2 addG (fVar 5) (f2 ixG (fVar 2) (fC (.int 4)))) ⟨sl (some (.dat (upI 0 3)[i])) (some (.dat S.d)) (some (.dat (.int x))) a6, .lst (w3.l.map Rv.dat) :: junk⟩ = .ok (.dat (.int (x + A.T))) ⟨sl (some (.dat (upI 0 3)[i])) (some (.dat S.d)) (some (.dat (.int x))) a6, .lst (w3.l.map Rv.dat) :: junk⟩ := by
            rw [f2]
            refine bnd_to (.dat (.int x)) _ rfl ?_
            refine bnd_to _ _ (ixT _ rfl) ?_
            rfl
          unfold fCall fCons
          refine bnd_to [.dat A.d, .dat (.int (x + A.T))] _ (bnd_to (.dat A.d) _ rfl (bnd_to [.dat (.int (x + A.T))] _ (bnd_to _ _ cT rfl) rfl)) ?_
          simp [frzAll, frz, bnd, ret, callM, s3]
        unfold fLst
        refine bnd_to [.dat (.int v1), .dat (.int v2), .dat (.int v3)] ⟨sl (some (.dat (upI 0 3)[i])) (some (.dat S.d)) (some (.dat (.int x))) a6, .lst (w3.l.map Rv.dat) :: junk⟩ ?_ (by simp [lstM, z3, newL])
        exact bnd_to _ _ c1 (bnd_to _ _ (bnd_to _ _ c2 (bnd_to _ _ (bnd_to _ _ c3 rfl) rfl)) rfl)
      · have fr : ∀ (o : List Oc) (x y : Oc), (o ++ [x]).set o.length y = o ++ [y] := fun o x y => by simp
        simp [sl, -List.map_map, -List.map_take, runR, runD, sq, bnd, fB, f2, fVar, fC, ret, app2, app1, peek, ixG, atI, ixN, cmpG, toB, dats, dats_map, slots0, List.replicate, fN, fCons, fNil, appN, peeks, intG, modG, divG, asg, setM, setIx, frz, rowOf, addG, addI, subG, mul_c, powG, lenG, fCallR, frzAll, callRM, fCall, callM, fAnd, fOr, fNot, vAnd, vOr, vNot, fCh, isiG, tyN, fTup, tupM, fLst, lstM, newL, fL, appL, lstG, tupG, maxG, tupleG, gCn, gNl, cutM, toI, negM, par2, tupI, rng1I, rng2I, q_int, q_bool, q_nint, q_nbool, kb_ii, kb_ib, kb_bi, kb_bb, kb_ni, kb_nb, kb_si, kb_sb, k_nt, k_nl, k_ns, k_bt, k_bl, k_bs, k_it, k_il, k_is, k_st, k_sl, k_ss, k_tt, k_tl, k_ts, k_ti, k_tb, k_lt, k_ll, k_ls, k_li, k_lb, t1, t2, t3, z3, al2, fr])
    ⟨sl none none none none, [.lst (w1.l.map Rv.dat)]⟩ ⟨w1, [], _, _, _, _, rfl, p1⟩
  obtain ⟨y, w3, e3, b3, c3, p3⟩ := taken_ok w2 p2 99 (by omega) (by omega)
  have op := opened_ok A hA (1000000000 - y) (by omega) (by omega)
  have ge : (1000000000 - y - A.F) / A.H + 1 > 0 := by
    have := Int.ediv_nonneg (a := 1000000000 - y - A.F) (b := A.H) (by omega) (by omega)
    omega
  rw [if_pos ge] at op
  have hd : (1000000000 - y - A.F - (1000000000 - y - A.F) % A.H) / A.H = (1000000000 - y - A.F) / A.H := by
    have q := Int.mul_ediv_add_emod (1000000000 - y - A.F) A.H
    have e : 1000000000 - y - A.F - (1000000000 - y - A.F) % A.H = A.H * ((1000000000 - y - A.F) / A.H) := by omega
    rw [e]
    exact Int.mul_ediv_cancel_left _ (by omega)
  have h0 : 0 < A.H := by omega
  have h1 : A.H < 1073741824 := by omega
  refine runD_ok rfl (e := ⟨[some (.dat (.list (ns.map PyData.int))), some (.own 0), some (.dat A.d), a3, a4, a5, a6, some (.dat (.int (1000000000 - y))), some (.dat (.int (1000000000 - y - A.F)))], .lst (w3.l.map Rv.dat) :: junk⟩) ?_
  unfold G_law
  refine sq_to ⟨[some (.dat (.list (ns.map PyData.int))), some (.own 0), none, none, none, none, none, none, none], [.lst (Rw.l ⟨ns, 0, 3001, 0⟩ |>.map Rv.dat)]⟩ (by simp [-List.map_map, -List.map_take, runR, runD, sq, bnd, fB, f2, fVar, fC, ret, app2, app1, peek, ixG, atI, ixN, cmpG, toB, dats, dats_map, slots0, List.replicate, fN, fCons, fNil, appN, peeks, intG, modG, divG, asg, setM, setIx, frz, rowOf, addG, addI, subG, mul_c, powG, lenG, fCallR, frzAll, callRM, fCall, callM, fAnd, fOr, fNot, vAnd, vOr, vNot, fCh, isiG, tyN, fTup, tupM, fLst, lstM, newL, fL, appL, lstG, tupG, maxG, tupleG, gCn, gNl, cutM, toI, negM, par2, tupI, rng1I, rng2I, q_int, q_bool, q_nint, q_nbool, kb_ii, kb_ib, kb_bi, kb_bb, kb_ni, kb_nb, kb_si, kb_sb, k_nt, k_nl, k_ns, k_bt, k_bl, k_bs, k_it, k_il, k_is, k_st, k_sl, k_ss, k_tt, k_tl, k_ts, k_ti, k_tb, k_lt, k_ll, k_ls, k_li, k_lb, Rw.l, z4]) ?_
  refine sq_to ⟨sl none none none none, [.lst (w1.l.map Rv.dat)]⟩ (by simp [sl, -List.map_map, -List.map_take, runR, runD, sq, bnd, fB, f2, fVar, fC, ret, app2, app1, peek, ixG, atI, ixN, cmpG, toB, dats, dats_map, slots0, List.replicate, fN, fCons, fNil, appN, peeks, intG, modG, divG, asg, setM, setIx, frz, rowOf, addG, addI, subG, mul_c, powG, lenG, fCallR, frzAll, callRM, fCall, callM, fAnd, fOr, fNot, vAnd, vOr, vNot, fCh, isiG, tyN, fTup, tupM, fLst, lstM, newL, fL, appL, lstG, tupG, maxG, tupleG, gCn, gNl, cutM, toI, negM, par2, tupI, rng1I, rng2I, q_int, q_bool, q_nint, q_nbool, kb_ii, kb_ib, kb_bi, kb_bb, kb_ni, kb_nb, kb_si, kb_sb, k_nt, k_nl, k_ns, k_bt, k_bl, k_bs, k_it, k_il, k_is, k_st, k_sl, k_ss, k_tt, k_tl, k_ts, k_ti, k_tb, k_lt, k_ll, k_ls, k_li, k_lb, e1]) ?_
  refine sq_to _ (bnd_to (upI 0 3) ⟨sl none none none none, [.lst (w1.l.map Rv.dat)]⟩ (bnd_to [.dat (.int ((3 : Nat) : Int))] _ rfl (rng1_ok 3 (by decide) _)) f1) ?_
  refine sq_to ⟨[some (.dat (.list (ns.map PyData.int))), some (.own 0), some (.dat A.d), a3, a4, a5, a6, some (.dat (.int (1000000000 - y))), none], .lst (w3.l.map Rv.dat) :: junk⟩ (by simp [sl, -List.map_map, -List.map_take, runR, runD, sq, bnd, fB, f2, fVar, fC, ret, app2, app1, peek, ixG, atI, ixN, cmpG, toB, dats, dats_map, slots0, List.replicate, fN, fCons, fNil, appN, peeks, intG, modG, divG, asg, setM, setIx, frz, rowOf, addG, addI, subG, mul_c, powG, lenG, fCallR, frzAll, callRM, fCall, callM, fAnd, fOr, fNot, vAnd, vOr, vNot, fCh, isiG, tyN, fTup, tupM, fLst, lstM, newL, fL, appL, lstG, tupG, maxG, tupleG, gCn, gNl, cutM, toI, negM, par2, tupI, rng1I, rng2I, q_int, q_bool, q_nint, q_nbool, kb_ii, kb_ib, kb_bi, kb_bb, kb_ni, kb_nb, kb_si, kb_sb, k_nt, k_nl, k_ns, k_bt, k_bl, k_bs, k_it, k_il, k_is, k_st, k_sl, k_ss, k_tt, k_tl, k_ts, k_ti, k_tb, k_lt, k_ll, k_ls, k_li, k_lb, e3]) ?_
  refine sq_to ⟨[some (.dat (.list (ns.map PyData.int))), some (.own 0), some (.dat A.d), a3, a4, a5, a6, some (.dat (.int (1000000000 - y))), some (.dat (.int (1000000000 - y - A.F)))], .lst (w3.l.map Rv.dat) :: junk⟩ (by simp [sl, Al.d, -List.map_map, -List.map_take, runR, runD, sq, bnd, fB, f2, fVar, fC, ret, app2, app1, peek, ixG, atI, ixN, cmpG, toB, dats, dats_map, slots0, List.replicate, fN, fCons, fNil, appN, peeks, intG, modG, divG, asg, setM, setIx, frz, rowOf, addG, addI, subG, mul_c, powG, lenG, fCallR, frzAll, callRM, fCall, callM, fAnd, fOr, fNot, vAnd, vOr, vNot, fCh, isiG, tyN, fTup, tupM, fLst, lstM, newL, fL, appL, lstG, tupG, maxG, tupleG, gCn, gNl, cutM, toI, negM, par2, tupI, rng1I, rng2I, q_int, q_bool, q_nint, q_nbool, kb_ii, kb_ib, kb_bi, kb_bb, kb_ni, kb_nb, kb_si, kb_sb, k_nt, k_nl, k_ns, k_bt, k_bl, k_bs, k_it, k_il, k_is, k_st, k_sl, k_ss, k_tt, k_tl, k_ts, k_ti, k_tb, k_lt, k_ll, k_ls, k_li, k_lb]) ?_
  have op' := op
  unfold Al.d at op'
  simp [Al.d, -List.map_map, -List.map_take, runR, runD, sq, bnd, fB, f2, fVar, fC, ret, app2, app1, peek, ixG, atI, ixN, cmpG, toB, dats, dats_map, slots0, List.replicate, fN, fCons, fNil, appN, peeks, intG, modG, divG, asg, setM, setIx, frz, rowOf, addG, addI, subG, mul_c, powG, lenG, fCallR, frzAll, callRM, fCall, callM, fAnd, fOr, fNot, vAnd, vOr, vNot, fCh, isiG, tyN, fTup, tupM, fLst, lstM, newL, fL, appL, lstG, tupG, maxG, tupleG, gCn, gNl, cutM, toI, negM, par2, tupI, rng1I, rng2I, q_int, q_bool, q_nint, q_nbool, kb_ii, kb_ib, kb_bi, kb_bb, kb_ni, kb_nb, kb_si, kb_sb, k_nt, k_nl, k_ns, k_bt, k_bl, k_bs, k_it, k_il, k_is, k_st, k_sl, k_ss, k_tt, k_tl, k_ts, k_ti, k_tb, k_lt, k_ll, k_ls, k_li, k_lb, op', h0, h1, hd]
end Pd

namespace Pd
open PySem PySem.Spec PyProof.Rows L2
def dd (n : Str) (i : Nat) : He.DefD := ⟨(n, none), n, n, defArgs (top i), defBody (top i), defScope (top i), [], []⟩
def fn : List He.DefD := ([dd "is_number" 13, dd "are_settings" 14, dd "need_almanac" 15, dd "shut_by" 16, dd "opened_by" 17, dd "urgent_at" 18, dd "are_wakings" 19, dd "are_sets" 20, dd "is_story" 21, dd "read_at" 22, dd "readings" 23, dd "need_hour" 24] : List He.DefD) ++ ([dd "shut" 25, dd "opened" 26, dd "urgent" 27, dd "_law_taken" 29, dd "_law_almanac" 30, dd "_law_pick" 31, dd "_law_story" 32, dd "_law_alike" 33, dd "_law_read" 34, dd "_law_shut" 35, dd "_law_open" 36, dd "law" 37] : List He.DefD)
def fa : List He.Fa := ([.glo "is_number", .glo "are_settings", .glo "need_almanac", .glo "shut_by", .glo "opened_by", .glo "urgent_at", .glo "are_wakings", .glo "are_sets", .glo "is_story", .glo "read_at", .glo "readings", .glo "need_hour"] : List He.Fa) ++ ([.glo "shut", .glo "opened", .glo "urgent", .glo "_law_taken", .glo "_law_almanac", .glo "_law_pick", .glo "_law_story", .glo "_law_alike", .glo "_law_read", .glo "_law_shut", .glo "_law_open", .glo "law"] : List He.Fa) ++ ([.free "all", .free "bool", .free "int", .free "isinstance", .free "len", .free "list", .free "max", .free "range", .free "str", .free "sum", .free "tuple", .free "zip"] : List He.Fa) ++ ([.int "LEAST_HOURS" 2, .int "MOST_HOUR" 1000000000, .int "MOST_HOURS" 12, .int "MOST_LATE" 24, .int "MOST_REST" 12, .int "MOST_SETTINGS" 4, .int "MOST_WAKINGS" 60] : List He.Fa)
def tf : List He.Defn := ([("are_settings", none)] : List He.Defn)
abbrev rowR : PySem.W.OpenRow := PySem.W.OpenLaw.row PySem.Challenge.rw_wrongclock_k01_whole_almanacs
abbrev hookR : PySem.W.Hook := He.hookX 5 fa fn [] tf (fun _ => true)
def obR (s : PySem.W.SharedT) : He.AlX := He.obsX 5 fa fn [] tf (fun _ => true) (HandSHeadRun.getT s)
theorem obR_eq (s : PySem.W.SharedT) : obR s = hookR.obs s.abs := He.obsX_eq (HandSHeadRun.getT_eq s)
def looseR : List PySem.Str := (["ClockworkError", "BadAlmanac", "BadHour", "BadStory", "LEAST_HOURS", "MOST_HOURS", "MOST_LATE", "MOST_SETTINGS", "MOST_REST", "MOST_HOUR", "MOST_WAKINGS", "is_number"] : List PySem.Str) ++ (["are_settings", "need_almanac", "shut_by", "opened_by", "urgent_at", "are_wakings", "are_sets", "is_story", "read_at", "readings", "need_hour", "shut"] : List PySem.Str) ++ (["opened", "urgent", "_law_taken", "_law_almanac", "_law_pick", "_law_story", "_law_alike", "_law_read", "_law_shut", "_law_open"] : List PySem.Str)
theorem runR_head (w : World) : HandSHeadRun.RunEq rowR (PySem.W.view rowR.prog [37]) hookR obR 4000 looseR w := by
  intro os
  kernel_rfl
def TTof (K : PySem.W.Frag) : Addr → Prop := fun P => P ∈ (tf.map (He.cT K)).map (·.2)
theorem law_at {w : World} {K : PySem.W.Frag} {h : Heap} {mg : Str → Option Value} {f : Addr} (X : K.In h) (G : h.Ns mainGlobals mg) (hfa : mg ("law" : Str) = some (.ref f)) (c : He.SaysX fa fn [] tf (fun _ => true) w h K) :
    LamX.LawAtS PySem.Challenge.rw_wrongclock_k01_whole_almanacs w K (L2.CX (PySem.Challenge.rw_wrongclock_k01_whole_almanacs).prog w) 10 63 "_law_script" mg f h := by
  obtain ⟨fd_is_number, h_is_number⟩ := c.t.d.def_ 0 (d := dd "is_number" 13) rfl
  obtain ⟨fd_are_settings, h_are_settings⟩ := c.t.d.def_ 1 (d := dd "are_settings" 14) rfl
  obtain ⟨fd_need_almanac, h_need_almanac⟩ := c.t.d.def_ 2 (d := dd "need_almanac" 15) rfl
  obtain ⟨fd_shut_by, h_shut_by⟩ := c.t.d.def_ 3 (d := dd "shut_by" 16) rfl
  obtain ⟨fd_opened_by, h_opened_by⟩ := c.t.d.def_ 4 (d := dd "opened_by" 17) rfl
  obtain ⟨fd_urgent_at, h_urgent_at⟩ := c.t.d.def_ 5 (d := dd "urgent_at" 18) rfl
  obtain ⟨fd_are_wakings, h_are_wakings⟩ := c.t.d.def_ 6 (d := dd "are_wakings" 19) rfl
  obtain ⟨fd_are_sets, h_are_sets⟩ := c.t.d.def_ 7 (d := dd "are_sets" 20) rfl
  obtain ⟨fd_is_story, h_is_story⟩ := c.t.d.def_ 8 (d := dd "is_story" 21) rfl
  obtain ⟨fd_read_at, h_read_at⟩ := c.t.d.def_ 9 (d := dd "read_at" 22) rfl
  obtain ⟨fd_readings, h_readings⟩ := c.t.d.def_ 10 (d := dd "readings" 23) rfl
  obtain ⟨fd_need_hour, h_need_hour⟩ := c.t.d.def_ 11 (d := dd "need_hour" 24) rfl
  obtain ⟨fd_shut, h_shut⟩ := c.t.d.def_ 12 (d := dd "shut" 25) rfl
  obtain ⟨fd_opened, h_opened⟩ := c.t.d.def_ 13 (d := dd "opened" 26) rfl
  obtain ⟨fd_urgent, h_urgent⟩ := c.t.d.def_ 14 (d := dd "urgent" 27) rfl
  obtain ⟨fd__law_taken, h__law_taken⟩ := c.t.d.def_ 15 (d := dd "_law_taken" 29) rfl
  obtain ⟨fd__law_almanac, h__law_almanac⟩ := c.t.d.def_ 16 (d := dd "_law_almanac" 30) rfl
  obtain ⟨fd__law_pick, h__law_pick⟩ := c.t.d.def_ 17 (d := dd "_law_pick" 31) rfl
  obtain ⟨fd__law_story, h__law_story⟩ := c.t.d.def_ 18 (d := dd "_law_story" 32) rfl
  obtain ⟨fd__law_alike, h__law_alike⟩ := c.t.d.def_ 19 (d := dd "_law_alike" 33) rfl
  obtain ⟨fd__law_read, h__law_read⟩ := c.t.d.def_ 20 (d := dd "_law_read" 34) rfl
  obtain ⟨fd__law_shut, h__law_shut⟩ := c.t.d.def_ 21 (d := dd "_law_shut" 35) rfl
  obtain ⟨fd__law_open, h__law_open⟩ := c.t.d.def_ 22 (d := dd "_law_open" 36) rfl
  obtain ⟨fd_law, h_law⟩ := c.t.d.def_ 23 (d := dd "law" 37) rfl
  have e := hfa.symm.trans (He.glo_ok X G (c.t.d.fact 23 (f := .glo "law") rfl))
  cases e
  refine ⟨fd_law, tf.map (He.cT K), spD K (TTof K) F_law, fun p hp => ?_, fun p hp => ?_, fun p hp => ?_, fun s u => FunD.bindsA (ps := ["_law_script"]) h_law (fun _ _ _ _ _ _ us hl => match us, hl with | [_], _ => rfl) s [u] rfl, fun H a ns _ _ hH hS => law_start (fun P hP => ?_) hS (law_ok ns), fun base XB GB TB => ?_⟩
  · obtain ⟨q, hq, rfl⟩ := List.mem_map.mp hp
    exact c.empty q hq
  · obtain ⟨q, hq, rfl⟩ := List.mem_map.mp hp
    exact c.out q hq
  · obtain ⟨q, hq, rfl⟩ := List.mem_map.mp hp
    exact PySem.W.codeHd_of_K X (c.hd q hq)
  · obtain ⟨p, hp, rfl⟩ := List.mem_map.mp hP
    exact hH p hp
  · exact ok_law (TT := TTof K) ({
      fd_is_number := fd_is_number
      F_is_number := h_is_number
      m_is_number := He.glo_ok XB GB (c.t.d.fact 0 (f := .glo "is_number") rfl)
      fd_are_settings := fd_are_settings
      F_are_settings := h_are_settings
      m_are_settings := He.glo_ok XB GB (c.t.d.fact 1 (f := .glo "are_settings") rfl)
      fd_need_almanac := fd_need_almanac
      F_need_almanac := h_need_almanac
      m_need_almanac := He.glo_ok XB GB (c.t.d.fact 2 (f := .glo "need_almanac") rfl)
      fd_shut_by := fd_shut_by
      F_shut_by := h_shut_by
      m_shut_by := He.glo_ok XB GB (c.t.d.fact 3 (f := .glo "shut_by") rfl)
      fd_opened_by := fd_opened_by
      F_opened_by := h_opened_by
      m_opened_by := He.glo_ok XB GB (c.t.d.fact 4 (f := .glo "opened_by") rfl)
      fd_urgent_at := fd_urgent_at
      F_urgent_at := h_urgent_at
      m_urgent_at := He.glo_ok XB GB (c.t.d.fact 5 (f := .glo "urgent_at") rfl)
      fd_are_wakings := fd_are_wakings
      F_are_wakings := h_are_wakings
      m_are_wakings := He.glo_ok XB GB (c.t.d.fact 6 (f := .glo "are_wakings") rfl)
      fd_are_sets := fd_are_sets
      F_are_sets := h_are_sets
      m_are_sets := He.glo_ok XB GB (c.t.d.fact 7 (f := .glo "are_sets") rfl)
      fd_is_story := fd_is_story
      F_is_story := h_is_story
      m_is_story := He.glo_ok XB GB (c.t.d.fact 8 (f := .glo "is_story") rfl)
      fd_read_at := fd_read_at
      F_read_at := h_read_at
      m_read_at := He.glo_ok XB GB (c.t.d.fact 9 (f := .glo "read_at") rfl)
      fd_readings := fd_readings
      F_readings := h_readings
      m_readings := He.glo_ok XB GB (c.t.d.fact 10 (f := .glo "readings") rfl)
      fd_need_hour := fd_need_hour
      F_need_hour := h_need_hour
      m_need_hour := He.glo_ok XB GB (c.t.d.fact 11 (f := .glo "need_hour") rfl)
      fd_shut := fd_shut
      F_shut := h_shut
      m_shut := He.glo_ok XB GB (c.t.d.fact 12 (f := .glo "shut") rfl)
      fd_opened := fd_opened
      F_opened := h_opened
      m_opened := He.glo_ok XB GB (c.t.d.fact 13 (f := .glo "opened") rfl)
      fd_urgent := fd_urgent
      F_urgent := h_urgent
      m_urgent := He.glo_ok XB GB (c.t.d.fact 14 (f := .glo "urgent") rfl)
      fd__law_taken := fd__law_taken
      F__law_taken := h__law_taken
      m__law_taken := He.glo_ok XB GB (c.t.d.fact 15 (f := .glo "_law_taken") rfl)
      fd__law_almanac := fd__law_almanac
      F__law_almanac := h__law_almanac
      m__law_almanac := He.glo_ok XB GB (c.t.d.fact 16 (f := .glo "_law_almanac") rfl)
      fd__law_pick := fd__law_pick
      F__law_pick := h__law_pick
      m__law_pick := He.glo_ok XB GB (c.t.d.fact 17 (f := .glo "_law_pick") rfl)
      fd__law_story := fd__law_story
      F__law_story := h__law_story
      m__law_story := He.glo_ok XB GB (c.t.d.fact 18 (f := .glo "_law_story") rfl)
      fd__law_alike := fd__law_alike
      F__law_alike := h__law_alike
      m__law_alike := He.glo_ok XB GB (c.t.d.fact 19 (f := .glo "_law_alike") rfl)
      fd__law_read := fd__law_read
      F__law_read := h__law_read
      m__law_read := He.glo_ok XB GB (c.t.d.fact 20 (f := .glo "_law_read") rfl)
      fd__law_shut := fd__law_shut
      F__law_shut := h__law_shut
      m__law_shut := He.glo_ok XB GB (c.t.d.fact 21 (f := .glo "_law_shut") rfl)
      fd__law_open := fd__law_open
      F__law_open := h__law_open
      m__law_open := He.glo_ok XB GB (c.t.d.fact 22 (f := .glo "_law_open") rfl)
      fd_law := fd_law
      F_law := h_law
      m_law := He.glo_ok XB GB (c.t.d.fact 23 (f := .glo "law") rfl)
      n_all := He.free_ok XB GB (c.t.d.fact 24 (f := .free "all") rfl)
      n_bool := He.free_ok XB GB (c.t.d.fact 25 (f := .free "bool") rfl)
      n_int := He.free_ok XB GB (c.t.d.fact 26 (f := .free "int") rfl)
      n_isinstance := He.free_ok XB GB (c.t.d.fact 27 (f := .free "isinstance") rfl)
      n_len := He.free_ok XB GB (c.t.d.fact 28 (f := .free "len") rfl)
      n_list := He.free_ok XB GB (c.t.d.fact 29 (f := .free "list") rfl)
      n_max := He.free_ok XB GB (c.t.d.fact 30 (f := .free "max") rfl)
      n_range := He.free_ok XB GB (c.t.d.fact 31 (f := .free "range") rfl)
      n_str := He.free_ok XB GB (c.t.d.fact 32 (f := .free "str") rfl)
      n_sum := He.free_ok XB GB (c.t.d.fact 33 (f := .free "sum") rfl)
      n_tuple := He.free_ok XB GB (c.t.d.fact 34 (f := .free "tuple") rfl)
      n_zip := He.free_ok XB GB (c.t.d.fact 35 (f := .free "zip") rfl)
      i_LEAST_HOURS := He.int_ok XB GB (c.t.d.fact 36 (f := .int "LEAST_HOURS" 2) rfl)
      i_MOST_HOUR := He.int_ok XB GB (c.t.d.fact 37 (f := .int "MOST_HOUR" 1000000000) rfl)
      i_MOST_HOURS := He.int_ok XB GB (c.t.d.fact 38 (f := .int "MOST_HOURS" 12) rfl)
      i_MOST_LATE := He.int_ok XB GB (c.t.d.fact 39 (f := .int "MOST_LATE" 24) rfl)
      i_MOST_REST := He.int_ok XB GB (c.t.d.fact 40 (f := .int "MOST_REST" 12) rfl)
      i_MOST_SETTINGS := He.int_ok XB GB (c.t.d.fact 41 (f := .int "MOST_SETTINGS" 4) rfl)
      i_MOST_WAKINGS := He.int_ok XB GB (c.t.d.fact 42 (f := .int "MOST_WAKINGS" 60) rfl)
      c_are_settings := code_cT h_are_settings
      T_are_settings := tabB_of (TB (He.cT K ("are_settings", none)) (List.mem_map.mpr ⟨("are_settings", none), by simp [tf], rfl⟩))
      t_are_settings := List.mem_map.mpr ⟨He.cT K ("are_settings", none), List.mem_map.mpr ⟨("are_settings", none), by simp [tf], rfl⟩, rfl⟩ } : Fs K mg base (TTof K))
end Pd
open PySem PySem.W PySem.Calls PyProof.Rows
theorem PySem.Challenge.cw_wrongclock_k01_whole_almanacs_holds : PySem.Challenge.rw_wrongclock_k01_whole_almanacs.Holds := by
  w_on; o_law
  refine HandSHeadRun.head_any (r := OpenLaw.row PySem.Challenge.rw_wrongclock_k01_whole_almanacs) (q := view (OpenLaw.row PySem.Challenge.rw_wrongclock_k01_whole_almanacs).prog [37]) (H := Pd.hookR) (ob := Pd.obR) (M := 4000) (loose := Pd.looseR) (d := HandSHeadRun.topDef (OpenLaw.row PySem.Challenge.rw_wrongclock_k01_whole_almanacs).prog 37) (kwd := []) Pd.obR_eq
    (by kernel_rfl) (fun s => by kernel_rfl) Pd.runR_head (by kernel_rfl) (by kernel_rfl) (by kernel_rfl) (by rfl) (by first | assumption | decide +kernel) (by decide +kernel) ⟨rfl, rfl, rfl, rfl, rfl, by decide +kernel⟩ ?hw ?hc
  case hw => w_witness2
  case hc =>
    refine LamX.walk_ofTsE (l := PySem.Challenge.rw_wrongclock_k01_whole_almanacs) (n := 63) (k := 10) (x := "_law_script") (CX := fun w => L2.CX (PySem.Challenge.rw_wrongclock_k01_whole_almanacs).prog w) rfl (by decide) (by kernel_rfl) ⟨rfl, by decide, by decide⟩ ?F (fun _ _ _ _ _ z => Pd.no_cx z)
    intro w mg fa h Y G hmg0
    obtain ⟨K, KX, c⟩ := Y
    have hmg : mg ("law" : PySem.Str) = some (.ref fa) := by
      have e : (HandSHeadRun.topDef (OpenLaw.row PySem.Challenge.rw_wrongclock_k01_whole_almanacs).prog 37).name = ("law" : PySem.Str) := by kernel_rfl
      rw [← e]
      exact hmg0
    exact ⟨K, KX, Pd.law_at KX G hmg c⟩

