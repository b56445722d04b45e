import PyProof.Rows.All
import Wide.All
import OpenK.AllK
import Wide.FinOn
import HandS.ForMost
import HandS.ForExc
import HandS.CallSlots
import HandS.Lambda
import HandS.TupAny
import HandS.TupMul
import HandS.Style
import HandS.IsInst
import HandS.Wide
import HandS.Zip
import HandS.ExcInit
import KE.KExcSuper
import KE.KExcIs
import HandS.ExcField
import HandS.ExcIs
import HandS.Codes
import HandS.ExcValue
import KE.KDflt
import HandS.Deep
import PyProof.InstNe
import HandS.OwnEq
import HandS.SetFor
import HandS.Strs
import HandS.Star
import KE.KDictZip
import PyProof.TupleOfGen
import HandS.Iter
import HandS.Defaults
import HandS.MakeKw
import HandS.MakeKwOnly
import PyProof.ReprRoads
import HandS.EndTab
import HandS.Head0
import HandS.Head1
import HandS.Head2
import HandS.HeadEnd
import HandS.HeadHook1
import HandS.HeadHook2
import HandS.HeadHook3
import HandS.HeadHook4
import HandS.HeadWalk
import KE.KStateDown
import KE.KNestM
import PySem.Challenge.RW_movesenough_k09_prices_step_by_step
set_option Elab.async false
set_option linter.all false
set_option maxRecDepth 100000
set_option autoImplicit false
namespace DE
open PySem PySem.Spec PyProof.Rows L2

/-- the own classes' addresses; the tables of code objects, with the names of what they tell -/
structure Cfg where
  ct : Str → Option Addr
  T : List (Addr × Str)
instance : CoeFun Cfg (fun _ => Str → Option Addr) := ⟨Cfg.ct⟩
/-- data: what values of the program are, without addresses -/
inductive D where
  | non | bl (b : Bool) | int (i : Int) | str (s : Str)
  | tup (ds : List D) | lst (ds : List D)
  | scr (ns : List Int)
  | ins (C : Str) (fs : List (Str × D))
  | ref (n : Nat)
  | exc (C : Str) (fs : List (Str × D))
  | adr (a : Addr)
  | dct
  | ty (n : String)
  | cls (C : Str)
  | lam (f c : Addr) (q : Str) (env : List (Option D)) (σ : List (Option V))

/-- what a live (changing) place holds -/
inductive Cell where
  | lst (ds : List D)
  | ins (C : Str) (fs : List (Str × D))

abbrev Store := List (Option Cell)
abbrev DEnv := List (Option D)
structure Ex where
  cls : Str
  fs : List (Str × D)
inductive Out (α : Type) where
  | ok (a : α) (S : Store)
  | ex (x : Ex) (S : Store)
abbrev Ev (α : Type) := Option (Out α)
abbrev C (α : Type) := DEnv → Store → Ev α

def ret {α : Type} (a : α) (S : Store) : Ev α := some (.ok a S)
def bindO {α β : Type} (o : Ev α) (k : α → Store → Ev β) : Ev β :=
  match o with
  | some (.ok a S) => k a S
  | some (.ex x S) => some (.ex x S)
  | none => none

/-- an exception object that was caught -/
def XO (cls : Value) (d : Option Addr) (a : Addr) : HO := .ext fun h => ∃ (oe : Obj) (vs : Array Value), h.get? a = some oe ∧ Zc cls d oe ∧ oe.data = .fields vs
section
variable (K : PySem.W.Frag) (CT : Cfg)
mutual
/-- the value v is the data d, told by the part F of the heap that doesn't change any more, and the places mm of what lives -/
def Rep (F : Hp) (mm : List Addr) : D → V → Prop
  | .non, v => v = .non
  | .bl b, v => v = .bl b
  | .int i, v => v = .int i
  | .str s, v => v = .str s
  | .tup ds, v => ∃ a vs, v = .ref a ∧ ds.length ≤ sizeLine ∧ SqT K F a vs ∧ Reps F mm ds vs
  | .lst ds, v => ∃ a vs, v = .ref a ∧ ds.length ≤ sizeLine ∧ F a = some (.lst vs) ∧ Reps F mm ds vs
  | .scr ns, v => ∃ a, v = .ref a ∧ SqL K F a (ns.map V.int)
  | .ins C fs, v => ∃ a Ca dx fvs, v = .ref a ∧ CT C = some Ca ∧ F a = some (.ins Ca dx fvs) ∧ RepF F mm fs fvs
  | .ref n, v => ∃ a, mm[n]? = some a ∧ v = .ref a
  | .exc C fs, v => ∃ a Ca, v = .ref a ∧ CT C = some Ca ∧ ((fs = [] ∧ F a = some (XO (.ref Ca) none a)) ∨ ∃ dd fvs, F a = some (XO (.ref Ca) (some dd) a) ∧ F dd = some (.xd fvs) ∧ RepF F mm fs fvs)
  | .adr a, v => v = .ref a
  | .dct, v => ∃ a kvs, v = .ref a ∧ F a = some (.dK kvs)
  | .ty n, v => v = .ty n
  | .cls C, v => ∃ Ca, v = .ref Ca ∧ CT C = some Ca
  | .lam f c q env σ, v => v = .ref f ∧ F c = some (LamX.CodeO c q) ∧ RepN F mm env σ
def RepN (F : Hp) (mm : List Addr) : List (Option D) → List (Option V) → Prop
  | [], σ => σ = []
  | none :: os, σ => ∃ v r, σ = v :: r ∧ RepN F mm os r
  | some d :: os, σ => ∃ v r, σ = some v :: r ∧ Rep F mm d v ∧ RepN F mm os r
def Reps (F : Hp) (mm : List Addr) : List D → List V → Prop
  | [], vs => vs = []
  | d :: ds, vs => ∃ v r, vs = v :: r ∧ Rep F mm d v ∧ Reps F mm ds r
def RepF (F : Hp) (mm : List Addr) : List (Str × D) → List (Str × V) → Prop
  | [], vs => vs = []
  | (f, d) :: ds, vs => ∃ v r, vs = (f, v) :: r ∧ Rep F mm d v ∧ RepF F mm ds r
end

def CRep (F : Hp) (mm : List Addr) : Cell → HO → Prop
  | .lst ds, o => ∃ vs, o = .lst vs ∧ Reps K CT F mm ds vs
  | .ins C fs, o => ∃ Ca dx fvs, o = .ins Ca dx fvs ∧ CT C = some Ca ∧ RepF K CT F mm fs fvs

structure Ext (F : Hp) (mm : List Addr) (F' : Hp) (mm' : List Addr) : Prop where
  f : ∀ a o, F a = some o → F' a = some o
  m : ∀ (n : Nat) (a : Addr), mm[n]? = some a → mm'[n]? = some a

def RepE (F : Hp) (mm : List Addr) (ρ : DEnv) (σ : L2.St) : Prop :=
  ρ.length = σ.length ∧ ∀ (i : Nat) (d : D), ρ[i]? = some (some d) → ∃ v, σ[i]? = some (some v) ∧ Rep K CT F mm d v


/-- nothing but a table of code objects changes when a function is made -/
def NoTbl (o : HO) : Prop := ∀ ps, o ≠ .tbl ps
structure Asd where
  X : Hp
def Asd.put (A : Asd) (a : Addr) (o : HO) : Asd := ⟨upd A.X a o⟩
structure Sim (A : Asd) (F : Hp) (mm : List Addr) (S : Store) (H : Hp) : Prop where
  asd : ∀ a o, A.X a = some o → H a = some o ∧ F a = none ∧ a ∉ mm
  fz : ∀ a o, F a = some o → H a = some o
  len : S.length = mm.length
  nd : mm.Nodup
  trk : ∀ a ∈ mm, ∃ o, H a = some o ∧ NoTbl o
  live : ∀ (n : Nat) (c : Cell), S[n]? = some (some c) → ∃ a, mm[n]? = some a ∧ F a = none ∧ ∃ o, H a = some o ∧ CRep K CT F mm c o
  ast : LamX.Tabs CT.T H
  ntx : ∀ a o, A.X a = some o → ∃ vs, o = .lst vs
  nt : ∀ a o, F a = some o → NoTbl o

def XRep (F : Hp) (mm : List Addr) (x : Ex) (cls : Value) (d : Option Addr) (H : Hp) : Prop :=
  ∃ Ca, CT x.cls = some Ca ∧ cls = .ref Ca ∧ ((x.fs = [] ∧ d = none) ∨ ∃ dd fvs, d = some dd ∧ F dd = some (.xd fvs) ∧ RepF K CT F mm x.fs fvs)
end

section
variable {K : PySem.W.Frag} {CT : Cfg} {F F' F'' : Hp} {mm mm' mm'' : List Addr}
theorem Ext.refl : Ext F mm F mm := ⟨fun _ _ h => h, fun _ _ h => h⟩
theorem Ext.trans (a : Ext F mm F' mm') (b : Ext F' mm' F'' mm'') : Ext F mm F'' mm'' := ⟨fun c o h => b.f c o (a.f c o h), fun n c h => b.m n c (a.m n c h)⟩
theorem Ext.rd (e : Ext F mm F' mm') {a : Addr} {u : HO} (h : Rd F a u) : Rd F' a u := by
  rcases h with h | ⟨o, h⟩
  · exact .inl (e.f _ _ h)
  · exact .inr ⟨o, e.f _ _ h⟩
theorem Ext.sql (e : Ext F mm F' mm') {a : Addr} {xs : List V} (h : SqL K F a xs) : SqL K F' a xs := by
  rcases h with h | h
  · exact .inl (e.rd h)
  · exact .inr h
theorem Ext.sqt (e : Ext F mm F' mm') {a : Addr} {xs : List V} (h : SqT K F a xs) : SqT K F' a xs := by
  rcases h with h | h
  · exact .inl (e.rd h)
  · exact .inr h
mutual
theorem Rep.ext (e : Ext F mm F' mm') : ∀ {d : D} {v : V}, Rep K CT F mm d v → Rep K CT F' mm' d v
  | .non, _, h => h
  | .bl _, _, h => h
  | .int _, _, h => h
  | .str _, _, h => h
  | .tup ds, _, ⟨a, vs, h1, h2, h3, h4⟩ => ⟨a, vs, h1, h2, e.sqt h3, Reps.ext e (ds := ds) h4⟩
  | .lst ds, _, ⟨a, vs, h1, h2, h3, h4⟩ => ⟨a, vs, h1, h2, e.f _ _ h3, Reps.ext e (ds := ds) h4⟩
  | .scr ns, _, ⟨a, h1, h2⟩ => ⟨a, h1, e.sql h2⟩
  | .ins C fs, _, ⟨a, Ca, dx, fvs, h1, h2, h3, h4⟩ => ⟨a, Ca, dx, fvs, h1, h2, e.f _ _ h3, RepF.ext e (fs := fs) h4⟩
  | .ref n, _, ⟨a, h1, h2⟩ => ⟨a, e.m _ _ h1, h2⟩
  | .exc C fs, _, ⟨a, Ca, h1, h2, h3⟩ => ⟨a, Ca, h1, h2, match h3 with
    | .inl ⟨h4, h5⟩ => .inl ⟨h4, e.f _ _ h5⟩
    | .inr ⟨dd, fvs, h4, h5, h6⟩ => .inr ⟨dd, fvs, e.f _ _ h4, e.f _ _ h5, RepF.ext e (fs := fs) h6⟩⟩
  | .adr a, _, h => h
  | .dct, _, ⟨a, kvs, h1, h2⟩ => ⟨a, kvs, h1, e.f _ _ h2⟩
  | .ty n, _, h => h
  | .cls C, _, h => h
  | .lam f c q env σ, _, ⟨h1, h2, h3⟩ => ⟨h1, e.f _ _ h2, RepN.ext e (os := env) h3⟩
theorem RepN.ext (e : Ext F mm F' mm') : ∀ {os : List (Option D)} {vs : List (Option V)}, RepN K CT F mm os vs → RepN K CT F' mm' os vs
  | [], _, h => h
  | none :: os, _, ⟨v, r, h1, h2⟩ => ⟨v, r, h1, RepN.ext e (os := os) h2⟩
  | some d :: os, _, ⟨v, r, h1, h2, h3⟩ => ⟨v, r, h1, Rep.ext e (d := d) h2, RepN.ext e (os := os) h3⟩
theorem Reps.ext (e : Ext F mm F' mm') : ∀ {ds : List D} {vs : List V}, Reps K CT F mm ds vs → Reps K CT F' mm' ds vs
  | [], _, h => h
  | d :: ds, _, ⟨v, r, h1, h2, h3⟩ => ⟨v, r, h1, Rep.ext e (d := d) h2, Reps.ext e (ds := ds) h3⟩
theorem RepF.ext (e : Ext F mm F' mm') : ∀ {fs : List (Str × D)} {vs : List (Str × V)}, RepF K CT F mm fs vs → RepF K CT F' mm' fs vs
  | [], _, h => h
  | (f, d) :: ds, _, ⟨v, r, h1, h2, h3⟩ => ⟨v, r, h1, Rep.ext e (d := d) h2, RepF.ext e (fs := ds) h3⟩
end
theorem CRep.ext (e : Ext F mm F' mm') {c : Cell} {o : HO} (h : CRep K CT F mm c o) : CRep K CT F' mm' c o := by
  cases c with
  | lst ds => obtain ⟨vs, h1, h2⟩ := h; exact ⟨vs, h1, Reps.ext e h2⟩
  | ins C fs => obtain ⟨Ca, dx, fvs, h1, h2, h3⟩ := h; exact ⟨Ca, dx, fvs, h1, h2, RepF.ext e h3⟩
theorem RepE.ext (e : Ext F mm F' mm') {ρ : DEnv} {σ : L2.St} (h : RepE K CT F mm ρ σ) : RepE K CT F' mm' ρ σ :=
  ⟨h.1, fun i d q => let ⟨v, a, b⟩ := h.2 i d q; ⟨v, a, Rep.ext e b⟩⟩

/-- what is kept when all but lists and instances stays -/
def KeepN (H H' : Hp) : Prop := ∀ b u, H b = some u → (∀ vs, u ≠ .lst vs) → (∀ C dx fs, u ≠ .ins C dx fs) → H' b = some u
theorem tabs_keep {T : List (Addr × Str)} {H H' : Hp} (h : LamX.Tabs T H) (k : KeepN H H') : LamX.Tabs T H' := by
  have kc : ∀ a q, H a = some (LamX.CodeO a q) → H' a = some (LamX.CodeO a q) := fun a q x => k _ _ x (fun vs z => by unfold LamX.CodeO at z; cases z) (fun _ _ _ z => by unfold LamX.CodeO at z; cases z)
  intro p hp
  obtain ⟨ps, h1, h2, h3⟩ := h p hp
  refine ⟨ps, k _ _ h1 (fun _ z => nomatch z) (fun _ _ _ z => nomatch z), h2, fun pos cv hc => ?_⟩
  obtain ⟨c, e1, e2⟩ := h3 pos cv hc
  exact ⟨c, e1, kc _ _ e2⟩
theorem keepN_refl {H : Hp} : KeepN H H := fun _ _ h _ _ => h
theorem keepN_new {H : Hp} {a : Addr} {o : HO} (h : H a = none) : KeepN H (upd H a o) := fun b u e _ _ => by rw [upd_ne (ne_of_none e h)]; exact e
theorem keepN_lst {H : Hp} {a : Addr} {o : HO} {vs : List V} (h : H a = some (.lst vs)) : KeepN H (upd H a o) := fun b u e n _ => by
  by_cases hb : b = a
  · subst hb; rw [h] at e; exact absurd (Option.some.inj e).symm (n vs)
  · rw [upd_ne hb]; exact e
theorem keepN_ins {H : Hp} {a C dx : Addr} {o : HO} {fs : List (Str × V)} (h : H a = some (.ins C dx fs)) : KeepN H (upd H a o) := fun b u e _ n => by
  by_cases hb : b = a
  · subst hb; rw [h] at e; exact absurd (Option.some.inj e).symm (n C dx fs)
  · rw [upd_ne hb]; exact e
theorem keepN_cell {H : Hp} {a : Addr} {o u : HO} {c : Cell} (h : H a = some u) (r : CRep K CT F mm c u) : KeepN H (upd H a o) := by
  cases c with
  | lst ds => obtain ⟨vs, rfl, _⟩ := r; exact keepN_lst h
  | ins C fs => obtain ⟨Ca, dx, fvs, rfl, _⟩ := r; exact keepN_ins h
theorem CRep.nt {c : Cell} {u : HO} (r : CRep K CT F mm c u) : NoTbl u := by
  cases c with
  | lst ds => obtain ⟨vs, rfl, _⟩ := r; exact fun _ z => nomatch z
  | ins C fs => obtain ⟨Ca, dx, fvs, rfl, _⟩ := r; exact fun _ z => nomatch z

theorem RepN.to : ∀ {os : DEnv} {vs : L2.St}, RepN K CT F mm os vs → RepE K CT F mm os vs
  | [], _, h => by rw [show _ = ([] : List (Option V)) from h]; exact ⟨rfl, fun i d q => by simp at q⟩
  | none :: os, _, ⟨v, r, h1, h2⟩ => by
    obtain ⟨l, g⟩ := RepN.to h2
    rw [h1]
    refine ⟨by simp [l], fun i d q => ?_⟩
    cases i with
    | zero => simp at q
    | succ i => obtain ⟨u, a, b⟩ := g i d (by simpa using q); exact ⟨u, by simpa using a, b⟩
  | some d0 :: os, _, ⟨v, r, h1, h2, h3⟩ => by
    obtain ⟨l, g⟩ := RepN.to h3
    rw [h1]
    refine ⟨by simp [l], fun i d q => ?_⟩
    cases i with
    | zero => simp at q; subst q; exact ⟨v, by simp, h2⟩
    | succ i => obtain ⟨u, a, b⟩ := g i d (by simpa using q); exact ⟨u, by simpa using a, b⟩
theorem RepE.toN : ∀ {os : DEnv} {vs : L2.St}, RepE K CT F mm os vs → RepN K CT F mm os vs
  | [], vs, h => List.eq_nil_of_length_eq_zero (by rw [← h.1]; rfl)
  | o :: os, [], h => by have := h.1; simp at this
  | o :: os, v :: vs, h => by
    have ht : RepE K CT F mm os vs := ⟨by have := h.1; simpa using this, fun i d q => by obtain ⟨u, a, b⟩ := h.2 (i + 1) d (by simpa using q); exact ⟨u, by simpa using a, b⟩⟩
    have ih := RepE.toN ht
    cases o with
    | none => exact ⟨v, vs, rfl, ih⟩
    | some d =>
      obtain ⟨u, a, b⟩ := h.2 0 d (by simp)
      simp at a
      subst a
      exact ⟨u, vs, rfl, b, ih⟩
theorem Reps.length {ds : List D} {vs : List V} (h : Reps K CT F mm ds vs) : ds.length = vs.length := by
  induction ds generalizing vs with
  | nil => rw [show vs = [] from h]; rfl
  | cons d ds ih => obtain ⟨v, r, rfl, _, h⟩ := h; simp [ih h]
theorem Reps.get {ds : List D} {vs : List V} {i : Nat} {d : D} (h : Reps K CT F mm ds vs) (e : ds[i]? = some d) : ∃ v, vs[i]? = some v ∧ Rep K CT F mm d v := by
  induction ds generalizing vs i with
  | nil => simp at e
  | cons d' ds ih =>
    obtain ⟨v, r, rfl, h1, h⟩ := h
    cases i with
    | zero => simp at e; subst e; exact ⟨v, by simp, h1⟩
    | succ i => obtain ⟨w, a, b⟩ := ih h (i := i) (by simpa using e); exact ⟨w, by simpa using a, b⟩
theorem Reps.get' {ds : List D} {vs : List V} {i : Nat} {v : V} (h : Reps K CT F mm ds vs) (e : vs[i]? = some v) : ∃ d, ds[i]? = some d ∧ Rep K CT F mm d v := by
  have hl := h.length
  have hi : i < ds.length := by rw [hl]; exact (List.getElem?_eq_some_iff.mp e).1
  obtain ⟨w, a, b⟩ := h.get (List.getElem?_eq_getElem hi)
  rw [e] at a; cases a
  exact ⟨_, List.getElem?_eq_getElem hi, b⟩
theorem Reps.append {ds es : List D} {vs us : List V} (h : Reps K CT F mm ds vs) (g : Reps K CT F mm es us) : Reps K CT F mm (ds ++ es) (vs ++ us) := by
  induction ds generalizing vs with
  | nil => rw [show vs = [] from h]; exact g
  | cons d ds ih => obtain ⟨v, r, rfl, h1, h⟩ := h; exact ⟨v, r ++ us, rfl, h1, ih h⟩
theorem Reps.take {ds : List D} {vs : List V} (n : Nat) (h : Reps K CT F mm ds vs) : Reps K CT F mm (ds.take n) (vs.take n) := by
  induction ds generalizing vs n with
  | nil => rw [show vs = [] from h]; simp; rfl
  | cons d ds ih =>
    obtain ⟨v, r, rfl, h1, h⟩ := h
    cases n with
    | zero => rfl
    | succ n => exact ⟨v, r.take n, rfl, h1, ih n h⟩
theorem Reps.drop {ds : List D} {vs : List V} (n : Nat) (h : Reps K CT F mm ds vs) : Reps K CT F mm (ds.drop n) (vs.drop n) := by
  induction ds generalizing vs n with
  | nil => rw [show vs = [] from h]; simp; rfl
  | cons d ds ih =>
    obtain ⟨v, r, rfl, h1, h⟩ := h
    cases n with
    | zero => exact ⟨v, r, rfl, h1, h⟩
    | succ n => exact ih n h
theorem Reps.reverse {ds : List D} {vs : List V} (h : Reps K CT F mm ds vs) : Reps K CT F mm ds.reverse vs.reverse := by
  induction ds generalizing vs with
  | nil => rw [show vs = [] from h]; rfl
  | cons d ds ih =>
    obtain ⟨v, r, rfl, h1, h⟩ := h
    rw [List.reverse_cons, List.reverse_cons]
    exact (ih h).append ⟨v, [], rfl, h1, rfl⟩
theorem Reps.set {ds : List D} {vs : List V} {d : D} {v : V} (i : Nat) (h : Reps K CT F mm ds vs) (g : Rep K CT F mm d v) : Reps K CT F mm (ds.set i d) (vs.set i v) := by
  induction ds generalizing vs i with
  | nil => rw [show vs = [] from h]; rfl
  | cons d' ds ih =>
    obtain ⟨w, r, rfl, h1, h⟩ := h
    cases i with
    | zero => exact ⟨v, r, rfl, g, h⟩
    | succ i => exact ⟨w, r.set i v, rfl, h1, ih i h⟩
theorem RepF.lookup {fs : List (Str × D)} {vs : List (Str × V)} {f : Str} {d : D} (h : RepF K CT F mm fs vs) (e : fs.lookup f = some d) : ∃ v, vs.lookup f = some v ∧ Rep K CT F mm d v := by
  induction fs generalizing vs with
  | nil => simp at e
  | cons p fs ih =>
    obtain ⟨g, d'⟩ := p
    obtain ⟨v, r, rfl, h1, h⟩ := h
    by_cases q : f = g
    · subst q; simp at e; subst e; exact ⟨v, by simp, h1⟩
    · have q' : (f == g) = false := by simpa using q
      simp only [List.lookup, q'] at e ⊢
      exact ih h e
end
end DE

set_option Elab.async false
set_option linter.all false
set_option maxRecDepth 100000
set_option autoImplicit false
namespace DE
open PySem PySem.Spec PyProof.Rows L2

section
variable {K : PySem.W.Frag} {CT : Cfg}
/-- what an outcome asks of what follows -/
def Run {α β : Type} (K : PySem.W.Frag) (CT : Cfg) (A : Asd) (W : WX) (σ : L2.St) (R : Asd → Hp → List Addr → Hp → α → β → Prop) (o : Ev α) (F : Hp) (mm : List Addr) (Q : β → Hp → Prop) : Prop :=
  match o with
  | some (.ok a S') => ∀ (F' : Hp) (mm' : List Addr) (H' : Hp) (b : β), Ext F mm F' mm' → Sim K CT A F' mm' S' H' → R A F' mm' H' a b → Q b H'
  | some (.ex x S') => ∀ (F' : Hp) (mm' : List Addr) (H' : Hp) (cls : Value) (d : Option Addr), Ext F mm F' mm' → Sim K CT A F' mm' S' H' → XRep K CT F' mm' x cls d H' → W cls d σ H'
  | none => False
/-- the reading of a computation c -/
def tG {α β : Type} (K : PySem.W.Frag) (CT : Cfg) (W : WX) (R : Asd → Hp → List Addr → Hp → α → β → Prop) (c : C α) : L2.St → Hp → (β → Hp → Prop) → Prop := fun σ H Q =>
  ∃ A F mm S ρ, Sim K CT A F mm S H ∧ RepE K CT F mm ρ σ ∧ Run K CT A W σ R (c ρ S) F mm Q
abbrev RD (K : PySem.W.Frag) (CT : Cfg) : Asd → Hp → List Addr → Hp → D → V → Prop := fun _ F mm _ d v => Rep K CT F mm d v
abbrev RL (K : PySem.W.Frag) (CT : Cfg) : Asd → Hp → List Addr → Hp → List D → List V → Prop := fun _ F mm _ d v => Reps K CT F mm d v
abbrev RB : Asd → Hp → List Addr → Hp → Bool → Bool → Prop := fun _ _ _ _ a b => a = b
abbrev tD (K : PySem.W.Frag) (CT : Cfg) (W : WX) (c : C D) : TE := tG K CT W (RD K CT) c
abbrev tB (K : PySem.W.Frag) (CT : Cfg) (W : WX) (c : C Bool) : TT := tG K CT W RB c
abbrev tL (K : PySem.W.Frag) (CT : Cfg) (W : WX) (c : C (List D)) : TA := tG K CT W (RL K CT) c

variable {W : WX} {σ : L2.St} {H : Hp} {A : Asd} {F F' : Hp} {mm mm' : List Addr} {S : Store} {ρ : DEnv}
theorem Run.mono {α β : Type} {R : Asd → Hp → List Addr → Hp → α → β → Prop} {o : Ev α} {Q Q' : β → Hp → Prop} (h : Run K CT A W σ R o F mm Q) (q : ∀ b H, Q b H → Q' b H) : Run K CT A W σ R o F mm Q' := by
  match o, h with
  | some (.ok a S'), h => exact fun F' mm' H' b e s r => q _ _ (h F' mm' H' b e s r)
  | some (.ex x S'), h => exact h
theorem Run.ext {α β : Type} {R : Asd → Hp → List Addr → Hp → α → β → Prop} {o : Ev α} {Q : β → Hp → Prop} (h : Run K CT A W σ R o F mm Q) (e : Ext F mm F' mm') : Run K CT A W σ R o F' mm' Q := by
  match o, h with
  | some (.ok a S'), h => exact fun F2 mm2 H' b e' s r => h F2 mm2 H' b (e.trans e') s r
  | some (.ex x S'), h => exact fun F2 mm2 H' c d e' s r => h F2 mm2 H' c d (e.trans e') s r
/-- the first of two steps -/
theorem Run.bind {α β α' β' : Type} {R : Asd → Hp → List Addr → Hp → α → β → Prop} {R' : Asd → Hp → List Addr → Hp → α' → β' → Prop} {o : Ev α'} {k : α' → Store → Ev α} {Q : β → Hp → Prop} (h : Run K CT A W σ R (bindO o k) F mm Q) :
    Run K CT A W σ R' o F mm (fun b' H' => ∃ F' mm' a S', Ext F mm F' mm' ∧ Sim K CT A F' mm' S' H' ∧ R' A F' mm' H' a b' ∧ Run K CT A W σ R (k a S') F' mm' Q) := by
  match o, h with
  | some (.ok a S'), h => exact fun F' mm' H' b e s r => ⟨F', mm', a, S', e, s, r, Run.ext (o := k a S') h e⟩
  | some (.ex x S'), h => exact h
theorem tG.mono {α β : Type} {R : Asd → Hp → List Addr → Hp → α → β → Prop} {c : C α} {Q Q' : β → Hp → Prop} (h : tG K CT W R c σ H Q) (q : ∀ b H, Q b H → Q' b H) : tG K CT W R c σ H Q' := by
  obtain ⟨A, F, mm, S, ρ, h1, h2, h3⟩ := h
  exact ⟨A, F, mm, S, ρ, h1, h2, h3.mono q⟩
/-- two steps, one behind another -/
def thenC {α β : Type} (c : C α) (k : DEnv → α → Store → Ev β) : C β := fun ρ S => bindO (c ρ S) (k ρ)
theorem tG.step {α β α' β' : Type} {R : Asd → Hp → List Addr → Hp → α → β → Prop} {R' : Asd → Hp → List Addr → Hp → α' → β' → Prop} {c : C α'} {k : DEnv → α' → Store → Ev α} {Q : β → Hp → Prop} (h : tG K CT W R (thenC c k) σ H Q) :
    tG K CT W R' c σ H (fun b' H' => ∃ A F mm S ρ a, Sim K CT A F mm S H' ∧ RepE K CT F mm ρ σ ∧ R' A F mm H' a b' ∧ Run K CT A W σ R (k ρ a S) F mm Q) := by
  obtain ⟨A, F, mm, S, ρ, h1, h2, h3⟩ := h
  refine ⟨A, F, mm, S, ρ, h1, h2, ?_⟩
  refine Run.mono (Run.bind (R' := R') h3) fun b' H' ⟨F', mm', a, S', e, s, r, h⟩ => ⟨A, F', mm', S', ρ, a, s, h2.ext e, r, h⟩
theorem _root_.L2.PE.weak {X : Cx} {e : Expr} {t t' : TE} (h : PE X e t) (f : ∀ σ H Q, t' σ H Q → t σ H Q) : PE X e t' := ⟨fun pins s σ H Q I hw => h.run pins s σ H Q I (f σ H Q hw)⟩
theorem _root_.L2.PT.weak {X : Cx} {e : Expr} {t t' : TT} (h : PT X e t) (f : ∀ σ H Q, t' σ H Q → t σ H Q) : PT X e t' := ⟨fun pins s σ H Q I hw => h.run pins s σ H Q I (f σ H Q hw)⟩
theorem _root_.L2.PW.weak {X : Cx} {e : Expr} {t t' : TT} (h : PW X e t) (f : ∀ σ H Q, t' σ H Q → t σ H Q) : PW X e t' := ⟨fun wh pins s σ H Q I hw => h.run wh pins s σ H Q I (f σ H Q hw)⟩
theorem _root_.L2.PA.weak {X : Cx} {e : List Expr} {t t' : TA} (h : PA X e t) (f : ∀ σ H Q, t' σ H Q → t σ H Q) : PA X e t' := ⟨fun p pins s σ H Q I hw => h.run p pins s σ H Q I (f σ H Q hw)⟩
theorem _root_.L2.PS.weak {X : Cx} {e : Stmt} {t t' : TS} (h : PS X e t) (f : ∀ D σ H, t' D σ H → t D σ H) : PS X e t' := ⟨fun pins s σ H Q I hw => h.run pins s σ H Q I (f Q σ H hw)⟩
theorem _root_.L2.PSs.weak {X : Cx} {e : List Stmt} {t t' : TS} (h : PSs X e t) (f : ∀ D σ H, t' D σ H → t D σ H) : PSs X e t' := ⟨fun pins s σ H Q I hw => h.run pins s σ H Q I (f Q σ H hw)⟩

/-! ### constants, names -/
def cK (d : D) : C D := fun _ S => ret d S
def cV (i : Nat) : C D := fun ρ S => match ρ[i]? with
  | some (some d) => ret d S
  | _ => none
theorem tD_K {d : D} {v : V} (r : ∀ F mm, Rep K CT F mm d v) (Q : VK) (h : tD K CT W (cK d) σ H Q) : Q v H := by
  obtain ⟨A, F, mm, S, ρ, h1, h2, h3⟩ := h
  exact h3 F mm H v Ext.refl h1 (r F mm)
end

section
variable {X : Cx} {CT : Cfg} {W : WX}
abbrev DEx (X : Cx) (CT : Cfg) (W : WX) (e : Expr) (c : C D) : Prop := PE X e (tD X.K CT W c)
abbrev DTx (X : Cx) (CT : Cfg) (W : WX) (e : Expr) (c : C Bool) : Prop := PT X e (tB X.K CT W c)
abbrev DWx (X : Cx) (CT : Cfg) (W : WX) (e : Expr) (c : C Bool) : Prop := PW X e (tB X.K CT W c)
abbrev DAx (X : Cx) (CT : Cfg) (W : WX) (es : List Expr) (c : C (List D)) : Prop := PA X es (tL X.K CT W c)
theorem de_int {i : Int} {j pos} : DEx X CT W (.Constant (.int i) j pos) (cK (.int i)) := pe_int.weak fun σ H Q h => tD_K (d := .int i) (v := .int i) (fun _ _ => rfl) Q h
theorem de_bl {b : Bool} {j pos} : DEx X CT W (.Constant (.bool b) j pos) (cK (.bl b)) := pe_bl.weak fun σ H Q h => tD_K (d := .bl b) (v := .bl b) (fun _ _ => rfl) Q h
theorem de_non {j pos} : DEx X CT W (.Constant .none j pos) (cK .non) := pe_non.weak fun σ H Q h => tD_K (d := .non) (v := .non) (fun _ _ => rfl) Q h
theorem de_str {x : Str} {j pos} : DEx X CT W (.Constant (.str x) j pos) (cK (.str x)) := pe_str.weak fun σ H Q h => tD_K (d := .str x) (v := .str x) (fun _ _ => rfl) Q h
theorem de_v (i : Nat) {x : Str} {pos : Pos} (hN : X.N[i]? = some x := by rfl) (hv : Vis X.env.scope x := by first | exact Or.inl rfl | exact Or.inr (Or.inl rfl) | exact Or.inr (Or.inr rfl)) (hd : (x == ("__debug__" : Str)) = false := by decide)
    (hcd : (x == ("__classdict__" : Str)) = false := by decide) : DEx X CT W (.Name x pos) (cV i) := (pe_var hN hv hd hcd).weak fun σ H Q h => by
  obtain ⟨A, F, mm, S, ρ, h1, h2, h3⟩ := h
  unfold cV at h3
  split at h3
  · rename_i d e
    obtain ⟨v, hv, r⟩ := h2.2 i d e
    exact ⟨v, hv, h3 F mm H v Ext.refl h1 r⟩
  · exact h3.elim
/-- a module's constant: an int, a text -/
theorem de_gint {x : Str} {i : Int} {t : Tok} {pos : Pos} (hg : Gl X x) (hm : X.mg x = some (.int i t)) (hd : (x == ("__debug__" : Str)) = false := by decide) : DEx X CT W (.Name x pos) (cK (.int i)) :=
  (pe_glob (v := .int i) hg hm ⟨t, rfl⟩ hd).weak fun σ H Q h => tD_K (d := .int i) (v := .int i) (fun _ _ => rfl) Q h
theorem de_gstr {x s : Str} {t : Tok} {pos : Pos} (hg : Gl X x) (hm : X.mg x = some (.str s t)) (hd : (x == ("__debug__" : Str)) = false := by decide) : DEx X CT W (.Name x pos) (cK (.str s)) :=
  (pe_glob (v := .str s) hg hm ⟨t, rfl⟩ hd).weak fun σ H Q h => tD_K (d := .str s) (v := .str s) (fun _ _ => rfl) Q h

/-! ### operators by values -/
def c2 (k : D → D → Store → Ev D) (a b : C D) : C D := thenC a fun ρ x S => bindO (b ρ S) fun y S => k x y S
def c1 (k : D → Store → Ev D) (a : C D) : C D := thenC a fun _ x S => k x S
/-- an operator's rule by values serves k -/
def V2 (K : PySem.W.Frag) (CT : Cfg) (W : WX) (r : R2) (k : D → D → Store → Ev D) : Prop := ∀ (A : Asd) (F : Hp) (mm : List Addr) (S : Store) (H : Hp) (σ : L2.St) (Q : VK) (x y : D) (v w : V), Sim K CT A F mm S H → Rep K CT F mm x v → Rep K CT F mm y w →
  Run K CT A W σ (RD K CT) (k x y S) F mm Q → r v w H Q
def V1 (K : PySem.W.Frag) (CT : Cfg) (W : WX) (r : V → Hp → VK → Prop) (k : D → Store → Ev D) : Prop := ∀ (A : Asd) (F : Hp) (mm : List Addr) (S : Store) (H : Hp) (σ : L2.St) (Q : VK) (x : D) (v : V), Sim K CT A F mm S H → Rep K CT F mm x v →
  Run K CT A W σ (RD K CT) (k x S) F mm Q → r v H Q
theorem run2 {a b : C D} {r : R2} {k : D → D → Store → Ev D} (hv : V2 X.K CT W r k) (σ : L2.St) (H : Hp) (Q : VK) (h : tD X.K CT W (c2 k a b) σ H Q) : tOp r (tD X.K CT W a) (tD X.K CT W b) σ H Q := by
  refine (tG.step (R' := RD X.K CT) h).mono fun v H1 h => ?_
  obtain ⟨A, F, mm, S, ρ, x, h1, h2, h3, h4⟩ := h
  refine ⟨A, F, mm, S, ρ, h1, h2, ?_⟩
  refine Run.mono (Run.bind (R' := RD X.K CT) h4) fun w H2 h => ?_
  obtain ⟨F', mm', y, S', e, s, r, h⟩ := h
  exact hv A F' mm' S' H2 σ Q x y v w s (h3.ext e) r h
theorem run1 {a : C D} {r : V → Hp → VK → Prop} {k : D → Store → Ev D} (hv : V1 X.K CT W r k) (σ : L2.St) (H : Hp) (Q : VK) (h : tD X.K CT W (c1 k a) σ H Q) : tUn r (tD X.K CT W a) σ H Q := by
  refine (tG.step (R' := RD X.K CT) h).mono fun v H1 h => ?_
  obtain ⟨A, F, mm, S, ρ, x, h1, h2, h3, h4⟩ := h
  exact hv A F mm S H1 σ Q x v h1 h3 h4
theorem de_op {op : Operator} {r : R2} {k : D → D → Store → Ev D} {ea eb : Expr} {a b : C D} {pos : Pos} (ho : OpR X (binaryOp op) r) (hv : V2 X.K CT W r k) (ha : DEx X CT W ea a) (hb : DEx X CT W eb b) : DEx X CT W (.BinOp ea op eb pos) (c2 k a b) :=
  (pe_op ho ha hb).weak fun σ H Q h => run2 hv σ H Q h
theorem de_un {op : UnaryOp} {r : V → Hp → VK → Prop} {k : D → Store → Ev D} {ea : Expr} {a : C D} {pos : Pos} (ho : UnR X (unaryOp op) r) (hv : V1 X.K CT W r k) (ha : DEx X CT W ea a) : DEx X CT W (.UnaryOp op ea pos) (c1 k a) :=
  (pe_un ho ha).weak fun σ H Q h => run1 hv σ H Q h
theorem de_cmp {op : CmpOp} {r : R2} {k : D → D → Store → Ev D} {ea eb : Expr} {a b : C D} {pos : Pos} (ho : OpR X (compareOp op) r) (hv : V2 X.K CT W r k) (ha : DEx X CT W ea a) (hb : DEx X CT W eb b) (hm : behindInMarks op eb = false) : DEx X CT W (.Compare ea [op] [eb] pos) (c2 k a b) :=
  (pe_cmpR ho ha hb hm).weak fun σ H Q h => run2 hv σ H Q h
/-- as a test: the value must be a truth -/
def cT (a : C D) : C Bool := thenC a fun _ x S => match x with
  | .bl b => ret b S
  | _ => none
theorem dt_cmp {op : CmpOp} {r : R2} {k : D → D → Store → Ev D} {ea eb : Expr} {a b : C D} {pos : Pos} (ho : OpR X (compareOp op) r) (hv : V2 X.K CT W r k) (ha : DEx X CT W ea a) (hb : DEx X CT W eb b) (hm : behindInMarks op eb = false) : DTx X CT W (.Compare ea [op] [eb] pos) (cT (c2 k a b)) :=
  (pt_cmpR ho ha hb hm).weak fun σ H Q h => by
    refine run2 hv σ H _ ((tG.step (R' := RD X.K CT) h).mono fun v H1 h => ?_)
    obtain ⟨A, F, mm, S, ρ, x, h1, h2, h3, h4⟩ := h
    split at h4
    · rename_i b
      exact ⟨b, h3, h4 F mm H1 b Ext.refl h1 rfl⟩
    · exact h4.elim
/-- the list at a live place -/
def lstAt (S : Store) (n : Nat) : Option (List D) := match S[n]? with
  | some (some (.lst ds)) => some ds
  | _ => none
theorem lstAt_eq {S : Store} {n : Nat} {ds : List D} (h : lstAt S n = some ds) : S[n]? = some (some (.lst ds)) := by
  unfold lstAt at h
  split at h
  · rename_i q; rw [q, Option.some.inj h]
  · cases h
/-- any value's truth -/
def truthD (S : Store) : D → Option Bool
  | .non => some false
  | .bl b => some b
  | .int i => some (i != 0)
  | .tup ds => some (!ds.isEmpty)
  | .lst ds => some (!ds.isEmpty)
  | .ref n => (lstAt S n).map fun ds => !ds.isEmpty
  | _ => none
def cTr (a : C D) : C Bool := thenC a fun _ x S => match truthD S x with
  | some b => ret b S
  | none => none
theorem Reps.isEmpty {K : PySem.W.Frag} {F : Hp} {mm : List Addr} {ds : List D} {vs : List V} (h : Reps K CT F mm ds vs) : ds.isEmpty = vs.isEmpty := by
  have e := h.length
  cases ds <;> cases vs <;> first | rfl | simp at e
/-- a list at a live place -/
theorem Sim.lst {A : Asd} {F : Hp} {mm : List Addr} {S : Store} {H : Hp} {n : Nat} {ds : List D} {v : V} (s : Sim X.K CT A F mm S H) (r : Rep X.K CT F mm (.ref n) v) (e : S[n]? = some (some (.lst ds))) : ∃ a vs, v = .ref a ∧ mm[n]? = some a ∧ F a = none ∧ H a = some (.lst vs) ∧ Reps X.K CT F mm ds vs := by
  obtain ⟨a, ha, rfl⟩ := r
  obtain ⟨b, hb, hf, o, ho, vs, rfl, q⟩ := s.live n _ e
  rw [ha] at hb; cases hb
  exact ⟨a, vs, rfl, ha, hf, ho, q⟩
theorem dt_tr {ea : Expr} {a : C D} (ha : DEx X CT W ea a) (hs : ∀ whole, isTrue ea X.env whole = (do let v ← whole; standAt ea.pos; holding [v] (truthy v)) := by intro _; rfl) : DTx X CT W ea (cTr a) :=
  (pt_truth ha hs).weak fun σ H Q h => by
    refine (tG.step (R' := RD X.K CT) h).mono fun v H1 h => ?_
    obtain ⟨A, F, mm, S, ρ, x, h1, h2, h3, h4⟩ := h
    split at h4
    · rename_i b e
      refine ⟨b, ?_, h4 F mm H1 b Ext.refl h1 rfl⟩
      cases x with
      | non => rw [show v = .non from h3]; exact (Option.some.inj e).symm
      | bl b => rw [show v = .bl b from h3]; exact (Option.some.inj e).symm
      | int i => rw [show v = .int i from h3]; exact (Option.some.inj e).symm
      | tup ds =>
        obtain ⟨a, vs, rfl, _, h5, h6⟩ := h3
        have e := Option.some.inj e
        rw [h6.isEmpty] at e
        refine .inr (.inl ⟨vs, ?_, e.symm⟩)
        rcases h5 with h5 | h5
        · refine .inl ?_
          rcases h5 with h5 | ⟨o, h5⟩
          · exact .inl (h1.fz _ _ h5)
          · exact .inr ⟨o, h1.fz _ _ h5⟩
        · exact .inr h5
      | lst ds =>
        obtain ⟨a, vs, rfl, _, h5, h6⟩ := h3
        have e := Option.some.inj e
        rw [h6.isEmpty] at e
        exact .inl ⟨vs, .inl (.inl (h1.fz _ _ h5)), e.symm⟩
      | ref n =>
        obtain ⟨ds, q, e⟩ := Option.map_eq_some_iff.mp e
        obtain ⟨a, vs, rfl, _, _, h5, h6⟩ := h1.lst h3 (lstAt_eq q)
        rw [h6.isEmpty] at e
        exact .inl ⟨vs, .inl (.inl h5), e.symm⟩
      | _ => cases e
    · exact h4.elim
end
end DE

set_option Elab.async false
set_option linter.all false
set_option maxRecDepth 100000
set_option autoImplicit false
namespace DE
open PySem PySem.Spec PyProof.Rows L2

/-! ### the heap grows -/
section
variable {K : PySem.W.Frag} {CT : Cfg} {W : WX} {σ : L2.St} {H : Hp} {A : Asd} {F F' : Hp} {mm mm' : List Addr} {S : Store} {ρ : DEnv} {p a : Addr} {o : HO}
theorem Sim.freshA (s : Sim K CT A F mm S H) (h : H p = none) : A.X p = none := by
  cases q : A.X p with
  | none => rfl
  | some o => rw [(s.asd p o q).1] at h; cases h
theorem Sim.fresh (s : Sim K CT A F mm S H) (h : H p = none) : F p = none ∧ p ∉ mm := by
  refine ⟨?_, fun m => ?_⟩
  · cases q : F p with
    | none => rfl
    | some o => rw [s.fz p o q] at h; cases h
  · obtain ⟨o, q, _⟩ := s.trk p m
    rw [q] at h; cases h
theorem Sim.free (s : Sim K CT A F mm S H) (h : H p = none) : Sim K CT A F mm S (upd H p o) := by
  have kp : ∀ b u, H b = some u → upd H p o b = some u := fun b u e => by rw [upd_ne (ne_of_none e h)]; exact e
  refine ⟨fun b u e => ⟨kp b u (s.asd b u e).1, (s.asd b u e).2⟩, fun b u e => kp b u (s.fz b u e), s.len, s.nd, fun b m => ?_, fun n c e => ?_, tabs_keep s.ast (keepN_new h), s.ntx, s.nt⟩
  · obtain ⟨u, q, nt⟩ := s.trk b m
    exact ⟨u, kp b u q, nt⟩
  · obtain ⟨b, h1, h2, u, h3, h4⟩ := s.live n c e
    exact ⟨b, h1, h2, u, kp b u h3, h4⟩
theorem Ext.fix (hF : F a = none) : Ext F mm (upd F a o) mm := ⟨fun b u q => by rw [upd_ne (ne_of_none q hF)]; exact q, fun _ _ q => q⟩
theorem Ext.place : Ext F mm F (mm ++ [a]) := ⟨fun _ _ q => q, fun n b q => by rw [List.getElem?_append_left (List.getElem?_eq_some_iff.mp q).1]; exact q⟩
/-- what stands at a is from now on fixed -/
theorem Sim.fix (s : Sim K CT A F mm S H) (hA : A.X a = none) (hF : F a = none) (hm : a ∉ mm) (ho : H a = some o) (hn : NoTbl o := by intro _ z; cases z) : Sim K CT A (upd F a o) mm S H := by
  have e : Ext F mm (upd F a o) mm := ⟨fun b u q => by rw [upd_ne (ne_of_none q hF)]; exact q, fun _ _ q => q⟩
  refine ⟨fun b u q => ⟨(s.asd b u q).1, by rw [upd_ne (ne_of_none q hA)]; exact (s.asd b u q).2.1, (s.asd b u q).2.2⟩, fun b u q => ?_, s.len, s.nd, s.trk, fun n c q => ?_, tabs_keep s.ast keepN_refl, s.ntx, fun b u q => ?_⟩
  · by_cases hb : b = a
    · subst hb; rw [upd_same] at q; cases q; exact ho
    · rw [upd_ne hb] at q; exact s.fz b u q
  · obtain ⟨b, h1, h2, u, h3, h4⟩ := s.live n c q
    have hb : b ≠ a := fun z => hm (z ▸ List.mem_of_getElem? h1)
    exact ⟨b, h1, by rw [upd_ne hb]; exact h2, u, h3, h4.ext e⟩
  · by_cases hb : b = a
    · subst hb; rw [upd_same] at q; cases q; exact hn
    · rw [upd_ne hb] at q; exact s.nt b u q
/-- what stands at a lives from now on -/
theorem Sim.place {c : Cell} (s : Sim K CT A F mm S H) (hA : A.X a = none) (hF : F a = none) (hm : a ∉ mm) (ho : H a = some o) (hc : CRep K CT F mm c o) : Sim K CT A F (mm ++ [a]) (S ++ [some c]) H := by
  refine ⟨fun b u q => ⟨(s.asd b u q).1, (s.asd b u q).2.1, fun z => by
      rcases List.mem_append.mp z with z | z
      · exact (s.asd b u q).2.2 z
      · rw [List.mem_singleton.mp z, hA] at q; cases q⟩, s.fz, by simp [s.len], ?_, fun b m => ?_, fun n c' q => ?_, tabs_keep s.ast keepN_refl, s.ntx, s.nt⟩
  · rw [List.nodup_append]
    exact ⟨s.nd, (by simp), fun x hx y hy z => by rw [List.mem_singleton] at hy; subst hy; exact hm (z ▸ hx)⟩
  · rcases List.mem_append.mp m with m | m
    · exact s.trk b m
    · rw [List.mem_singleton.mp m]; exact ⟨o, ho, hc.nt⟩
  · by_cases hn : n < S.length
    · rw [List.getElem?_append_left hn] at q
      obtain ⟨b, h1, h2, u, h3, h4⟩ := s.live n c' q
      exact ⟨b, Ext.m (F := F) (F' := F) Ext.place n b h1, h2, u, h3, h4.ext Ext.place⟩
    · rw [List.getElem?_append_right (by omega)] at q
      have e : n - S.length = 0 := by
        have := (List.getElem?_eq_some_iff.mp q).1
        simp at this
        omega
      rw [e] at q
      have q : some (some c) = some (some c') := q
      cases q
      have en : n = mm.length := by rw [← s.len]; omega
      refine ⟨a, ?_, hF, o, ho, hc.ext Ext.place⟩
      rw [en, List.getElem?_append_right (Nat.le_refl _), Nat.sub_self]; rfl
/-- a live place is written -/
theorem Sim.wr {c c0 : Cell} {n : Nat} (s : Sim K CT A F mm S H) (h0 : S[n]? = some (some c0)) (ha : mm[n]? = some a) (hc : CRep K CT F mm c o) : Sim K CT A F mm (S.set n (some c)) (upd H a o) := by
  obtain ⟨b, hb, hF, u, hu, hr⟩ := s.live n c0 h0
  rw [ha] at hb; cases hb
  have hn : n < S.length := (List.getElem?_eq_some_iff.mp h0).1
  refine ⟨fun b v q => ⟨by rw [upd_ne (show b ≠ a from fun z => (s.asd b v q).2.2 (by rw [z]; exact List.mem_of_getElem? ha))]; exact (s.asd b v q).1, (s.asd b v q).2⟩, fun b v q => ?_, by rw [List.length_set]; exact s.len, s.nd, fun b m => ?_, fun k c' q => ?_, tabs_keep s.ast (keepN_cell hu hr), s.ntx, s.nt⟩
  · have hb : b ≠ a := fun z => by rw [z, hF] at q; cases q
    rw [upd_ne hb]; exact s.fz b v q
  · by_cases hb : b = a
    · subst hb; exact ⟨o, upd_same, hc.nt⟩
    · obtain ⟨v, q, nt⟩ := s.trk b m
      exact ⟨v, by rw [upd_ne hb]; exact q, nt⟩
  · by_cases hk : n = k
    · subst hk
      rw [List.getElem?_set_self hn] at q; cases q
      exact ⟨a, ha, hF, o, upd_same, hc⟩
    · rw [List.getElem?_set_ne hk] at q
      obtain ⟨b, h1, h2, v, h3, h4⟩ := s.live k c' q
      have hb : b ≠ a := fun z => by
        subst z
        have hk1 := (List.getElem?_eq_some_iff.mp h1)
        have hn1 := (List.getElem?_eq_some_iff.mp ha)
        obtain ⟨l1, e1⟩ := hk1
        obtain ⟨l2, e2⟩ := hn1
        exact hk ((List.getElem_inj s.nd).mp (e2.trans e1.symm))
      exact ⟨b, h1, h2, v, by rw [upd_ne hb]; exact h3, h4⟩
/-- a live place is forgotten: what stands there is fixed -/
theorem Sim.still {c : Cell} {n : Nat} (s : Sim K CT A F mm S H) (h0 : S[n]? = some (some c)) (ha : mm[n]? = some a) (ho : H a = some o) : Sim K CT A (upd F a o) mm (S.set n none) H ∧ F a = none := by
  obtain ⟨b, hb, hF, u, hu, hr⟩ := s.live n c h0
  rw [ha] at hb; cases hb
  have hn : n < S.length := (List.getElem?_eq_some_iff.mp h0).1
  have e : Ext F mm (upd F a o) mm := Ext.fix hF
  refine ⟨⟨fun b v q => ⟨(s.asd b v q).1, by rw [upd_ne (show b ≠ a from fun z => (s.asd b v q).2.2 (by rw [z]; exact List.mem_of_getElem? ha))]; exact (s.asd b v q).2.1, (s.asd b v q).2.2⟩, fun b v q => ?_, by rw [List.length_set]; exact s.len, s.nd, s.trk, fun k c' q => ?_, tabs_keep s.ast keepN_refl, s.ntx, fun b v q => ?_⟩, hF⟩
  · by_cases hb : b = a
    · subst hb; rw [upd_same] at q; cases q; exact ho
    · rw [upd_ne hb] at q; exact s.fz b v q
  · by_cases hk : n = k
    · subst hk
      rw [List.getElem?_set_self hn] at q; cases q
    · rw [List.getElem?_set_ne hk] at q
      obtain ⟨b, h1, h2, v, h3, h4⟩ := s.live k c' q
      have hb : b ≠ a := fun z => by
        subst z
        obtain ⟨l1, e1⟩ := List.getElem?_eq_some_iff.mp h1
        obtain ⟨l2, e2⟩ := List.getElem?_eq_some_iff.mp ha
        exact hk ((List.getElem_inj s.nd).mp (e2.trans e1.symm))
      exact ⟨b, h1, by rw [upd_ne hb]; exact h2, v, h3, h4.ext e⟩
  · by_cases hb : b = a
    · subst hb; rw [upd_same] at q; cases q
      rw [ho] at hu; cases hu; exact hr.nt
    · rw [upd_ne hb] at q; exact s.nt b v q
theorem Sim.sqt {vs : List V} (s : Sim K CT A F mm S H) (h : SqT K F a vs) : SqT K H a vs := by
  rcases h with (h | ⟨o, h⟩) | h
  · exact .inl (.inl (s.fz _ _ h))
  · exact .inl (.inr ⟨o, s.fz _ _ h⟩)
  · exact .inr h
theorem Sim.sql {vs : List V} (s : Sim K CT A F mm S H) (h : SqL K F a vs) : SqL K H a vs := by
  rcases h with (h | ⟨o, h⟩) | h
  · exact .inl (.inl (s.fz _ _ h))
  · exact .inl (.inr ⟨o, s.fz _ _ h⟩)
  · exact .inr h
/-- a list: fixed or live -/
def lstD (S : Store) : D → Option (List D)
  | .lst ds => some ds
  | .ref n => lstAt S n
  | _ => none
theorem Sim.lstD {d : D} {ds : List D} {v : V} (s : Sim K CT A F mm S H) (h : lstD S d = some ds) (r : Rep K CT F mm d v) : ∃ a vs, v = .ref a ∧ H a = some (.lst vs) ∧ Reps K CT F mm ds vs := by
  cases d with
  | lst es => obtain ⟨a, vs, rfl, _, h1, h2⟩ := r; cases h; exact ⟨a, vs, rfl, s.fz _ _ h1, h2⟩
  | ref n =>
    obtain ⟨a, ha, rfl⟩ := r
    obtain ⟨b, hb, hf, o, ho, vs, rfl, q⟩ := s.live n _ (lstAt_eq h)
    rw [ha] at hb; cases hb
    exact ⟨a, vs, rfl, ho, q⟩
  | _ => cases h
/-- a list or a tuple -/
def seqD (S : Store) : D → Option (List D)
  | .tup ds => some ds
  | d => lstD S d
theorem Sim.seqD {d : D} {ds : List D} {v : V} (s : Sim K CT A F mm S H) (h : seqD S d = some ds) (r : Rep K CT F mm d v) : ∃ a vs, v = .ref a ∧ (SqL K H a vs ∨ SqT K H a vs) ∧ Reps K CT F mm ds vs := by
  have aux : DE.lstD S d = some ds → ∃ a vs, v = .ref a ∧ (SqL K H a vs ∨ SqT K H a vs) ∧ Reps K CT F mm ds vs := fun h => by
    obtain ⟨a, vs, e, h1, h2⟩ := s.lstD h r
    exact ⟨a, vs, e, .inl (.inl (.inl h1)), h2⟩
  cases d with
  | tup es => obtain ⟨a, vs, rfl, _, h1, h2⟩ := r; cases h; exact ⟨a, vs, rfl, .inr (s.sqt h1), h2⟩
  | _ => exact aux h
end

/-! ### a list that is new -/
section
variable {X : Cx} {CT : Cfg} {W : WX}
def RN (K : PySem.W.Frag) (CT : Cfg) : Asd → Hp → List Addr → Hp → List D → V → Prop := fun A F mm H ds v => ∃ a vs, v = .ref a ∧ A.X a = none ∧ F a = none ∧ a ∉ mm ∧ H a = some (.lst vs) ∧ ds.length ≤ sizeLine ∧ Reps K CT F mm ds vs
abbrev DNx (X : Cx) (CT : Cfg) (W : WX) (e : Expr) (c : C (List D)) : Prop := PE X e (tG X.K CT W (RN X.K CT) c)
def cFz (c : C (List D)) : C D := thenC c fun _ ds S => ret (.lst ds) S
def cLv (c : C (List D)) : C D := thenC c fun _ ds S => ret (.ref S.length) (S ++ [some (.lst ds)])
theorem de_fz {e : Expr} {c : C (List D)} (h : DNx X CT W e c) : DEx X CT W e (cFz c) := h.weak fun σ H Q h => by
  refine (tG.step (R' := RN X.K CT) h).mono fun v H1 h => ?_
  obtain ⟨A, F, mm, S, ρ, ds, s, h2, ⟨a, vs, rfl, hA, h3, h4, h5, h6, h7⟩, h8⟩ := h
  exact h8 (upd F a (.lst vs)) mm H1 (.ref a) (Ext.fix h3) (s.fix hA h3 h4 h5) ⟨a, vs, rfl, h6, upd_same, h7.ext (Ext.fix h3)⟩
theorem de_lv {e : Expr} {c : C (List D)} (h : DNx X CT W e c) : DEx X CT W e (cLv c) := h.weak fun σ H Q h => by
  refine (tG.step (R' := RN X.K CT) h).mono fun v H1 h => ?_
  obtain ⟨A, F, mm, S, ρ, ds, s, h2, ⟨a, vs, rfl, hA, h3, h4, h5, h6, h7⟩, h8⟩ := h
  refine h8 F (mm ++ [a]) H1 (.ref a) Ext.place (s.place hA h3 h4 h5 ⟨vs, rfl, h7⟩) ⟨a, ?_, rfl⟩
  rw [s.len, List.getElem?_append_right (Nat.le_refl _), Nat.sub_self]; rfl
/-- a new list laid at a free place -/
theorem Run.new {K : PySem.W.Frag} {σ : L2.St} {A : Asd} {F : Hp} {mm : List Addr} {S : Store} {H : Hp} {Q : VK} {ds : List D} {vs : List V} (h : Run K CT A W σ (RN K CT) (ret ds S) F mm Q) (s : Sim K CT A F mm S H) (hz : ds.length ≤ sizeLine) (r : Reps K CT F mm ds vs) :
    ∀ p, H p = none → Q (.ref p) (upd H p (.lst vs)) := fun p hp =>
  h F mm (upd H p (.lst vs)) (.ref p) Ext.refl (s.free hp) ⟨p, vs, rfl, s.freshA hp, (s.fresh hp).1, (s.fresh hp).2, upd_same, hz, r⟩
/-- a new tuple -/
theorem Run.newT {K : PySem.W.Frag} {σ : L2.St} {A : Asd} {F : Hp} {mm : List Addr} {S : Store} {H : Hp} {Q : VK} {ds : List D} {vs : List V} (h : Run K CT A W σ (RD K CT) (ret (.tup ds) S) F mm Q) (s : Sim K CT A F mm S H) (hz : ds.length ≤ sizeLine) (r : Reps K CT F mm ds vs) :
    ∀ p, H p = none → Q (.ref p) (upd H p (.tup vs)) := fun p hp =>
  h (upd F p (.tup vs)) mm (upd H p (.tup vs)) (.ref p) (Ext.fix (s.fresh hp).1) ((s.free hp).fix (s.freshA hp) (s.fresh hp).1 (s.fresh hp).2 upd_same) ⟨p, vs, rfl, hz, .inl (.inl upd_same), r.ext (Ext.fix (s.fresh hp).1)⟩
theorem Run.now {α β : Type} {K : PySem.W.Frag} {σ : L2.St} {R : Asd → Hp → List Addr → Hp → α → β → Prop} {A : Asd} {F : Hp} {mm : List Addr} {S : Store} {H : Hp} {Q : β → Hp → Prop} {a : α} {b : β} (h : Run K CT A W σ R (ret a S) F mm Q) (s : Sim K CT A F mm S H) (r : R A F mm H a b) : Q b H :=
  h F mm H b Ext.refl s r

/-! ### arguments, displays -/
def cNil : C (List D) := fun _ S => ret [] S
def cCons (a : C D) (r : C (List D)) : C (List D) := thenC a fun ρ d S => bindO (r ρ S) fun ds S => ret (d :: ds) S
theorem da_nil : DAx X CT W [] cNil := pa_nil.weak fun σ H Q h => by
  obtain ⟨A, F, mm, S, ρ, s, h2, h3⟩ := h
  exact h3.now s rfl
theorem da_cons {e : Expr} {es : List Expr} {a : C D} {r : C (List D)} (ha : DEx X CT W e a) (hr : DAx X CT W es r) (hs : starEach (e :: es) X.env = (false, eval e X.env) :: starEach es X.env := by rfl) : DAx X CT W (e :: es) (cCons a r) :=
  (pa_cons ha hr hs).weak fun σ H Q h => by
    refine (tG.step (R' := RD X.K CT) h).mono fun v H1 h => ?_
    obtain ⟨A, F, mm, S, ρ, d, s, h2, h3, h4⟩ := h
    refine ⟨A, F, mm, S, ρ, s, h2, ?_⟩
    refine Run.mono (Run.bind (R' := RL X.K CT) h4) fun vs H2 h => ?_
    obtain ⟨F', mm', ds, S', e, s', r, h⟩ := h
    exact h.now s' ⟨v, vs, rfl, Rep.ext e h3, r⟩
def lineOk (ds : List D) (S : Store) : Ev (List D) := if ds.length ≤ sizeLine then ret ds S else none
def cTupE (c : C (List D)) : C D := thenC c fun _ ds S => if ds.length ≤ sizeLine then ret (.tup ds) S else none
def cLstE (c : C (List D)) : C (List D) := thenC c fun _ ds S => lineOk ds S
theorem de_tup {es : List Expr} {c : C (List D)} {x1 : Nat} {pos : Pos} (h : DAx X CT W es c) : DEx X CT W (.Tuple es x1 pos) (cTupE c) := (pe_tup h).weak fun σ H Q h => by
  refine (tG.step (R' := RL X.K CT) h).mono fun vs H1 h => ?_
  obtain ⟨A, F, mm, S, ρ, ds, s, h2, h3, h4⟩ := h
  have hl := h3.length
  by_cases q : ds.length ≤ sizeLine
  · rw [if_pos q] at h4
    exact ⟨by omega, h4.newT s q h3⟩
  · rw [if_neg q] at h4; exact h4.elim
theorem dn_lst {es : List Expr} {c : C (List D)} {pos : Pos} (h : DAx X CT W es c) : DNx X CT W (.List es pos) (cLstE c) := (pe_lst h).weak fun σ H Q h => by
  refine (tG.step (R' := RL X.K CT) h).mono fun vs H1 h => ?_
  obtain ⟨A, F, mm, S, ρ, ds, s, h2, h3, h4⟩ := h
  have hl := h3.length
  unfold lineOk at h4
  by_cases q : ds.length ≤ sizeLine
  · rw [if_pos q] at h4
    exact ⟨by omega, h4.new s q h3⟩
  · rw [if_neg q] at h4; exact h4.elim
end
end DE

set_option Elab.async false
set_option linter.all false
set_option maxRecDepth 100000
set_option autoImplicit false
namespace DE
open PySem PySem.Spec PyProof.Rows L2

/-! ### data as the library's data -/
mutual
def toPD (S : Store) : D → Option PyData
  | .non => some .none
  | .bl b => some (.bool b)
  | .int i => some (.int i)
  | .str s => some (.str s)
  | .tup ds => (toPDs S ds).map .tuple
  | .lst ds => (toPDs S ds).map .list
  | .scr _ => none
  | .ins _ _ => none
  | .ref _ => none
  | .exc _ _ => none
  | .adr _ => none
  | .dct => none
  | .ty _ => none
  | .cls _ => none
  | .lam _ _ _ _ _ => none
def toPDs (S : Store) : List D → Option (List PyData)
  | [] => some []
  | d :: ds => match toPD S d, toPDs S ds with
    | some p, some ps => some (p :: ps)
    | _, _ => none
end
/-- .. and lists at live places, at the top -/
def toPDr (S : Store) : D → Option PyData
  | .ref n => (lstAt S n).bind fun ds => (toPDs S ds).map .list
  | d => toPD S d
section
variable {K : PySem.W.Frag} {CT : Cfg} {H : Hp} {A : Asd} {F : Hp} {mm : List Addr} {S : Store}
mutual
theorem toPD_Dp (s : Sim K CT A F mm S H) : ∀ (d : D) (v : V) (p : PyData), Rep K CT F mm d v → toPD S d = some p → Dp K H v p
  | .non, _, _, r, e => by cases e; rw [show _ = V.non from r]; exact .non
  | .bl b, _, _, r, e => by cases e; rw [show _ = V.bl b from r]; exact .bl b
  | .int i, _, _, r, e => by cases e; rw [show _ = V.int i from r]; exact .int i
  | .str x, _, _, r, e => by cases e; rw [show _ = V.str x from r]; exact .str x
  | .tup ds, _, _, ⟨a, vs, h1, _, h2, h3⟩, e => by
    obtain ⟨ps, e1, rfl⟩ := Option.map_eq_some_iff.mp (show (toPDs S ds).map PyData.tuple = some _ from e)
    rw [h1]
    exact .tup (s.sqt h2) (toPDs_Dp s ds vs ps h3 e1)
  | .lst ds, _, _, ⟨a, vs, h1, _, h2, h3⟩, e => by
    obtain ⟨ps, e1, rfl⟩ := Option.map_eq_some_iff.mp (show (toPDs S ds).map PyData.list = some _ from e)
    rw [h1]
    exact .lst (.inl (.inl (s.fz _ _ h2))) (toPDs_Dp s ds vs ps h3 e1)
  | .scr _, _, _, _, e => by cases e
  | .ins _ _, _, _, _, e => by cases e
  | .ref _, _, _, _, e => by cases e
  | .exc _ _, _, _, _, e => by cases e
  | .adr _, _, _, _, e => by cases e
  | .dct, _, _, _, e => by cases e
  | .ty _, _, _, _, e => by cases e
  | .cls _, _, _, _, e => by cases e
  | .lam _ _ _ _ _, _, _, _, e => by cases e
theorem toPDs_Dp (s : Sim K CT A F mm S H) : ∀ (ds : List D) (vs : List V) (ps : List PyData), Reps K CT F mm ds vs → toPDs S ds = some ps → DpAll K H vs ps
  | [], _, _, r, e => by cases e; rw [show _ = ([] : List V) from r]; exact .nil
  | d :: ds, _, _, ⟨v, r, h1, h2, h3⟩, e => by
    unfold toPDs at e
    split at e
    · rename_i p ps e1 e2
      cases e
      rw [h1]
      exact .cons (toPD_Dp s d v p h2 e1) (toPDs_Dp s ds r ps h3 e2)
    · cases e
end
theorem toPDr_Dp (s : Sim K CT A F mm S H) {d : D} {v : V} {p : PyData} (r : Rep K CT F mm d v) (e : toPDr S d = some p) : Dp K H v p := by
  cases d with
  | ref n =>
    obtain ⟨ds, q, e⟩ := Option.bind_eq_some_iff.mp (show ((lstAt S n).bind fun ds => (toPDs S ds).map PyData.list) = some p from e)
    obtain ⟨ps, e1, rfl⟩ := Option.map_eq_some_iff.mp e
    obtain ⟨a, vs, rfl, h1, h2⟩ := s.lstD (d := .ref n) q r
    exact .lst (.inl (.inl h1)) (toPDs_Dp s ds vs ps h2 e1)
  | _ => exact toPD_Dp s _ v p r e
end

/-! ### == and != -/
def kEq (neg : Bool) (x y : D) (S : Store) : Ev D := match toPDr S x, toPDr S y with
  | some p, some q => if SeqAt.shaped p && SeqAt.shaped q then ret (.bl (if neg then !PyData.eqv p q else PyData.eqv p q)) S else none
  | _, _ => none
section
variable {X : Cx} {CT : Cfg} {W : WX}
theorem v_eq : V2 X.K CT W (rEqD X.K) (kEq false) := fun A F mm S H σ Q x y v w s r1 r2 h => by
  unfold kEq at h
  split at h
  · rename_i p q e1 e2
    split at h
    · rename_i c
      obtain ⟨c1, c2⟩ := Bool.and_eq_true_iff.mp c
      exact ⟨p, q, toPDr_Dp s r1 e1, toPDr_Dp s r2 e2, c1, c2, h.now s rfl⟩
    · exact h.elim
  · exact h.elim
theorem v_ne : V2 X.K CT W (rNeD X.K) (kEq true) := fun A F mm S H σ Q x y v w s r1 r2 h => by
  unfold kEq at h
  split at h
  · rename_i p q e1 e2
    split at h
    · rename_i c
      obtain ⟨c1, c2⟩ := Bool.and_eq_true_iff.mp c
      exact ⟨p, q, toPDr_Dp s r1 e1, toPDr_Dp s r2 e2, c1, c2, h.now s rfl⟩
    · exact h.elim
  · exact h.elim
theorem de_eq {ea eb : Expr} {a b : C D} {pos : Pos} (hu : X.A.units + 64 < cLine) (ha : DEx X CT W ea a) (hb : DEx X CT W eb b) (hm : behindInMarks .Eq eb = false := by exact nomark _) : DEx X CT W (.Compare ea [.Eq] [eb] pos) (c2 (kEq false) a b) := de_cmp (op_eqD hu) v_eq ha hb hm
theorem de_ne {ea eb : Expr} {a b : C D} {pos : Pos} (hu : X.A.units + 64 < cLine) (ha : DEx X CT W ea a) (hb : DEx X CT W eb b) (hm : behindInMarks .NotEq eb = false := by exact nomark _) : DEx X CT W (.Compare ea [.NotEq] [eb] pos) (c2 (kEq true) a b) := de_cmp (op_neD hu) v_ne ha hb hm
theorem dt_eq {ea eb : Expr} {a b : C D} {pos : Pos} (hu : X.A.units + 64 < cLine) (ha : DEx X CT W ea a) (hb : DEx X CT W eb b) (hm : behindInMarks .Eq eb = false := by exact nomark _) : DTx X CT W (.Compare ea [.Eq] [eb] pos) (cT (c2 (kEq false) a b)) := dt_cmp (op_eqD hu) v_eq ha hb hm
theorem dt_ne {ea eb : Expr} {a b : C D} {pos : Pos} (hu : X.A.units + 64 < cLine) (ha : DEx X CT W ea a) (hb : DEx X CT W eb b) (hm : behindInMarks .NotEq eb = false := by exact nomark _) : DTx X CT W (.Compare ea [.NotEq] [eb] pos) (cT (c2 (kEq true) a b)) := dt_cmp (op_neD hu) v_ne ha hb hm
end

/-! ### numbers -/
def kI (f : Int → Int → Option D) (x y : D) (S : Store) : Ev D := match x, y with
  | .int i, .int j => match f i j with
    | some d => ret d S
    | none => none
  | _, _ => none
section
variable {X : Cx} {CT : Cfg} {W : WX}
/-- a rule of two ints with a condition -/
theorem v_int {Cc : Int → Int → Prop} {g : Int → Int → V} {f : Int → Int → Option D} (hf : ∀ i j d, f i j = some d → Cc i j ∧ ∀ F mm, Rep X.K CT F mm d (g i j)) : V2 X.K CT W (rI Cc g) (kI f) := fun A F mm S H σ Q x y v w s r1 r2 h => by
  unfold kI at h
  split at h
  · rename_i i j
    split at h
    · rename_i d e
      obtain ⟨c, q⟩ := hf i j d e
      exact ⟨i, j, r1, r2, c, h.now s (q F mm)⟩
    · exact h.elim
  · exact h.elim
theorem v_int0 {g : Int → Int → V} {f : Int → Int → Option D} (hf : ∀ i j d, f i j = some d → ∀ F mm, Rep X.K CT F mm d (g i j)) : V2 X.K CT W (rI0 g) (kI f) := fun A F mm S H σ Q x y v w s r1 r2 h => by
  unfold kI at h
  split at h
  · rename_i i j
    split at h
    · rename_i d e
      exact ⟨i, j, r1, r2, h.now s (hf i j d e F mm)⟩
    · exact h.elim
  · exact h.elim
/-- two rules for one operator -/
theorem V2.orL {r r' : R2} {k : D → D → Store → Ev D} (h : V2 X.K CT W r k) : V2 X.K CT W (fun x y H Q => r x y H Q ∨ r' x y H Q) k := fun A F mm S H σ Q x y v w s r1 r2 q => .inl (h A F mm S H σ Q x y v w s r1 r2 q)
end
/-! addition: ints, texts, tuples; lists apart (they are new) -/
def kAdd (x y : D) (S : Store) : Ev D := match x, y with
  | .int i, .int j => ret (.int (i + j)) S
  | .str a, .str b => if a.length + b.length ≤ sizeLine then ret (.str (a ++ b)) S else none
  | .tup xs, .tup ys => if xs.length + ys.length ≤ sizeLine then ret (.tup (xs ++ ys)) S else none
  | _, _ => none
def kSub : D → D → Store → Ev D := kI fun i j => some (.int (i - j))
def mulOk (i j : Int) : Bool := (decide (-(2 ^ 64) < i) && decide (i < 2 ^ 64)) || (decide (-(2 ^ 64) < j) && decide (j < 2 ^ 64))
def kMul (x y : D) (S : Store) : Ev D := match x, y with
  | .int i, .int j => if mulOk i j then ret (.int (i * j)) S else none
  | .tup xs, .int k => if xs.isEmpty then none else if 2 ≤ k ∧ k ≤ 1000 ∧ xs.length ≤ 1000 then ret (.tup (List.replicate k.toNat xs).flatten) S else none
  | _, _ => none
def kDiv : D → D → Store → Ev D := kI fun i j => if j = 0 then none else if j.natAbs < 1073741824 then some (.int (i.fdiv j)) else none
def kMod : D → D → Store → Ev D := kI fun i j => if j = 0 then none else some (.int (i.fmod j))
def kPow : D → D → Store → Ev D := kI fun i j => if 0 ≤ j ∧ j ≤ 1000000 ∧ i.natAbs < 2 ^ 64 then some (.int (i ^ j.toNat)) else none
section
variable {X : Cx} {CT : Cfg} {W : WX}
theorem v_add : V2 X.K CT W (fun x y H Q => (fun x y H Q => rI0 (fun i j => .int (i + j)) x y H Q ∨ (∃ i j, x = .str i ∧ y = .str j ∧ i.length + j.length ≤ sizeLine ∧ Q (.str (i ++ j)) H)) x y H Q ∨ rCatA X.K x y H Q) kAdd := fun A F mm S H σ Q x y v w s r1 r2 h => by
  unfold kAdd at h
  split at h
  · rename_i i j
    exact .inl (.inl ⟨i, j, r1, r2, h.now s rfl⟩)
  · rename_i a b
    split at h
    · rename_i c
      exact .inl (.inr ⟨a, b, r1, r2, c, h.now s rfl⟩)
    · exact h.elim
  · rename_i xs ys
    split at h
    · rename_i c
      obtain ⟨a, vs, rfl, h1, h2, h3⟩ := r1
      obtain ⟨b, ws, rfl, g1, g2, g3⟩ := r2
      have l1 := h3.length
      have l2 := g3.length
      refine .inr ⟨a, b, vs, ws, rfl, rfl, s.sqt h2, s.sqt g2, by omega, fun z => ?_, fun _ z => ?_, fun z1 z2 => ?_⟩
      · have e : xs = [] := List.eq_nil_of_length_eq_zero (by rw [l1, z]; rfl)
        subst e
        exact h.now s ⟨b, ws, rfl, by simpa using c, g2, g3⟩
      · have e : ys = [] := List.eq_nil_of_length_eq_zero (by rw [l2, z]; rfl)
        subst e
        rw [List.append_nil] at h
        exact h.now s ⟨a, vs, rfl, h1, h2, h3⟩
      · exact h.newT s (by rw [List.length_append]; exact c) (h3.append g3)
    · exact h.elim
  · exact h.elim
theorem de_add {ea eb : Expr} {a b : C D} {pos : Pos} (ha : DEx X CT W ea a) (hb : DEx X CT W eb b) : DEx X CT W (.BinOp ea .Add eb pos) (c2 kAdd a b) := de_op ((op_add.or op_add_str).or op_catA) v_add ha hb
theorem de_sub {ea eb : Expr} {a b : C D} {pos : Pos} (ha : DEx X CT W ea a) (hb : DEx X CT W eb b) : DEx X CT W (.BinOp ea .Sub eb pos) (c2 kSub a b) :=
  de_op op_sub (v_int0 fun i j d e F mm => by cases e; rfl) ha hb
theorem v_mul : V2 X.K CT W (fun x y H Q => rI CMul (fun i j => .int (i * j)) x y H Q ∨ rRepT X.K x y H Q) kMul := fun A F mm S H σ Q x y v w s r1 r2 h => by
  unfold kMul at h
  split at h
  · rename_i i j
    split at h
    · rename_i c
      refine .inl ⟨i, j, r1, r2, ?_, h.now s rfl⟩
      unfold mulOk at c
      rcases Bool.or_eq_true_iff.mp c with c | c
      · obtain ⟨c1, c2⟩ := Bool.and_eq_true_iff.mp c
        exact .inl ⟨of_decide_eq_true c1, of_decide_eq_true c2⟩
      · obtain ⟨c1, c2⟩ := Bool.and_eq_true_iff.mp c
        exact .inr ⟨of_decide_eq_true c1, of_decide_eq_true c2⟩
    · exact h.elim
  · rename_i xs k
    split at h
    · exact h.elim
    · rename_i c0
      split at h
      · rename_i c
        obtain ⟨a, vs, rfl, h1, h2, h3⟩ := r1
        have l1 := h3.length
        refine .inr ⟨a, k, vs, rfl, r2, s.sqt h2, fun z => c0 ?_, c.1, c.2.1, by omega, ?_⟩
        · rw [h3.isEmpty, z]; rfl
        · have rr : ∀ n : Nat, Reps X.K CT F mm (List.replicate n xs).flatten (List.replicate n vs).flatten := fun n => by
            induction n with
            | zero => rfl
            | succ n ih => rw [List.replicate_succ, List.replicate_succ, List.flatten_cons, List.flatten_cons]; exact h3.append ih
          refine h.newT s ?_ (rr _)
          rw [PyProof.Rows.lm_len_rep_flat]
          have : (sizeLine : Nat) = 16777216 := sizeLine_eq
          have h5 : k.toNat ≤ 1000 := by omega
          calc k.toNat * xs.length ≤ 1000 * 1000 := Nat.mul_le_mul h5 c.2.2
            _ ≤ sizeLine := by rw [this]; decide
      · exact h.elim
  · exact h.elim
theorem de_mul {ea eb : Expr} {a b : C D} {pos : Pos} (ha : DEx X CT W ea a) (hb : DEx X CT W eb b) : DEx X CT W (.BinOp ea .Mult eb pos) (c2 kMul a b) := de_op (op_mul.or op_repT) v_mul ha hb
theorem de_div {ea eb : Expr} {a b : C D} {pos : Pos} (ha : DEx X CT W ea a) (hb : DEx X CT W eb b) : DEx X CT W (.BinOp ea .FloorDiv eb pos) (c2 kDiv a b) :=
  de_op op_fdivN (v_int fun i j d e => by
    by_cases h0 : j = 0
    · rw [if_pos h0] at e; cases e
    · rw [if_neg h0] at e
      by_cases h1 : j.natAbs < 1073741824
      · rw [if_pos h1] at e; cases e
        exact ⟨⟨h0, h1⟩, fun _ _ => rfl⟩
      · rw [if_neg h1] at e; cases e) ha hb
theorem de_mod {ea eb : Expr} {a b : C D} {pos : Pos} (ha : DEx X CT W ea a) (hb : DEx X CT W eb b) : DEx X CT W (.BinOp ea .Mod eb pos) (c2 kMod a b) :=
  de_op op_modN (v_int fun i j d e => by
    by_cases h0 : j = 0
    · rw [if_pos h0] at e; cases e
    · rw [if_neg h0] at e
      cases e
      exact ⟨h0, fun _ _ => rfl⟩) ha hb
theorem de_pow {ea eb : Expr} {a b : C D} {pos : Pos} (ha : DEx X CT W ea a) (hb : DEx X CT W eb b) : DEx X CT W (.BinOp ea .Pow eb pos) (c2 kPow a b) :=
  de_op op_pow (v_int fun i j d e => by
    by_cases h0 : 0 ≤ j ∧ j ≤ 1000000 ∧ i.natAbs < 2 ^ 64
    · rw [if_pos h0] at e; cases e
      exact ⟨h0, fun _ _ => rfl⟩
    · rw [if_neg h0] at e; cases e) ha hb
def kNeg (x : D) (S : Store) : Ev D := match x with
  | .int i => ret (.int (-i)) S
  | _ => none
theorem de_neg {ea : Expr} {a : C D} {pos : Pos} (ha : DEx X CT W ea a) : DEx X CT W (.UnaryOp .USub ea pos) (c1 kNeg a) :=
  de_un un_neg (fun A F mm S H σ Q x v s r h => by
    unfold kNeg at h
    split at h
    · rename_i i
      exact ⟨i, r, h.now s rfl⟩
    · exact h.elim) ha
/-! comparisons of ints; of tuples of ints -/
def intsOf : List D → Option (List Int)
  | [] => some []
  | .int i :: ds => (intsOf ds).map (i :: ·)
  | _ :: _ => none
theorem intsOf_rep {K : PySem.W.Frag} {F : Hp} {mm : List Addr} : ∀ {ds : List D} {ns : List Int} {vs : List V}, intsOf ds = some ns → Reps K CT F mm ds vs → vs = ns.map V.int
  | [], ns, vs, e, r => by cases e; exact r
  | d :: ds, ns, vs, e, ⟨v, r, h1, h2, h3⟩ => by
    cases d with
    | int i =>
      obtain ⟨ms, e1, rfl⟩ := Option.map_eq_some_iff.mp (show (intsOf ds).map (i :: ·) = some ns from e)
      rw [h1, intsOf_rep e1 h3, show v = V.int i from h2]
      rfl
    | _ => cases e
def kLt (x y : D) (S : Store) : Ev D := match x, y with
  | .int i, .int j => ret (.bl (decide (i < j))) S
  | .tup xs, .tup ys => match intsOf xs, intsOf ys with
    | some ns, some ms => ret (.bl (HT.lexLt ns ms)) S
    | _, _ => none
  | _, _ => none
theorem v_lt : V2 X.K CT W (fun x y H Q => rI0 (fun i j => .bl (decide (i < j))) x y H Q ∨ rLtT X.K x y H Q) kLt := fun A F mm S H σ Q x y v w s r1 r2 h => by
  unfold kLt at h
  split at h
  · rename_i i j
    exact .inl ⟨i, j, r1, r2, h.now s rfl⟩
  · rename_i xs ys
    split at h
    · rename_i ns ms e1 e2
      obtain ⟨a, vs, rfl, h1, h2, h3⟩ := r1
      obtain ⟨b, ws, rfl, g1, g2, g3⟩ := r2
      rw [intsOf_rep e1 h3] at h2
      rw [intsOf_rep e2 g3] at g2
      exact .inr ⟨a, b, ns, ms, rfl, rfl, s.sqt h2, s.sqt g2, h.now s rfl⟩
    · exact h.elim
  · exact h.elim
def kLe : D → D → Store → Ev D := kI fun i j => some (.bl (decide (i ≤ j)))
def kGt : D → D → Store → Ev D := kI fun i j => some (.bl (decide (j < i)))
def kGe : D → D → Store → Ev D := kI fun i j => some (.bl (decide (j ≤ i)))
theorem v_le : V2 X.K CT W (rI0 fun i j => .bl (decide (i ≤ j))) kLe := v_int0 fun i j d e F mm => by cases e; rfl
theorem v_gt : V2 X.K CT W (rI0 fun i j => .bl (decide (j < i))) kGt := v_int0 fun i j d e F mm => by cases e; rfl
theorem v_ge : V2 X.K CT W (rI0 fun i j => .bl (decide (j ≤ i))) kGe := v_int0 fun i j d e F mm => by cases e; rfl
theorem o_lt (hu : X.A.units < cLine) : OpR X (compareOp .Lt) (fun x y H Q => rI0 (fun i j => .bl (decide (i < j))) x y H Q ∨ rLtT X.K x y H Q) := op_lt.or (op_ltT hu)
/-! is None -/
def isNone : D → Bool
  | .non => true
  | _ => false
def kIsN (x y : D) (S : Store) : Ev D := match y with
  | .non => ret (.bl (isNone x)) S
  | _ => none
def kIsNN (x y : D) (S : Store) : Ev D := match y with
  | .non => ret (.bl (!isNone x)) S
  | _ => none
theorem isNone_rep {K : PySem.W.Frag} {F : Hp} {mm : List Addr} {d : D} {v : V} (r : Rep K CT F mm d v) : decide (v = .non) = isNone d := by
  cases d with
  | non => rw [show v = .non from r]; rfl
  | bl b => rw [show v = .bl b from r]; rfl
  | int b => rw [show v = .int b from r]; rfl
  | str b => rw [show v = .str b from r]; rfl
  | tup ds => obtain ⟨a, vs, rfl, _⟩ := r; rfl
  | lst ds => obtain ⟨a, vs, rfl, _⟩ := r; rfl
  | scr ns => obtain ⟨a, rfl, _⟩ := r; rfl
  | ins C fs => obtain ⟨a, _, _, _, rfl, _⟩ := r; rfl
  | ref n => obtain ⟨a, _, rfl⟩ := r; rfl
  | exc C fs => obtain ⟨a, _, rfl, _⟩ := r; rfl
  | adr a => rw [show v = .ref a from r]; rfl
  | dct => obtain ⟨a, _, rfl, _⟩ := r; rfl
  | ty n => rw [show v = .ty n from r]; rfl
  | cls C => obtain ⟨a, rfl, _⟩ := r; rfl
  | lam f c q env σ => obtain ⟨rfl, _⟩ := r; rfl
theorem v_isN : V2 X.K CT W (fun x y H Q => y = .non ∧ Q (.bl (decide (x = .non))) H) kIsN := fun A F mm S H σ Q x y v w s r1 r2 h => by
  unfold kIsN at h
  split at h
  · exact ⟨r2, by rw [isNone_rep r1]; exact h.now s rfl⟩
  · exact h.elim
theorem v_isNN : V2 X.K CT W (fun x y H Q => y = .non ∧ Q (.bl (!decide (x = .non))) H) kIsNN := fun A F mm S H σ Q x y v w s r1 r2 h => by
  unfold kIsNN at h
  split at h
  · exact ⟨r2, by rw [isNone_rep r1]; exact h.now s rfl⟩
  · exact h.elim
/-- x is True, x is not True .. of truths -/
def kIsB (neg : Bool) (x y : D) (S : Store) : Ev D := match x, y with
  | .bl a, .bl b => ret (.bl (if neg then !decide (a = b) else decide (a = b))) S
  | _, _ => none
theorem v_isB : V2 X.K CT W rIsB (kIsB false) := fun A F mm S H σ Q x y v w s r1 r2 h => by
  unfold kIsB at h
  split at h
  · rename_i a b; exact ⟨a, b, r1, r2, h.now s rfl⟩
  · exact h.elim
theorem v_isNB : V2 X.K CT W rNotB (kIsB true) := fun A F mm S H σ Q x y v w s r1 r2 h => by
  unfold kIsB at h
  split at h
  · rename_i a b; exact ⟨a, b, r1, r2, h.now s rfl⟩
  · exact h.elim
end
end DE

set_option Elab.async false
set_option linter.all false
set_option maxRecDepth 100000
set_option autoImplicit false
namespace DE
open PySem PySem.Spec PyProof.Rows L2
section
variable {X : Cx} {CT : Cfg} {W : WX}

/-! ### and, or, not, if: as tests and as values -/
def cAnd (a b : C Bool) : C Bool := thenC a fun ρ x S => if x = true then b ρ S else ret false S
def cOr (a b : C Bool) : C Bool := thenC a fun ρ x S => if x = true then ret true S else b ρ S
def cNot (a : C Bool) : C Bool := thenC a fun _ x S => ret (!x) S
theorem run_and {a b : C Bool} (σ : L2.St) (H : Hp) (Q : Bool → Hp → Prop) (h : tB X.K CT W (cAnd a b) σ H Q) : tAnd (tB X.K CT W a) (tB X.K CT W b) σ H Q := by
  refine (tG.step (R' := RB) h).mono fun c H1 h => ?_
  obtain ⟨A, F, mm, S, ρ, x, s, h2, rfl, h4⟩ := h
  by_cases q : x = true
  · subst q; exact iteT ⟨A, F, mm, S, ρ, s, h2, h4⟩
  · have q := Bool.eq_false_iff.mpr q
    subst q; exact iteF (h4.now s rfl)
theorem run_or {a b : C Bool} (σ : L2.St) (H : Hp) (Q : Bool → Hp → Prop) (h : tB X.K CT W (cOr a b) σ H Q) : tOr (tB X.K CT W a) (tB X.K CT W b) σ H Q := by
  refine (tG.step (R' := RB) h).mono fun c H1 h => ?_
  obtain ⟨A, F, mm, S, ρ, x, s, h2, rfl, h4⟩ := h
  by_cases q : x = true
  · subst q; exact iteT (h4.now s rfl)
  · have q := Bool.eq_false_iff.mpr q
    subst q; exact iteF ⟨A, F, mm, S, ρ, s, h2, h4⟩
variable {ea eb ec : Expr} {rest : List Expr} {pos : Pos}
theorem dw_and1 {a : C Bool} (ha : DTx X CT W ea a) : DWx X CT W (.BoolOp .And [ea] pos) a := pw_and1 ha
theorem dw_or1 {a : C Bool} (ha : DTx X CT W ea a) : DWx X CT W (.BoolOp .Or [ea] pos) a := pw_or1 ha
theorem dw_and {a b : C Bool} (ha : DTx X CT W ea a) (hb : DWx X CT W (.BoolOp .And (eb :: rest) pos) b) : DWx X CT W (.BoolOp .And (ea :: eb :: rest) pos) (cAnd a b) := (pw_and ha hb).weak run_and
theorem dw_or {a b : C Bool} (ha : DTx X CT W ea a) (hb : DWx X CT W (.BoolOp .Or (eb :: rest) pos) b) : DWx X CT W (.BoolOp .Or (ea :: eb :: rest) pos) (cOr a b) := (pw_or ha hb).weak run_or
theorem dt_w {a : C Bool} (h : DWx X CT W ea a) : DTx X CT W ea a := h.pt
theorem dt_not {a : C Bool} (ha : DTx X CT W ea a) : DTx X CT W (.UnaryOp .Not ea pos) (cNot a) := (pt_not ha).weak fun σ H Q h => by
  refine (tG.step (R' := RB) h).mono fun c H1 h => ?_
  obtain ⟨A, F, mm, S, ρ, x, s, h2, rfl, h4⟩ := h
  exact h4.now s rfl
def cAndV (a b : C D) : C D := thenC a fun ρ x S => match x with
  | .bl true => b ρ S
  | .bl false => ret (.bl false) S
  | _ => none
def cOrV (a b : C D) : C D := thenC a fun ρ x S => match x with
  | .bl false => b ρ S
  | .bl true => ret (.bl true) S
  | _ => none
def kNot (x : D) (S : Store) : Ev D := match x with
  | .bl b => ret (.bl (!b)) S
  | _ => none
theorem de_one {op} {a : C D} (h : DEx X CT W ea a) : DEx X CT W (.BoolOp op [ea] pos) a := pe_one h
theorem de_and {a b : C D} (ha : DEx X CT W ea a) (hb : DEx X CT W (.BoolOp .And (eb :: rest) pos) b) : DEx X CT W (.BoolOp .And (ea :: eb :: rest) pos) (cAndV a b) := (pe_and ha hb).weak fun σ H Q h => by
  refine (tG.step (R' := RD X.K CT) h).mono fun v H1 h => ?_
  obtain ⟨A, F, mm, S, ρ, x, s, h2, h3, h4⟩ := h
  split at h4
  · exact ⟨true, h3, iteT ⟨A, F, mm, S, ρ, s, h2, h4⟩⟩
  · exact ⟨false, h3, iteF (h4.now s rfl)⟩
  · exact h4.elim
theorem de_or {a b : C D} (ha : DEx X CT W ea a) (hb : DEx X CT W (.BoolOp .Or (eb :: rest) pos) b) : DEx X CT W (.BoolOp .Or (ea :: eb :: rest) pos) (cOrV a b) := (pe_or ha hb).weak fun σ H Q h => by
  refine (tG.step (R' := RD X.K CT) h).mono fun v H1 h => ?_
  obtain ⟨A, F, mm, S, ρ, x, s, h2, h3, h4⟩ := h
  split at h4
  · exact ⟨false, h3, iteF ⟨A, F, mm, S, ρ, s, h2, h4⟩⟩
  · exact ⟨true, h3, iteT (h4.now s rfl)⟩
  · exact h4.elim
/-- not x, x a truth; any x by its test -/
def cNotT (a : C Bool) : C D := thenC a fun _ x S => ret (.bl (!x)) S
theorem de_not {a : C D} (ha : DEx X CT W ea a) : DEx X CT W (.UnaryOp .Not ea pos) (c1 kNot a) := (pe_not ha).weak fun σ H Q h => by
  refine (tG.step (R' := RD X.K CT) h).mono fun v H1 h => ?_
  obtain ⟨A, F, mm, S, ρ, x, s, h2, h3, h4⟩ := h
  unfold kNot at h4
  split at h4
  · rename_i b; exact ⟨b, h3, h4.now s rfl⟩
  · exact h4.elim
def cIf {α : Type} (c : C Bool) (a b : C α) : C α := thenC c fun ρ x S => if x = true then a ρ S else b ρ S
theorem de_if {c : C Bool} {a b : C D} (hc : DTx X CT W ec c) (ha : DEx X CT W ea a) (hb : DEx X CT W eb b) : DEx X CT W (.IfExp ec ea eb pos) (cIf c a b) := (pe_ifExp hc ha hb).weak fun σ H Q h => by
  refine (tG.step (R' := RB) h).mono fun d H1 h => ?_
  obtain ⟨A, F, mm, S, ρ, x, s, h2, rfl, h4⟩ := h
  by_cases q : x = true
  · subst q; exact iteT ⟨A, F, mm, S, ρ, s, h2, h4⟩
  · have q := Bool.eq_false_iff.mpr q
    subst q; exact iteF ⟨A, F, mm, S, ρ, s, h2, h4⟩
/-- a <= b <= c -/
def cChain (k k' : D → D → Store → Ev D) (a b c : C D) : C D := thenC a fun ρ x S => bindO (b ρ S) fun y S => bindO (k x y S) fun z S => match z with
  | .bl true => bindO (c ρ S) fun w S => k' y w S
  | .bl false => ret (.bl false) S
  | _ => none
theorem run_chain {r r' : R2} {k k' : D → D → Store → Ev D} {a b c : C D} (hv : V2 X.K CT W r k) (hv' : V2 X.K CT W r' k') (σ : L2.St) (H : Hp) (Q : VK) (h : tD X.K CT W (cChain k k' a b c) σ H Q) : tChain r r' (tD X.K CT W a) (tD X.K CT W b) (tD X.K CT W c) σ H Q := by
  refine (tG.step (R' := RD X.K CT) h).mono fun v H1 h => ?_
  obtain ⟨A, F, mm, S, ρ, x, s, h2, h3, h4⟩ := h
  refine ⟨A, F, mm, S, ρ, s, h2, ?_⟩
  refine Run.mono (Run.bind (R' := RD X.K CT) h4) fun w H2 h => ?_
  obtain ⟨F', mm', y, S', e, s', r2, h⟩ := h
  refine hv A F' mm' S' H2 σ _ x y v w s' (Rep.ext e h3) r2 (Run.mono (Run.bind (R' := RD X.K CT) h) fun z H3 h => ?_)
  obtain ⟨F3, mm3, b, S3, e3, s3, r3, h⟩ := h
  split at h
  · refine ⟨true, r3, iteT ⟨A, F3, mm3, S3, ρ, s3, (h2.ext e).ext e3, ?_⟩⟩
    refine Run.mono (Run.bind (R' := RD X.K CT) h) fun u H4 h => ?_
    obtain ⟨F4, mm4, t, S4, e4, s4, r4, h⟩ := h
    exact hv' A F4 mm4 S4 H4 σ Q y t w u s4 (Rep.ext e4 (Rep.ext e3 r2)) r4 h
  · exact ⟨false, r3, iteF (h.now s3 rfl)⟩
  · exact h.elim
end
end DE

set_option Elab.async false
set_option linter.all false
set_option maxRecDepth 100000
set_option autoImplicit false
namespace DE
open PySem PySem.Spec PyProof.Rows L2
section
variable {X : Cx} {CT : Cfg} {W : WX} {ea eb ec : Expr} {pos : Pos}
theorem de_chain {op op' : CmpOp} {r r' : R2} {k k' : D → D → Store → Ev D} {a b c : C D} (ho : OpR X (compareOp op) r) (hv : V2 X.K CT W r k) (ho' : OpR X (compareOp op') r') (hv' : V2 X.K CT W r' k') (ha : DEx X CT W ea a) (hb : DEx X CT W eb b) (hc : DEx X CT W ec c)
    (hm : lastMarks [op, op'] [eb, ec] = false := by with_unfolding_all rfl) : DEx X CT W (.Compare ea [op, op'] [eb, ec] pos) (cChain k k' a b c) := (pe_chain ho ho' ha hb hc hm).weak fun σ H Q h => run_chain hv hv' σ H Q h
theorem run_tst {r : TE} {a : C D} (h0 : ∀ σ H Q, tD X.K CT W a σ H Q → r σ H Q) (σ : L2.St) (H : Hp) (Q : Bool → Hp → Prop) (h : tB X.K CT W (cT a) σ H Q) : tTest r σ H Q := by
  refine h0 σ H _ ((tG.step (R' := RD X.K CT) h).mono fun v H1 h => ?_)
  obtain ⟨A, F, mm, S, ρ, x, h1, h2, h3, h4⟩ := h
  split at h4
  · rename_i b
    exact ⟨b, h3, h4 F mm H1 b Ext.refl h1 rfl⟩
  · exact h4.elim
theorem dt_chain {op op' : CmpOp} {r r' : R2} {k k' : D → D → Store → Ev D} {a b c : C D} (ho : OpR X (compareOp op) r) (hv : V2 X.K CT W r k) (ho' : OpR X (compareOp op') r') (hv' : V2 X.K CT W r' k') (ha : DEx X CT W ea a) (hb : DEx X CT W eb b) (hc : DEx X CT W ec c)
    (hm : lastMarks [op, op'] [eb, ec] = false := by with_unfolding_all rfl) : DTx X CT W (.Compare ea [op, op'] [eb, ec] pos) (cT (cChain k k' a b c)) := (pt_chain ho ho' ha hb hc hm).weak fun σ H Q h => run_tst (fun σ H Q h => run_chain hv hv' σ H Q h) σ H Q h

/-! ### subscripts, slices -/
theorem Reps.atI {K : PySem.W.Frag} {F : Hp} {mm : List Addr} {ds : List D} {vs : List V} {i : Int} {d : D} (h : Reps K CT F mm ds vs) (e : L2.atI ds i = some d) : ∃ v, L2.atI vs i = some v ∧ Rep K CT F mm d v := by
  unfold L2.atI at e ⊢
  rw [← h.length]
  obtain ⟨j, e1, e2⟩ := Option.bind_eq_some_iff.mp e
  obtain ⟨v, q, r⟩ := h.get e2
  exact ⟨v, by rw [e1]; exact q, r⟩
def kIx (x y : D) (S : Store) : Ev D := match y with
  | .int i => match seqD S x with
    | some ds => match L2.atI ds i with
      | some d => ret d S
      | none => none
    | none => none
  | _ => none
theorem v_ix : V2 X.K CT W (fun x y H Q => rIxL X.K x y H Q ∨ rIxT X.K x y H Q) kIx := fun A F mm S H σ Q x y v w s r1 r2 h => by
  unfold kIx at h
  split at h
  · rename_i i
    split at h
    · rename_i ds e1
      split at h
      · rename_i d e2
        obtain ⟨a, vs, rfl, h1, h2⟩ := s.seqD e1 r1
        obtain ⟨u, e3, r3⟩ := h2.atI e2
        rcases h1 with h1 | h1
        · exact .inl ⟨a, vs, i, u, rfl, r2, h1, e3, h.now s r3⟩
        · exact .inr ⟨a, vs, i, u, rfl, r2, h1, e3, h.now s r3⟩
      · exact h.elim
    · exact h.elim
  · exact h.elim
theorem de_ix {a b : C D} (ha : DEx X CT W ea a) (hb : DEx X CT W eb b) (hs : PlainIx eb := by exact fun _ _ => rfl) : DEx X CT W (.Subscript ea eb pos) (c2 kIx a b) := (pe_ix (ix_list.or ix_tup) ha hb hs).weak fun σ H Q h => run2 v_ix σ H Q h
/-- an optional part of a slice -/
abbrev DPx (X : Cx) (CT : Cfg) (W : WX) (e : Option Expr) (c : C (Option Int)) : Prop := PO X e (tG X.K CT W (fun _ _ _ _ a b => a = b) c)
theorem _root_.L2.PO.weak {X : Cx} {e : Option Expr} {t t' : TO} (h : PO X e t) (f : ∀ σ H Q, t' σ H Q → t σ H Q) : PO X e t' := ⟨fun pins s σ H Q I hw => h.run pins s σ H Q I (f σ H Q hw)⟩
def cPno : C (Option Int) := fun _ S => ret none S
def cPso (a : C D) : C (Option Int) := thenC a fun _ x S => match x with
  | .int i => ret (some i) S
  | _ => none
theorem dp_no : DPx X CT W none cPno := po_none.weak fun σ H Q h => by
  obtain ⟨A, F, mm, S, ρ, s, h2, h3⟩ := h
  exact h3.now s rfl
theorem dp_so {a : C D} (ha : DEx X CT W ea a) : DPx X CT W (some ea) (cPso a) := (po_some ha).weak fun σ H Q h => by
  refine (tG.step (R' := RD X.K CT) h).mono fun v H1 h => ?_
  obtain ⟨A, F, mm, S, ρ, x, s, h2, h3, h4⟩ := h
  split at h4
  · rename_i i; exact ⟨i, h3, h4.now s rfl⟩
  · exact h4.elim
def cutD (ds : List D) (lo hi : Option Int) : List D := (ds.drop (HT.sIx ds.length 0 lo)).take (HT.sIx ds.length ds.length hi - HT.sIx ds.length 0 lo)
theorem Reps.cut {K : PySem.W.Frag} {F : Hp} {mm : List Addr} {ds : List D} {vs : List V} {lo hi : Option Int} (h : Reps K CT F mm ds vs) : Reps K CT F mm (cutD ds lo hi) (cutV vs lo hi) := by
  unfold cutD cutV
  rw [h.length]
  exact (h.drop _).take _
theorem cutD_length (ds : List D) (lo hi : Option Int) : (cutD ds lo hi).length ≤ ds.length := by
  unfold cutD
  rw [List.length_take, List.length_drop]
  omega
/-- t[lo:hi] of a tuple -/
def cSlT (a : C D) (lo hi : C (Option Int)) : C D := thenC a fun ρ x S => bindO (lo ρ S) fun l S => bindO (hi ρ S) fun u S => match x with
  | .tup ds => ret (.tup (cutD ds l u)) S
  | _ => none
theorem run_sl {α : Type} {r : V → Option Int → Option Int → Hp → VK → Prop} {R : Asd → Hp → List Addr → Hp → α → V → Prop} {a : C D} {lo hi : C (Option Int)} {k : D → Option Int → Option Int → Store → Ev α}
    (hv : ∀ A F mm S H (σ : L2.St) Q x v l u, Sim X.K CT A F mm S H → Rep X.K CT F mm x v → Run X.K CT A W σ R (k x l u S) F mm Q → r v l u H Q) (σ : L2.St) (H : Hp) (Q : VK)
    (h : tG X.K CT W R (thenC a fun ρ x S => bindO (lo ρ S) fun l S => bindO (hi ρ S) fun u S => k x l u S) σ H Q) :
    tSl r (tD X.K CT W a) (tG X.K CT W (fun _ _ _ _ a b => a = b) lo) (tG X.K CT W (fun _ _ _ _ a b => a = b) hi) σ H Q := by
  refine (tG.step (R' := RD X.K CT) h).mono fun v H1 h => ?_
  obtain ⟨A, F, mm, S, ρ, x, s, h2, h3, h4⟩ := h
  refine ⟨A, F, mm, S, ρ, s, h2, ?_⟩
  refine Run.mono (Run.bind (R' := fun _ _ _ _ a b => a = b) h4) fun l H2 h => ?_
  obtain ⟨F', mm', l', S', e, s', rfl, h⟩ := h
  refine ⟨A, F', mm', S', ρ, s', h2.ext e, ?_⟩
  refine Run.mono (Run.bind (R' := fun _ _ _ _ a b => a = b) h) fun u H3 h => ?_
  obtain ⟨F3, mm3, u', S3, e3, s3, rfl, h⟩ := h
  exact hv A F3 mm3 S3 H3 σ Q x v l' u' s3 (Rep.ext e3 (Rep.ext e h3)) h
theorem de_slT {a : C D} {lo hi : C (Option Int)} {l u : Option Expr} {p2 : Pos} (ha : DEx X CT W ea a) (hl : DPx X CT W l lo) (hh : DPx X CT W u hi) : DEx X CT W (.Subscript ea (.Slice l u none p2) pos) (cSlT a lo hi) :=
  (pe_slice sl_tupA ha hl hh).weak fun σ H Q h => by
    refine run_sl (R := RD X.K CT) (k := fun x l u S => match x with
      | .tup ds => ret (.tup (cutD ds l u)) S
      | _ => none) (fun A F mm S H σ Q x v l u s r h => ?_) σ H Q h
    split at h
    · rename_i ds
      obtain ⟨p, vs, rfl, h1, h2, h3⟩ := r
      have e := h3.length
      refine ⟨p, vs, rfl, s.sqt h2, fun z => ?_, fun z => ?_⟩
      · refine h.now s ?_
        have ec : cutD ds l u = ds := by
          unfold cutD
          rw [e, z.1, z.2, ← e]; simp
        rw [ec]
        exact ⟨p, vs, rfl, h1, h2, h3⟩
      · exact h.newT s (Nat.le_trans (cutD_length _ _ _) h1) h3.cut
    · exact h.elim
/-- xs[lo:hi] of a list: a new list; of the script -/
def kSlL (x : D) (l u : Option Int) (S : Store) : Ev (List D) := match x with
  | .scr ns => if ns.length ≤ 1000 then ret (cutD (ns.map D.int) l u) S else none
  | x => match lstD S x with
    | some ds => if ds.length ≤ sizeLine then ret (cutD ds l u) S else none
    | none => none
def cSlL (a : C D) (lo hi : C (Option Int)) : C (List D) := thenC a fun ρ x S => bindO (lo ρ S) fun l S => bindO (hi ρ S) fun u S => kSlL x l u S
theorem reps_ints {K : PySem.W.Frag} {F : Hp} {mm : List Addr} : ∀ ns : List Int, Reps K CT F mm (ns.map D.int) (ns.map V.int)
  | [] => rfl
  | n :: ns => ⟨.int n, ns.map V.int, rfl, rfl, reps_ints ns⟩
theorem dn_slL {a : C D} {lo hi : C (Option Int)} {l u : Option Expr} {p2 : Pos} (ha : DEx X CT W ea a) (hl : DPx X CT W l lo) (hh : DPx X CT W u hi) : DNx X CT W (.Subscript ea (.Slice l u none p2) pos) (cSlL a lo hi) :=
  (pe_slice sl_list ha hl hh).weak fun σ H Q h => by
    refine run_sl (R := RN X.K CT) (k := kSlL) (fun A F mm S H σ Q x v l u s r h => ?_) σ H Q h
    unfold kSlL at h
    split at h
    · rename_i ns
      split at h
      · rename_i c
        obtain ⟨p, rfl, h1⟩ := r
        refine ⟨p, ns.map V.int, rfl, s.sql h1, h.new s ?_ (reps_ints ns).cut⟩
        exact Nat.le_trans (cutD_length _ _ _) (by rw [List.length_map]; exact Nat.le_of_lt (small1000 c))
      · exact h.elim
    · split at h
      · rename_i ds e1
        split at h
        · rename_i c
          obtain ⟨p, vs, rfl, h1, h2⟩ := s.lstD e1 r
          exact ⟨p, vs, rfl, .inl (.inl h1), h.new s (Nat.le_trans (cutD_length _ _ _) c) h2.cut⟩
        · exact h.elim
      · exact h.elim
/-- xs[::-1] -/
def cRev (a : C D) : C (List D) := thenC a fun _ x S => match lstD S x with
  | some ds => if ds.length ≤ sizeLine then ret ds.reverse S else none
  | none => none
theorem dn_rev {a : C D} {k : Nat} {p1 p2 p3 : Pos} (ha : DEx X CT W ea a) : DNx X CT W (.Subscript ea (.Slice none none (some (.UnaryOp .USub (.Constant (.int 1) k p1) p2)) p3) pos) (cRev a) := (pe_revL ha).weak fun σ H Q h => by
  refine (tG.step (R' := RD X.K CT) h).mono fun v H1 h => ?_
  obtain ⟨A, F, mm, S, ρ, x, s, h2, h3, h4⟩ := h
  split at h4
  · rename_i ds e1
    split at h4
    · rename_i c
      obtain ⟨p, vs, rfl, h1, h2⟩ := s.lstD e1 h3
      exact ⟨p, vs, rfl, .inl (.inl h1), h4.new s (by rw [List.length_reverse]; exact c) h2.reverse⟩
    · exact h4.elim
  · exact h4.elim
/-- xs + ys of lists -/
def kCat (x y : D) (S : Store) : Ev (List D) := match lstD S x, lstD S y with
  | some xs, some ys => if xs.length + ys.length ≤ sizeLine then ret (xs ++ ys) S else none
  | _, _ => none
def cCat (a b : C D) : C (List D) := thenC a fun ρ x S => bindO (b ρ S) fun y S => kCat x y S
theorem dn_cat {a b : C D} (ha : DEx X CT W ea a) (hb : DEx X CT W eb b) : DNx X CT W (.BinOp ea .Add eb pos) (cCat a b) := (pe_op op_cat ha hb).weak fun σ H Q h => by
  refine (tG.step (R' := RD X.K CT) h).mono fun v H1 h => ?_
  obtain ⟨A, F, mm, S, ρ, x, s, h2, h3, h4⟩ := h
  refine ⟨A, F, mm, S, ρ, s, h2, ?_⟩
  refine Run.mono (Run.bind (R' := RD X.K CT) h4) fun w H2 h => ?_
  obtain ⟨F', mm', y, S', e, s', r2, h⟩ := h
  unfold kCat at h
  split at h
  · rename_i xs ys e1 e2
    split at h
    · rename_i c
      obtain ⟨p, vs, rfl, g1, g2⟩ := s'.lstD e1 (Rep.ext e h3)
      obtain ⟨q, ws, rfl, g3, g4⟩ := s'.lstD e2 r2
      have l1 := g2.length
      have l2 := g4.length
      exact ⟨p, q, vs, ws, rfl, rfl, g1, g3, by omega, h.new s' (by rw [List.length_append]; exact c) (g2.append g4)⟩
    · exact h.elim
  · exact h.elim
/-- xs * k of a list -/
def kRep (x y : D) (S : Store) : Ev (List D) := match lstD S x, y with
  | some xs, .int k => if k ≤ 1000 ∧ -1000 ≤ k ∧ xs.length ≤ 1000 then ret (List.replicate k.toNat xs).flatten S else none
  | _, _ => none
def cRepL (a b : C D) : C (List D) := thenC a fun ρ x S => bindO (b ρ S) fun y S => kRep x y S
theorem dn_rep {a b : C D} (ha : DEx X CT W ea a) (hb : DEx X CT W eb b) : DNx X CT W (.BinOp ea .Mult eb pos) (cRepL a b) := (pe_op op_rep ha hb).weak fun σ H Q h => by
  refine (tG.step (R' := RD X.K CT) h).mono fun v H1 h => ?_
  obtain ⟨A, F, mm, S, ρ, x, s, h2, h3, h4⟩ := h
  refine ⟨A, F, mm, S, ρ, s, h2, ?_⟩
  refine Run.mono (Run.bind (R' := RD X.K CT) h4) fun w H2 h => ?_
  obtain ⟨F', mm', y, S', e, s', r2, h⟩ := h
  unfold kRep at h
  split at h
  · rename_i xs k e1
    split at h
    · rename_i c
      obtain ⟨p, vs, rfl, g1, g2⟩ := s'.lstD e1 (Rep.ext e h3)
      have l1 := g2.length
      have hz : k.toNat * xs.length ≤ sizeLine := by
        have : (sizeLine : Nat) = 16777216 := sizeLine_eq
        have h5 : k.toNat ≤ 1000 := by omega
        calc k.toNat * xs.length ≤ 1000 * 1000 := Nat.mul_le_mul h5 c.2.2
          _ ≤ sizeLine := by rw [this]; decide
      have rr : ∀ n : Nat, Reps X.K CT F' mm' (List.replicate n xs).flatten (List.replicate n vs).flatten := fun n => by
        induction n with
        | zero => rfl
        | succ n ih => rw [List.replicate_succ, List.replicate_succ, List.flatten_cons, List.flatten_cons]; exact g2.append ih
      refine ⟨p, k, vs, rfl, r2, g1, by omega, by omega, by rw [← l1, Nat.mul_comm]; exact hz, h.new s' ?_ (rr _)⟩
      rw [PyProof.Rows.lm_len_rep_flat]
      exact hz
    · exact h.elim
  · exact h.elim

/-! ### built-in functions -/
/-- a call's rule by values serves k -/
def VL (K : PySem.W.Frag) (CT : Cfg) (W : WX) (r : List V → Hp → VK → Prop) (k : List D → Store → Ev D) : Prop := ∀ (A : Asd) (F : Hp) (mm : List Addr) (S : Store) (H : Hp) (σ : L2.St) (Q : VK) (ds : List D) (vs : List V), Sim K CT A F mm S H → Reps K CT F mm ds vs →
  Run K CT A W σ (RD K CT) (k ds S) F mm Q → r vs H Q
def cCall (k : List D → Store → Ev D) (c : C (List D)) : C D := thenC c fun _ ds S => k ds S
theorem run_call {r : List V → Hp → VK → Prop} {k : List D → Store → Ev D} {c : C (List D)} (hv : VL X.K CT W r k) (σ : L2.St) (H : Hp) (Q : VK) (h : tD X.K CT W (cCall k c) σ H Q) : tCB r (tL X.K CT W c) σ H Q := by
  refine (tG.step (R' := RL X.K CT) h).mono fun vs H1 h => ?_
  obtain ⟨A, F, mm, S, ρ, ds, s, h2, h3, h4⟩ := h
  exact hv A F mm S H1 σ Q ds vs s h3 h4
variable {x : Str} {p : Pos} {e : Expr} {es : List Expr} {id T : String}
theorem de_callB {r : List V → Hp → VK → Prop} {k : List D → Store → Ev D} {c : C (List D)} (hc : CallR X (.builtin id) r) (hv : VL X.K CT W r k) (hm : X.mg x = none) (ha : DAx X CT W (e :: es) c) (hg : Gl X x := by rfl) (hb : bootBuiltins x = some (.builtin id) := by decide +kernel)
    (hn : x ≠ "__name__" := by decide) (hdb : (x == ("__debug__" : Str)) = false := by decide) (he : starEach (e :: es) X.env = (false, eval e X.env) :: starEach es X.env := by rfl) (hpl : (backTo pos (starEach es X.env)).any (·.1) = false := by rfl) :
    DEx X CT W (.Call (.Name x p) (e :: es) [] pos) (cCall k c) := (pe_callB hc hg hm hb ha hn hdb he hpl).weak fun σ H Q h => run_call hv σ H Q h
theorem de_callTy {r : List V → Hp → VK → Prop} {k : List D → Store → Ev D} {c : C (List D)} (hc : CallR X (.type T) r) (hv : VL X.K CT W r k) (hm : X.mg x = none) (ha : DAx X CT W (e :: es) c) (hg : Gl X x := by rfl) (hb : bootBuiltins x = some (.type T) := by decide +kernel)
    (hn : x ≠ "__name__" := by decide) (hdb : (x == ("__debug__" : Str)) = false := by decide) (he : starEach (e :: es) X.env = (false, eval e X.env) :: starEach es X.env := by rfl) (hpl : (backTo pos (starEach es X.env)).any (·.1) = false := by rfl) :
    DEx X CT W (.Call (.Name x p) (e :: es) [] pos) (cCall k c) := (pe_callTy hc hg hm hb ha hn hdb he hpl).weak fun σ H Q h => run_call hv σ H Q h
end
end DE

set_option Elab.async false
set_option linter.all false
set_option maxRecDepth 100000
set_option autoImplicit false
namespace DE
open PySem PySem.Spec PyProof.Rows L2
section
variable {X : Cx} {CT : Cfg} {W : WX}

def k1 (f : D → Store → Ev D) (ds : List D) (S : Store) : Ev D := match ds with
  | [d] => f d S
  | _ => none
theorem k1_case {K : PySem.W.Frag} {f : D → Store → Ev D} {ds : List D} {vs : List V} {S : Store} {A : Asd} {F : Hp} {mm : List Addr} {σ : L2.St} {Q : VK} (h : Run K CT A W σ (RD K CT) (k1 f ds S) F mm Q) (r : Reps K CT F mm ds vs) :
    ∃ d v, vs = [v] ∧ Rep K CT F mm d v ∧ Run K CT A W σ (RD K CT) (f d S) F mm Q := by
  unfold k1 at h
  split at h
  · rename_i d
    obtain ⟨v, r', rfl, h1, h2⟩ := r
    rw [show r' = [] from h2]
    exact ⟨d, v, rfl, h1, h⟩
  · exact h.elim
def k2 (f : D → D → Store → Ev D) (ds : List D) (S : Store) : Ev D := match ds with
  | [d, e] => f d e S
  | _ => none
theorem k2_case {K : PySem.W.Frag} {f : D → D → Store → Ev D} {ds : List D} {vs : List V} {S : Store} {A : Asd} {F : Hp} {mm : List Addr} {σ : L2.St} {Q : VK} (h : Run K CT A W σ (RD K CT) (k2 f ds S) F mm Q) (r : Reps K CT F mm ds vs) :
    ∃ d v e w, vs = [v, w] ∧ Rep K CT F mm d v ∧ Rep K CT F mm e w ∧ Run K CT A W σ (RD K CT) (f d e S) F mm Q := by
  unfold k2 at h
  split at h
  · rename_i d e
    obtain ⟨v, r', rfl, h1, w, r'', rfl, h2, h3⟩ := r
    rw [show r'' = [] from h3]
    exact ⟨d, v, e, w, rfl, h1, h2, h⟩
  · exact h.elim
/-! len, int, abs, max, min -/
def kLen (d : D) (S : Store) : Ev D := match d with
  | .str z => if z.length ≤ sizeLine then ret (.int z.length) S else none
  | d => match seqD S d with
    | some ds => ret (.int ds.length) S
    | none => none
theorem vl_len : VL X.K CT W (fun xs H Q => ∃ x n, xs = [x] ∧ LenV X.K x H n ∧ Q (.int n) H) (k1 kLen) := fun A F mm S H σ Q ds vs s r h => by
  obtain ⟨d, v, rfl, r, h⟩ := k1_case h r
  unfold kLen at h
  split at h
  · rename_i z
    split at h
    · rename_i c
      exact ⟨v, z.length, rfl, by rw [show v = .str z from r]; exact ⟨c, rfl⟩, h.now s rfl⟩
    · exact h.elim
  · split at h
    · rename_i es e1
      obtain ⟨a, us, rfl, h1, h2⟩ := s.seqD e1 r
      refine ⟨.ref a, es.length, rfl, ?_, h.now s rfl⟩
      rw [h2.length]
      rcases h1 with h1 | h1
      · exact .inl ⟨us, h1, rfl⟩
      · exact .inr ⟨us, h1, rfl⟩
    · exact h.elim
def kInt (d : D) (S : Store) : Ev D := match d with
  | .int i => ret (.int i) S
  | .bl b => ret (.int (if b then 1 else 0)) S
  | _ => none
theorem vl_int : VL X.K CT W (fun xs H Q => (∃ i, xs = [.int i] ∧ Q (.int i) H) ∨ ∃ k, xs = [.bl k] ∧ Q (.int (if k then 1 else 0)) H) (k1 kInt) := fun A F mm S H σ Q ds vs s r h => by
  obtain ⟨d, v, rfl, r, h⟩ := k1_case h r
  unfold kInt at h
  split at h
  · rename_i i; exact .inl ⟨i, by rw [show v = .int i from r], h.now s rfl⟩
  · rename_i b; exact .inr ⟨b, by rw [show v = .bl b from r], h.now s rfl⟩
  · exact h.elim
def kAbs (d : D) (S : Store) : Ev D := match d with
  | .int i => ret (.int (if i < 0 then -i else i)) S
  | _ => none
theorem vl_abs : VL X.K CT W (fun xs H Q => ∃ i, xs = [.int i] ∧ Q (.int (if i < 0 then -i else i)) H) (k1 kAbs) := fun A F mm S H σ Q ds vs s r h => by
  obtain ⟨d, v, rfl, r, h⟩ := k1_case h r
  unfold kAbs at h
  split at h
  · rename_i i; exact ⟨i, by rw [show v = .int i from r], h.now s rfl⟩
  · exact h.elim
def kMax2 : D → D → Store → Ev D := kI fun i j => some (.int (if j > i then j else i))
def kMin2 : D → D → Store → Ev D := kI fun i j => some (.int (if j < i then j else i))
theorem vl_ii {g : Int → Int → Int} : VL X.K CT W (fun xs H Q => ∃ i j, xs = [.int i, .int j] ∧ Q (.int (g i j)) H) (k2 (kI fun i j => some (.int (g i j)))) := fun A F mm S H σ Q ds vs s r h => by
  obtain ⟨d, v, e, w, rfl, r1, r2, h⟩ := k2_case h r
  unfold kI at h
  split at h
  · rename_i i j
    exact ⟨i, j, by rw [show v = .int i from r1, show w = .int j from r2], h.now s rfl⟩
  · exact h.elim
theorem vl_max2 : VL X.K CT W (fun xs H Q => ∃ i j, xs = [.int i, .int j] ∧ Q (.int (if j > i then j else i)) H) (k2 kMax2) := vl_ii
theorem vl_min2 : VL X.K CT W (fun xs H Q => ∃ i j, xs = [.int i, .int j] ∧ Q (.int (if j < i then j else i)) H) (k2 kMin2) := vl_ii
/-! sum, all, any, tuple, list -/
def kSum (d : D) (S : Store) : Ev D := match lstD S d with
  | some ds => match intsOf ds with
    | some ns => ret (.int ns.sum) S
    | none => none
  | none => none
theorem vl_sum : VL X.K CT W (rSum X.K) (k1 kSum) := fun A F mm S H σ Q ds vs s r h => by
  obtain ⟨d, v, rfl, r, h⟩ := k1_case h r
  unfold kSum at h
  split at h
  · rename_i es e1
    split at h
    · rename_i ns e2
      obtain ⟨a, us, rfl, h1, h2⟩ := s.lstD e1 r
      rw [intsOf_rep e2 h2] at h1
      exact ⟨a, ns, rfl, .inl (.inl h1), h.now s rfl⟩
    · exact h.elim
  · exact h.elim
def blsOf : List D → Option (List Bool)
  | [] => some []
  | .bl i :: ds => (blsOf ds).map (i :: ·)
  | _ :: _ => none
theorem blsOf_rep {K : PySem.W.Frag} {F : Hp} {mm : List Addr} : ∀ {ds : List D} {ns : List Bool} {vs : List V}, blsOf ds = some ns → Reps K CT F mm ds vs → vs = ns.map V.bl
  | [], ns, vs, e, r => by cases e; exact r
  | d :: ds, ns, vs, e, ⟨v, r, h1, h2, h3⟩ => by
    cases d with
    | bl i =>
      obtain ⟨ms, e1, rfl⟩ := Option.map_eq_some_iff.mp (show (blsOf ds).map (i :: ·) = some ns from e)
      rw [h1, blsOf_rep e1 h3, show v = V.bl i from h2]
      rfl
    | _ => cases e
/-- any, all over a list or tuple of truths or of ints -/
def TrvV : V → Option Bool
  | .bl b => some b
  | .int i => some (i != 0)
  | _ => none
def TrvD : D → Option Bool
  | .bl b => some b
  | .int i => some (i != 0)
  | _ => none
def trvs : List D → Option (List Bool)
  | [] => some []
  | d :: ds => match TrvD d, trvs ds with
    | some b, some bs => some (b :: bs)
    | _, _ => none
def Trvs (vs : List V) (bs : List Bool) : Prop := vs.map TrvV = bs.map some
theorem trvs_rep {K : PySem.W.Frag} {F : Hp} {mm : List Addr} : ∀ {ds : List D} {bs : List Bool} {vs : List V}, trvs ds = some bs → Reps K CT F mm ds vs → Trvs vs bs
  | [], bs, vs, e, r => by cases e; rw [show vs = [] from r]; rfl
  | d :: ds, bs, vs, e, ⟨v, r, h1, h2, h3⟩ => by
    unfold trvs at e
    split at e
    · rename_i b cs e1 e2
      cases e
      have q := trvs_rep e2 h3
      unfold Trvs at q ⊢
      rw [h1, List.map_cons, List.map_cons, q]
      congr 1
      cases d with
      | bl x => rw [show v = .bl x from h2]; exact e1
      | int x => rw [show v = .int x from h2]; exact e1
      | _ => cases e1
    · cases e
end
section
variable {X : Cx} {CT : Cfg} {W : WX} {pins : List (Addr × Obj)} {σ : L2.St} {H : Hp} {s : Shared}
theorem truth_of {prog : Program} {w : World} {A : Around} {vs : List V} {bs : List Bool} {its : List Value} (r : Vals vs its) (t : Trvs vs bs) :
    TruthOf prog w A (fun i v => its.toArray[i]? = some v) (fun i => bs.getD i false) := fun i v s Q E hv hq => by
  have hv' : its[i]? = some v := by simpa using hv
  have hi : i < vs.length := by rw [r.length]; exact (List.getElem?_eq_some_iff.mp hv').1
  obtain ⟨u, e1, e2⟩ := r.get (List.getElem?_eq_getElem hi)
  rw [hv'] at e1; cases e1
  have q : (vs.map TrvV)[i]? = (bs.map some)[i]? := by rw [t]
  rw [List.getElem?_map, List.getElem?_map, List.getElem?_eq_getElem hi] at q
  cases eb : bs[i]? with
  | none => rw [eb] at q; cases q
  | some b =>
    rw [eb] at q
    have q : TrvV vs[i] = some b := Option.some.inj q
    have hg : bs.getD i false = b := by rw [List.getD_eq_getElem?_getD, eb]; rfl
    have hq' : Q (bs.getD i false) s := hq
    rw [hg] at hq'
    generalize vs[i] = x at q e2
    cases x with
    | bl c => cases e2; cases q; exact wpAny_truthy_bool hq'
    | int j => obtain ⟨t, rfl⟩ := e2; cases q; exact PySem.P.truthy_int hq'
    | _ => cases q
def rAnyT (K : PySem.W.Frag) : List V → Hp → VK → Prop := fun vs H Q => ∃ (a : Addr) (xs : List V) (bs : List Bool), vs = [V.ref a] ∧ (SqL K H a xs ∨ SqT K H a xs) ∧ Trvs xs bs ∧ Q (.bl (bs.any id)) H
def rAllT (K : PySem.W.Frag) : List V → Hp → VK → Prop := fun vs H Q => ∃ (a : Addr) (xs : List V) (bs : List Bool), vs = [V.ref a] ∧ (SqL K H a xs ∨ SqT K H a xs) ∧ Trvs xs bs ∧ Q (.bl (bs.all id)) H
theorem Trvs.length {vs : List V} {bs : List Bool} (t : Trvs vs bs) : vs.length = bs.length := by
  have := congrArg List.length t
  simpa using this
theorem iter_anyT {prog : Program} {w : World} {A : Around} {E : Value → Shared → Prop} {s : Shared} {l : Addr} {items : Array Value} {Q : Value → Shared → Prop} (hl : s.heap.IsTuple l items)
    (h : ∀ s₂ : Shared, s₂ = { s with heap := s.heap.push { cls := .type "tuple_iterator", data := .fields #[.ref l, .int 0 0] } } →
      (s₂.heap.IsTupleIter s.heap.objs.size l 0 ∧ s₂.heap.IsTuple l items) → l ≠ s.heap.objs.size → Q (.ref s.heap.objs.size) s₂) : wpAny (model prog w) A (pyIter (.ref l)) Q E s := by
  have hlt : l < s.heap.objs.size := by obtain ⟨_, e, _⟩ := hl; exact Heap.lt_size e
  refine wpAny_pyIter_tuple hl (h _ rfl ⟨⟨_, Heap.get?_push_size _ rfl, rfl, rfl⟩, ?_⟩ (Nat.ne_of_lt hlt))
  obtain ⟨o, e, q⟩ := hl
  exact ⟨o, Heap.get?_push_of_some _ e, q⟩
theorem cr_anyT (hc : X.calm = true) : CallR X (.builtin "any") (rAnyT X.K) := by
  intro pins s σ H vs us Q I r h
  obtain ⟨a, xs, bs, rfl, hs, t, q⟩ := h
  have hlen := t.length
  rw [Vals.ref1 r]
  rcases hs with hs | hs
  · obtain ⟨its, rv, hl, _⟩ := I.list hs
    have l2 := rv.length
    refine call_any_walk (iter_any hl.isList fun s₂ e2 st hne => ?_)
    subst e2
    refine ⟨_, _, _, _, _, _, _, rfl, Walks.list (A := X.A.in1) (I.ok.hd hc) _ a hne its.toArray, st, truth_of rv t, fun h' tk hk => ?_⟩
    refine ⟨.bl _, H, I.kept fun b o eo => hk b o (fun hmem => ?_) (Heap.get?_push_of_some _ eo), ?_, q⟩
    · rcases List.mem_cons.mp hmem with e1 | hmem
      · exact absurd (e1 ▸ Heap.lt_size eo) (Nat.lt_irrefl _)
      · cases hmem
    · show Value.bool _ = Value.bool _
      rw [← L2.any_range, List.size_toArray, ← l2, hlen]
  · obtain ⟨its, rv, hl, _⟩ := I.tuple hs
    have l2 := rv.length
    refine call_any_walk (iter_anyT (show s.heap.IsTuple a its.toArray from hl) fun s₂ e2 st hne => ?_)
    subst e2
    refine ⟨_, _, _, _, _, _, _, rfl, Walks.tuple (A := X.A.in1) (I.ok.hd hc) _ a hne its.toArray, st, truth_of rv t, fun h' tk hk => ?_⟩
    refine ⟨.bl _, H, I.kept fun b o eo => hk b o (fun hmem => ?_) (Heap.get?_push_of_some _ eo), ?_, q⟩
    · rcases List.mem_cons.mp hmem with e1 | hmem
      · exact absurd (e1 ▸ Heap.lt_size eo) (Nat.lt_irrefl _)
      · cases hmem
    · show Value.bool _ = Value.bool _
      rw [← L2.any_range, List.size_toArray, ← l2, hlen]
theorem cr_allT (hc : X.calm = true) : CallR X (.builtin "all") (rAllT X.K) := by
  intro pins s σ H vs us Q I r h
  obtain ⟨a, xs, bs, rfl, hs, t, q⟩ := h
  have hlen := t.length
  rw [Vals.ref1 r]
  rcases hs with hs | hs
  · obtain ⟨its, rv, hl, _⟩ := I.list hs
    have l2 := rv.length
    refine call_all_walk (iter_any hl.isList fun s₂ e2 st hne => ?_)
    subst e2
    refine ⟨_, _, _, _, _, _, _, rfl, Walks.list (A := X.A.in1) (I.ok.hd hc) _ a hne its.toArray, st, truth_of rv t, fun h' tk hk => ?_⟩
    refine ⟨.bl _, H, I.kept fun b o eo => hk b o (fun hmem => ?_) (Heap.get?_push_of_some _ eo), ?_, q⟩
    · rcases List.mem_cons.mp hmem with e1 | hmem
      · exact absurd (e1 ▸ Heap.lt_size eo) (Nat.lt_irrefl _)
      · cases hmem
    · show Value.bool _ = Value.bool _
      rw [← L2.all_range, List.size_toArray, ← l2, hlen]
  · obtain ⟨its, rv, hl, _⟩ := I.tuple hs
    have l2 := rv.length
    refine call_all_walk (iter_anyT (show s.heap.IsTuple a its.toArray from hl) fun s₂ e2 st hne => ?_)
    subst e2
    refine ⟨_, _, _, _, _, _, _, rfl, Walks.tuple (A := X.A.in1) (I.ok.hd hc) _ a hne its.toArray, st, truth_of rv t, fun h' tk hk => ?_⟩
    refine ⟨.bl _, H, I.kept fun b o eo => hk b o (fun hmem => ?_) (Heap.get?_push_of_some _ eo), ?_, q⟩
    · rcases List.mem_cons.mp hmem with e1 | hmem
      · exact absurd (e1 ▸ Heap.lt_size eo) (Nat.lt_irrefl _)
      · cases hmem
    · show Value.bool _ = Value.bool _
      rw [← L2.all_range, List.size_toArray, ← l2, hlen]
def kAny (d : D) (S : Store) : Ev D := match seqD S d with
  | some ds => match trvs ds with
    | some bs => ret (.bl (bs.any id)) S
    | none => none
  | none => none
def kAll (d : D) (S : Store) : Ev D := match seqD S d with
  | some ds => match trvs ds with
    | some bs => ret (.bl (bs.all id)) S
    | none => none
  | none => none
theorem vl_any : VL X.K CT W (rAnyT X.K) (k1 kAny) := fun A F mm S H σ Q ds vs s r h => by
  obtain ⟨d, v, rfl, r, h⟩ := k1_case h r
  unfold kAny at h
  split at h
  · rename_i es e1
    split at h
    · rename_i bs e2
      obtain ⟨a, us, rfl, h1, h2⟩ := s.seqD e1 r
      exact ⟨a, us, bs, rfl, h1, trvs_rep e2 h2, h.now s rfl⟩
    · exact h.elim
  · exact h.elim
theorem vl_all : VL X.K CT W (rAllT X.K) (k1 kAll) := fun A F mm S H σ Q ds vs s r h => by
  obtain ⟨d, v, rfl, r, h⟩ := k1_case h r
  unfold kAll at h
  split at h
  · rename_i es e1
    split at h
    · rename_i bs e2
      obtain ⟨a, us, rfl, h1, h2⟩ := s.seqD e1 r
      exact ⟨a, us, bs, rfl, h1, trvs_rep e2 h2, h.now s rfl⟩
    · exact h.elim
  · exact h.elim
def kTuple (d : D) (S : Store) : Ev D := match d with
  | .tup ds => ret (.tup ds) S
  | d => match lstD S d with
    | some ds => if ds.length ≤ sizeLine then ret (.tup ds) S else none
    | none => none
theorem vl_tuple : VL X.K CT W (fun xs H Q => ∃ p ys, xs = [.ref p] ∧ ((SqL X.K H p ys ∧ ∀ l, H l = none → Q (.ref l) (upd H l (.tup ys))) ∨ (SqT X.K H p ys ∧ Q (.ref p) H))) (k1 kTuple) := fun A F mm S H σ Q ds vs s r h => by
  obtain ⟨d, v, rfl, r, h⟩ := k1_case h r
  unfold kTuple at h
  split at h
  · rename_i es
    obtain ⟨a, us, rfl, h1, h2, h3⟩ := id r
    exact ⟨a, us, rfl, .inr ⟨s.sqt h2, h.now s r⟩⟩
  · split at h
    · rename_i es e1
      split at h
      · rename_i c
        obtain ⟨a, us, rfl, h1, h2⟩ := s.lstD e1 r
        exact ⟨a, us, rfl, .inl ⟨.inl (.inl h1), h.newT s c h2⟩⟩
      · exact h.elim
    · exact h.elim
/-- list(xs): a new list -/
def cListOf (c : C (List D)) : C (List D) := thenC c fun _ ds S => match ds with
  | [d] => match seqD S d with
    | some es => if es.length ≤ sizeLine then ret es S else none
    | none => none
  | _ => none
theorem dn_list {x : Str} {p pos : Pos} {e : Expr} {es : List Expr} {c : C (List D)} (hx : x = "list" := by rfl) (hm : X.mg x = none) (ha : DAx X CT W (e :: es) c) (hg : Gl X x := by rfl) (hb : bootBuiltins x = some (.type "list") := by decide +kernel)
    (hn : x ≠ "__name__" := by decide) (hdb : (x == ("__debug__" : Str)) = false := by decide) (he : starEach (e :: es) X.env = (false, eval e X.env) :: starEach es X.env := by rfl) (hpl : (backTo pos (starEach es X.env)).any (·.1) = false := by rfl) :
    DNx X CT W (.Call (.Name x p) (e :: es) [] pos) (cListOf c) := (pe_callTy call_list_of hg hm hb ha hn hdb he hpl).weak fun σ H Q h => by
  refine (tG.step (R' := RL X.K CT) h).mono fun vs H1 h => ?_
  obtain ⟨A, F, mm, S, ρ, ds, s, h2, h3, h4⟩ := h
  split at h4
  · rename_i d
    obtain ⟨v, r', rfl, r1, r2⟩ := h3
    rw [show r' = [] from r2]
    split at h4
    · rename_i es' e1
      split at h4
      · rename_i c
        obtain ⟨a, us, rfl, g1, g2⟩ := s.seqD e1 r1
        exact ⟨a, us, rfl, g1, h4.new s c g2⟩
      · exact h4.elim
    · exact h4.elim
  · exact h4.elim
end
end DE

set_option Elab.async false
set_option linter.all false
set_option maxRecDepth 100000
set_option autoImplicit false
namespace DE
open PySem PySem.Spec PyProof.Rows L2

/-! ### statements -/
inductive Fl where
  | nx | rt (d : D) | bk | ct
inductive OutS where
  | go (f : Fl) (ρ : DEnv) (S : Store)
  | ex (x : Ex) (ρ : DEnv) (S : Store)
abbrev CS := DEnv → Store → Option OutS
def liftS {α : Type} (o : Ev α) (ρ : DEnv) (k : α → Store → Option OutS) : Option OutS := match o with
  | some (.ok a S) => k a S
  | some (.ex x S) => some (.ex x ρ S)
  | none => none
section
variable {K : PySem.W.Frag} {CT : Cfg}
def RunF (K : PySem.W.Frag) (CT : Cfg) (E : Ends) (F : Hp) (mm : List Addr) (H : Hp) (σ : L2.St) : Fl → Prop
  | .nx => E.nx σ H
  | .rt d => ∀ v, Rep K CT F mm d v → E.rt v H
  | .bk => E.bk σ H
  | .ct => E.ct σ H
def RunS (K : PySem.W.Frag) (CT : Cfg) (A : Asd) (W : WX) (o : Option OutS) (F : Hp) (mm : List Addr) (E : Ends) : Prop := match o with
  | some (.go f ρ S) => ∀ (F' : Hp) (mm' : List Addr) (H' : Hp) (σ' : L2.St), Ext F mm F' mm' → Sim K CT A F' mm' S H' → RepE K CT F' mm' ρ σ' → RunF K CT E F' mm' H' σ' f
  | some (.ex x ρ S) => ∀ (F' : Hp) (mm' : List Addr) (H' : Hp) (σ' : L2.St) (cls : Value) (d : Option Addr), Ext F mm F' mm' → Sim K CT A F' mm' S H' → RepE K CT F' mm' ρ σ' → XRep K CT F' mm' x cls d H' → W cls d σ' H'
  | none => False
def tS (K : PySem.W.Frag) (CT : Cfg) (W : WX) (c : CS) : TS := fun E σ H => ∃ A F mm S ρ, Sim K CT A F mm S H ∧ RepE K CT F mm ρ σ ∧ RunS K CT A W (c ρ S) F mm E
variable {W : WX} {σ : L2.St} {H : Hp} {A : Asd} {F F' : Hp} {mm mm' : List Addr} {S : Store} {ρ : DEnv} {E : Ends}
theorem RunS.ext {o : Option OutS} (h : RunS K CT A W o F mm E) (e : Ext F mm F' mm') : RunS K CT A W o F' mm' E := by
  match o, h with
  | some (.go f ρ S), h => exact fun F2 mm2 H' σ' e' s r => h F2 mm2 H' σ' (e.trans e') s r
  | some (.ex x ρ S), h => exact fun F2 mm2 H' σ' c d e' s r => h F2 mm2 H' σ' c d (e.trans e') s r
/-- the statement's expression, then what it does -/
theorem RunS.bind {α' β' : Type} {R' : Asd → Hp → List Addr → Hp → α' → β' → Prop} {o : Ev α'} {k : α' → Store → Option OutS} (h : RunS K CT A W (liftS o ρ k) F mm E) (h2 : RepE K CT F mm ρ σ) :
    Run K CT A W σ R' o F mm (fun b' H' => ∃ F' mm' a S', Ext F mm F' mm' ∧ Sim K CT A F' mm' S' H' ∧ R' A F' mm' H' a b' ∧ RunS K CT A W (k a S') F' mm' E) := by
  match o, h with
  | some (.ok a S'), h => exact fun F' mm' H' b e s r => ⟨F', mm', a, S', e, s, r, RunS.ext (o := k a S') h e⟩
  | some (.ex x S'), h => exact fun F' mm' H' cls d e s r => h F' mm' H' σ cls d e s (h2.ext e) r
def cStep {α : Type} (a : C α) (k : DEnv → α → Store → Option OutS) : CS := fun ρ S => liftS (a ρ S) ρ (k ρ)
theorem tS.step {α' β' : Type} {R' : Asd → Hp → List Addr → Hp → α' → β' → Prop} {a : C α'} {k : DEnv → α' → Store → Option OutS} (h : tS K CT W (cStep a k) E σ H) :
    tG K CT W R' a σ H (fun b' H' => ∃ A F mm S ρ x, Sim K CT A F mm S H' ∧ RepE K CT F mm ρ σ ∧ R' A F mm H' x b' ∧ RunS K CT A W (k ρ x S) F mm E) := by
  obtain ⟨A, F, mm, S, ρ, h1, h2, h3⟩ := h
  refine ⟨A, F, mm, S, ρ, h1, h2, ?_⟩
  refine Run.mono (RunS.bind (R' := R') h3 h2) fun b' H' ⟨F', mm', a, S', e, s, r, h⟩ => ⟨A, F', mm', S', ρ, a, s, h2.ext e, r, h⟩
theorem RunS.now {f : Fl} (h : RunS K CT A W (some (.go f ρ S)) F mm E) (s : Sim K CT A F mm S H) (r : RepE K CT F mm ρ σ) : RunF K CT E F mm H σ f := h F mm H σ Ext.refl s r
/-- another end behind -/
theorem RunS.ends {o : Option OutS} {E' : Ends} (h : RunS K CT A W o F mm E) (q : ∀ (f : Fl) (ρ : DEnv) (S : Store), o = some (.go f ρ S) → ∀ F' mm' H' σ', Ext F mm F' mm' → Sim K CT A F' mm' S H' → RepE K CT F' mm' ρ σ' → RunF K CT E F' mm' H' σ' f → RunF K CT E' F' mm' H' σ' f) : RunS K CT A W o F mm E' := by
  match o, h with
  | some (.go f ρ S), h => exact fun F2 mm2 H' σ' e' s r => q f ρ S rfl F2 mm2 H' σ' e' s r (h F2 mm2 H' σ' e' s r)
  | some (.ex x ρ S), h => exact h
end
section
variable {X : Cx} {CT : Cfg} {W : WX} {st : Stmt} {rest : List Stmt} {e : Expr} {pos : Pos}
abbrev DSx (X : Cx) (CT : Cfg) (W : WX) (st : Stmt) (c : CS) : Prop := PS X st (tS X.K CT W c)
abbrev DBx (X : Cx) (CT : Cfg) (W : WX) (sts : List Stmt) (c : CS) : Prop := PSs X sts (tS X.K CT W c)
def cSkip : CS := fun ρ S => some (.go .nx ρ S)
def cSeq (a b : CS) : CS := fun ρ S => match a ρ S with
  | some (.go .nx ρ' S') => b ρ' S'
  | o => o
theorem db_nil : DBx X CT W [] cSkip := pss_nil.weak fun E σ H h => by
  obtain ⟨A, F, mm, S, ρ, s, h2, h3⟩ := h
  exact h3.now s h2
theorem run_seq {K : PySem.W.Frag} {a b : CS} (E : Ends) (σ : L2.St) (H : Hp) (h : tS K CT W (cSeq a b) E σ H) : tSeq (tS K CT W a) (tS K CT W b) E σ H := by
  obtain ⟨A, F, mm, S, ρ, s, h2, h3⟩ := h
  refine ⟨A, F, mm, S, ρ, s, h2, ?_⟩
  unfold cSeq at h3
  generalize a ρ S = o at h3
  match o, h3 with
  | some (.go .nx ρ' S'), h3 => exact fun F' mm' H' σ' e s r => ⟨A, F', mm', S', ρ', s, r, RunS.ext (o := b ρ' S') h3 e⟩
  | some (.go (.rt d) ρ' S'), h3 => exact h3
  | some (.go .bk ρ' S'), h3 => exact h3
  | some (.go .ct ρ' S'), h3 => exact h3
  | some (.ex x ρ' S'), h3 => exact h3
theorem db_cons {a b : CS} (h1 : DSx X CT W st a) (h2 : DBx X CT W rest b) : DBx X CT W (st :: rest) (cSeq a b) := (pss_cons h1 h2).weak run_seq
theorem db_one {a : CS} (h1 : DSx X CT W st a) : DBx X CT W [st] a := pss_one h1
def cBrk : CS := fun ρ S => some (.go .bk ρ S)
def cCont : CS := fun ρ S => some (.go .ct ρ S)
theorem ds_pass : DSx X CT W (.Pass pos) cSkip := ps_pass.weak fun E σ H h => by
  obtain ⟨A, F, mm, S, ρ, s, h2, h3⟩ := h
  exact h3.now s h2
theorem ds_break : DSx X CT W (.Break pos) cBrk := ps_break.weak fun E σ H h => by
  obtain ⟨A, F, mm, S, ρ, s, h2, h3⟩ := h
  exact h3.now s h2
theorem ds_continue : DSx X CT W (.Continue pos) cCont := ps_continue.weak fun E σ H h => by
  obtain ⟨A, F, mm, S, ρ, s, h2, h3⟩ := h
  exact h3.now s h2
def cDrop (a : C D) : CS := cStep a fun ρ _ S => some (.go .nx ρ S)
theorem ds_expr {a : C D} (he : DEx X CT W e a) (hs : swapsWith e none pos.line X.env = pure false := by rfl) : DSx X CT W (.Expr e pos) (cDrop a) := (ps_expr he hs).weak fun E σ H h => by
  refine (tS.step (R' := RD X.K CT) h).mono fun v H1 h => ?_
  obtain ⟨A, F, mm, S, ρ, x, s, h2, h3, h4⟩ := h
  exact h4.now s h2
def cRet (a : C D) : CS := cStep a fun ρ x S => some (.go (.rt x) ρ S)
theorem ds_ret {a : C D} (he : DEx X CT W e a) : DSx X CT W (.Return (some e) pos) (cRet a) := (ps_ret he).weak fun E σ H h => by
  refine (tS.step (R' := RD X.K CT) h).mono fun v H1 h => ?_
  obtain ⟨A, F, mm, S, ρ, x, s, h2, h3, h4⟩ := h
  exact h4.now s h2 v h3
/-- .. what lives at the place that is returned is fixed from now on -/
def stillD (x : D) (S : Store) : Option (D × Store) := match x with
  | .ref n => match S[n]? with
    | some (some (.lst ds)) => if ds.length ≤ sizeLine then some (.lst ds, S.set n none) else none
    | some (some (.ins C fs)) => some (.ins C fs, S.set n none)
    | _ => none
  | _ => none
theorem still_rep {K : PySem.W.Frag} {A : Asd} {F : Hp} {mm : List Addr} {S S' : Store} {H : Hp} {x d : D} {v : V} (s : Sim K CT A F mm S H) (r : Rep K CT F mm x v) (e : stillD x S = some (d, S')) : ∃ F', Ext F mm F' mm ∧ Sim K CT A F' mm S' H ∧ Rep K CT F' mm d v := by
  cases x with
  | ref n =>
    obtain ⟨a, ha, rfl⟩ := r
    unfold stillD at e
    dsimp only at e
    split at e
    · rename_i ds q
      split at e
      · rename_i c
        obtain ⟨b, hb, hF, o, ho, vs, rfl, h2⟩ := s.live n _ q
        rw [ha] at hb; cases hb
        cases e
        obtain ⟨s2, _⟩ := s.still q ha ho
        exact ⟨_, Ext.fix hF, s2, a, vs, rfl, c, upd_same, h2.ext (Ext.fix hF)⟩
      · cases e
    · rename_i C fs q
      obtain ⟨b, hb, hF, o, ho, Ca, dx, fvs, rfl, h1, h2⟩ := s.live n _ q
      rw [ha] at hb; cases hb
      cases e
      obtain ⟨s2, _⟩ := s.still q ha ho
      exact ⟨_, Ext.fix hF, s2, a, Ca, dx, fvs, rfl, h1, upd_same, h2.ext (Ext.fix hF)⟩
    · cases e
  | _ => cases e
def cStill (a : C D) : C D := thenC a fun _ x S => match stillD x S with
  | some (d, S') => ret d S'
  | none => none
theorem de_still {a : C D} (h : DEx X CT W e a) : DEx X CT W e (cStill a) := h.weak fun σ H Q h => by
  refine (tG.step (R' := RD X.K CT) h).mono fun v H1 h => ?_
  obtain ⟨A, F, mm, S, ρ, x, s, h2, h3, h4⟩ := h
  split at h4
  · rename_i d S' q
    obtain ⟨F', e', s', r'⟩ := still_rep s h3 q
    exact h4 F' mm H1 v e' s' r'
  · exact h4.elim
def cRetN : CS := fun ρ S => some (.go (.rt .non) ρ S)
theorem ds_retN : DSx X CT W (.Return none pos) cRetN := ps_retN.weak fun E σ H h => by
  obtain ⟨A, F, mm, S, ρ, s, h2, h3⟩ := h
  exact h3.now s h2 .non rfl
def cIfS (c : C Bool) (a b : CS) : CS := cStep c fun ρ x S => if x = true then a ρ S else b ρ S
theorem ds_if {ec : Expr} {sa sb : List Stmt} {c : C Bool} {a b : CS} (hc : DTx X CT W ec c) (ha : DBx X CT W sa a) (hb : DBx X CT W sb b) : DSx X CT W (.If ec sa sb pos) (cIfS c a b) := (ps_if hc ha hb).weak fun E σ H h => by
  refine (tS.step (R' := RB) h).mono fun v H1 h => ?_
  obtain ⟨A, F, mm, S, ρ, x, s, h2, rfl, h4⟩ := h
  by_cases q : x = true
  · subst q; exact iteT ⟨A, F, mm, S, ρ, s, h2, h4⟩
  · have q := Bool.eq_false_iff.mpr q
    subst q; exact iteF ⟨A, F, mm, S, ρ, s, h2, h4⟩
theorem RepE.set {K : PySem.W.Frag} {F : Hp} {mm : List Addr} {ρ : DEnv} {σ : L2.St} {i : Nat} {d : D} {v : V} (h : RepE K CT F mm ρ σ) (r : Rep K CT F mm d v) : RepE K CT F mm (ρ.set i (some d)) (σ.set i (some v)) := by
  refine ⟨by rw [List.length_set, List.length_set]; exact h.1, fun j d' e => ?_⟩
  by_cases hj : i = j
  · subst hj
    have hl : i < ρ.length := by
      have := (List.getElem?_eq_some_iff.mp e).1
      rwa [List.length_set] at this
    rw [List.getElem?_set_self hl] at e
    cases e
    exact ⟨v, by rw [List.getElem?_set_self (by rw [← h.1]; exact hl)], r⟩
  · rw [List.getElem?_set_ne hj] at e
    obtain ⟨w, q, r⟩ := h.2 j d' e
    exact ⟨w, by rw [List.getElem?_set_ne hj]; exact q, r⟩

/-! ### targets -/
/-- slots other than those at is are as they were -/
def Keeps (is : List Nat) (σ σ' : L2.St) : Prop := σ'.length = σ.length ∧ ∀ i, i ∉ is → σ'[i]? = σ[i]?
abbrev CG := D → DEnv → Store → Option (DEnv × Store)
def tGt (K : PySem.W.Frag) (CT : Cfg) (is : List Nat) (g : CG) : TG := fun v σ H Q => ∃ A F mm S ρ d, Sim K CT A F mm S H ∧ RepE K CT F mm ρ σ ∧ Rep K CT F mm d v ∧ ∃ ρ' S', g d ρ S = some (ρ', S') ∧
  ∀ F' mm' H' σ', Ext F mm F' mm' → Sim K CT A F' mm' S' H' → RepE K CT F' mm' ρ' σ' → Keeps is σ σ' → Q σ' H'
abbrev CGs := List D → DEnv → Store → Option (DEnv × Store)
def tGts (K : PySem.W.Frag) (CT : Cfg) (is : List Nat) (g : CGs) : TGs := fun vs σ H Q => ∃ A F mm S ρ ds, Sim K CT A F mm S H ∧ RepE K CT F mm ρ σ ∧ Reps K CT F mm ds vs ∧ ∃ ρ' S', g ds ρ S = some (ρ', S') ∧
  ∀ F' mm' H' σ', Ext F mm F' mm' → Sim K CT A F' mm' S' H' → RepE K CT F' mm' ρ' σ' → Keeps is σ σ' → Q σ' H'
abbrev DGx (X : Cx) (CT : Cfg) (is : List Nat) (tg : Expr) (g : CG) : Prop := PG X tg (tGt X.K CT is g)
abbrev DGsx (X : Cx) (CT : Cfg) (is : List Nat) (tgs : List Expr) (g : CGs) : Prop := PGs X tgs (tGts X.K CT is g)
theorem _root_.L2.PG.weak {X : Cx} {e : Expr} {t t' : TG} (h : PG X e t) (f : ∀ v σ H Q, t' v σ H Q → t v σ H Q) : PG X e t' := ⟨fun pins s σ H v u Q I r hw => h.run pins s σ H v u Q I r (f v σ H Q hw)⟩
theorem _root_.L2.PGs.weak {X : Cx} {e : List Expr} {t t' : TGs} (h : PGs X e t) (f : ∀ v σ H Q, t' v σ H Q → t v σ H Q) : PGs X e t' := ⟨fun pins s σ H v u Q I r hw => h.run pins s σ H v u Q I r (f v σ H Q hw)⟩
def gNm (i : Nat) : CG := fun d ρ S => some (ρ.set i (some d), S)
theorem keeps_set {σ : L2.St} {i : Nat} {v : V} : Keeps [i] σ (σ.set i (some v)) := ⟨List.length_set, fun j h => by rw [List.getElem?_set_ne (by simpa [eq_comm] using h)]⟩
theorem dg_name {i : Nat} {x : Str} (hN : X.N.Nodup) (hi : X.N[i]? = some x := by rfl) (hx : Loc X.env.scope x := by first | exact Or.inl rfl | exact Or.inr rfl) (hf : X.fn x = true ∨ X.env.scope.names.lookup x = some .local := by first | exact .inl rfl | exact .inr rfl | assumption) : DGx X CT [i] (.Name x pos) (gNm i) :=
  (pg_name hN hi hx hf).weak fun v σ H Q h => by
    obtain ⟨A, F, mm, S, ρ, d, s, h2, h3, ρ', S', e, q⟩ := h
    cases e
    exact q F mm H _ Ext.refl s (h2.set h3) keeps_set
def gNone : CGs := fun ds ρ S => match ds with
  | [] => some (ρ, S)
  | _ => none
def gMore (g : CG) (r : CGs) : CGs := fun ds ρ S => match ds with
  | d :: ds => (g d ρ S).bind fun p => r ds p.1 p.2
  | [] => none
theorem dgs_nil : DGsx X CT [] [] gNone := pgs_nil.weak fun vs σ H Q h => by
  obtain ⟨A, F, mm, S, ρ, ds, s, h2, h3, ρ', S', e, q⟩ := h
  cases ds with
  | nil => cases e; exact ⟨h3, q F mm H σ Ext.refl s h2 ⟨rfl, fun _ _ => rfl⟩⟩
  | cons d ds => cases e
theorem dgs_cons {is js : List Nat} {tg : Expr} {tgs : List Expr} {g : CG} {r : CGs} (h1 : DGx X CT is tg g) (h2 : DGsx X CT js tgs r)
    (hs : (assignEach (tg :: tgs) X.env).map (·.2) = assign tg X.env :: (assignEach tgs X.env).map (·.2) := by rfl) : DGsx X CT (is ++ js) (tg :: tgs) (gMore g r) := (pgs_cons h1 h2 hs).weak fun vs σ H Q h => by
  obtain ⟨A, F, mm, S, ρ, ds, s, h2, h3, ρ', S', e, q⟩ := h
  cases ds with
  | nil => cases e
  | cons d ds =>
    obtain ⟨v, vr, rfl, h4, h5⟩ := h3
    obtain ⟨⟨ρ1, S1⟩, e1, e2⟩ := Option.bind_eq_some_iff.mp (show (g d ρ S).bind _ = some _ from e)
    refine ⟨v, vr, rfl, A, F, mm, S, ρ, d, s, h2, h4, ρ1, S1, e1, fun F' mm' H' σ' e' s' r' k' => ?_⟩
    refine ⟨A, F', mm', S1, ρ1, ds, s', r', h5.ext e', ρ', S', e2, fun F2 mm2 H2 σ2 e3 s3 r3 k3 => q F2 mm2 H2 σ2 (e'.trans e3) s3 r3 ⟨k3.1.trans k'.1, fun i hi => ?_⟩⟩
    rw [k3.2 i (fun z => hi (List.mem_append_right _ z)), k'.2 i (fun z => hi (List.mem_append_left _ z))]
/-- (a, b, ..) = a tuple -/
def gTp (n : Nat) (r : CGs) : CG := fun d ρ S => match d with
  | .tup ds => if ds.length = n then r ds ρ S else none
  | _ => none
theorem dg_tup {is : List Nat} {es : List Expr} {k n : Nat} {r : CGs} (hc : X.calm = true) (h : DGsx X CT is es r) (hn : (assignEach es X.env).length = n := by rfl) (hst : (assignEach es X.env).findIdx? (·.1) = none := by rfl) : DGx X CT is (.Tuple es k pos) (gTp n r) :=
  (pg_tup hc h hn hst).weak fun v σ H Q h => by
    obtain ⟨A, F, mm, S, ρ, d, s, h2, h3, ρ', S', e, q⟩ := h
    unfold gTp at e
    split at e
    · rename_i ds
      split at e
      · rename_i c
        obtain ⟨a, vs, rfl, _, h4, h5⟩ := h3
        exact ⟨a, vs, rfl, s.sqt h4, by rw [← h5.length]; exact c, A, F, mm, S, ρ, ds, s, h2, h5, ρ', S', e, q⟩
      · cases e
    · cases e
def cAsg (a : C D) (g : CG) : CS := cStep a fun ρ x S => match g x ρ S with
  | some (ρ', S') => some (.go .nx ρ' S')
  | none => none
theorem run_asg {is : List Nat} {a : C D} {g : CG} (E : Ends) (σ : L2.St) (H : Hp) (h : tS X.K CT W (cAsg a g) E σ H) : tAsg (tD X.K CT W a) (tGt X.K CT is g) E σ H := by
  refine (tS.step (R' := RD X.K CT) h).mono fun v H1 h => ?_
  obtain ⟨A, F, mm, S, ρ, x, s, h2, h3, h4⟩ := h
  split at h4
  · rename_i ρ' S' q
    exact ⟨A, F, mm, S, ρ, x, s, h2, h3, ρ', S', q, fun F' mm' H' σ' e s r _ => h4 F' mm' H' σ' e s r⟩
  · exact h4.elim
theorem ds_asg {is : List Nat} {tg : Expr} {a : C D} {g : CG} (he : DEx X CT W e a) (hg : DGx X CT is tg g) (hs : swapsWithSole [tg] e pos.line X.env = pure false := by rfl) (hw : swappedStores [tg] e X.env = pure none := by rfl)
    (h1 : (assignEach [tg] X.env).map (·.2) = [assign tg X.env] := by rfl) : DSx X CT W (.Assign [tg] e pos) (cAsg a g) := (ps_asg he hg hs hw h1).weak run_asg
def cSet (i : Nat) (a : C D) : CS := cStep a fun ρ x S => some (.go .nx (ρ.set i (some x)) S)
theorem ds_set {i : Nat} {x : Str} {a : C D} {pos' : Pos} (hN : X.N.Nodup) (he : DEx X CT W e a) (hi : X.N[i]? = some x := by rfl) (hx : Loc X.env.scope x := by first | exact Or.inl rfl | exact Or.inr rfl) (hs : swapsWith e (some (.Name x pos')) pos.line X.env = pure false := by rfl)
    (hf : X.fn x = true ∨ X.env.scope.names.lookup x = some .local := by first | exact .inl rfl | exact .inr rfl | assumption) : DSx X CT W (.Assign [.Name x pos'] e pos) (cSet i a) := (ps_set hN hi hx he hs hf).weak fun E σ H h => by
  refine (tS.step (R' := RD X.K CT) h).mono fun v H1 h => ?_
  obtain ⟨A, F, mm, S, ρ, d, s, h2, h3, h4⟩ := h
  exact h4.now s (h2.set h3)
/-- a, b = x, y of plain names -/
def cPar (is : List Nat) (c : C (List D)) : CS := cStep c fun ρ ds S => if ds.length = is.length then some (.go .nx ((is.zip ds).foldl (fun ρ p => ρ.set p.1 (some p.2)) ρ) S) else none
theorem ds_par {i j : Nat} {x y : Str} {a b : Expr} {c : C (List D)} {px py pt : Pos} {kt k2 pt2} (hc : X.calm = true) (hN : X.N.Nodup) (ha : DAx X CT W [a, b] c) (hi : X.N[i]? = some x := by rfl) (hj : X.N[j]? = some y := by rfl) (hij : i ≠ j := by decide)
    (hx : X.env.scope.names.lookup x = some .local := by rfl) (hy : X.env.scope.names.lookup y = some .local := by rfl)
    (hw : swappedStores [.Tuple [.Name x px, .Name y py] kt pt] (.Tuple [a, b] k2 pt2) X.env = pure (some [x, y]) := by rfl)
    (hs : swapsWithSole [.Tuple [.Name x px, .Name y py] kt pt] (.Tuple [a, b] k2 pt2) pos.line X.env = pure false := by rfl) :
    DSx X CT W (.Assign [.Tuple [.Name x px, .Name y py] kt pt] (.Tuple [a, b] k2 pt2) pos) (cPar [i, j] c) := (L2.ps_par hc hN hi hj hij hx hy ha hw hs).weak fun E σ H h => by
  refine (tS.step (R' := RL X.K CT) h).mono fun vs H1 h => ?_
  obtain ⟨A, F, mm, S, ρ, ds, s, h2, h3, h4⟩ := h
  by_cases q : ds.length = [i, j].length
  · rw [if_pos q] at h4
    match ds, q, h3, h4 with
    | [d1, d2], _, ⟨v, r1, e1, g1, w, r2, e2, g2, e3⟩, h4 =>
      subst e1; subst e2
      rw [show r2 = [] from e3]
      exact ⟨v, w, rfl, h4.now s ((h2.set g1).set g2)⟩
  · rw [if_neg q] at h4; exact h4.elim
theorem ds_par3 {i j l : Nat} {x y z : Str} {a b d : Expr} {c : C (List D)} {px py pz pt : Pos} {kt k2 pt2} (hc : X.calm = true) (hN : X.N.Nodup) (ha : DAx X CT W [a, b, d] c) (hi : X.N[i]? = some x := by rfl) (hj : X.N[j]? = some y := by rfl) (hl : X.N[l]? = some z := by rfl) (hij : i ≠ j := by decide) (hil : i ≠ l := by decide) (hjl : j ≠ l := by decide)
    (hx : X.env.scope.names.lookup x = some .local := by rfl) (hy : X.env.scope.names.lookup y = some .local := by rfl) (hz : X.env.scope.names.lookup z = some .local := by rfl)
    (hw : swappedStores [.Tuple [.Name x px, .Name y py, .Name z pz] kt pt] (.Tuple [a, b, d] k2 pt2) X.env = pure (some [x, y, z]) := by rfl)
    (hs : swapsWithSole [.Tuple [.Name x px, .Name y py, .Name z pz] kt pt] (.Tuple [a, b, d] k2 pt2) pos.line X.env = pure false := by rfl) :
    DSx X CT W (.Assign [.Tuple [.Name x px, .Name y py, .Name z pz] kt pt] (.Tuple [a, b, d] k2 pt2) pos) (cPar [i, j, l] c) := (L2.ps_par3 hc hN hi hj hl hij hil hjl hx hy hz ha hw hs).weak fun E σ H h => by
  refine (tS.step (R' := RL X.K CT) h).mono fun vs H1 h => ?_
  obtain ⟨A, F, mm, S, ρ, ds, s, h2, h3, h4⟩ := h
  by_cases q : ds.length = [i, j, l].length
  · rw [if_pos q] at h4
    match ds, q, h3, h4 with
    | [d1, d2, d3], _, ⟨v, r1, e1, g1, w, r2, e2, g2, u, r3, e3, g3, e4⟩, h4 =>
      subst e1; subst e2; subst e3
      rw [show r3 = [] from e4]
      exact ⟨v, w, u, rfl, h4.now s (((h2.set g1).set g2).set g3)⟩
  · rw [if_neg q] at h4; exact h4.elim
end
end DE

set_option Elab.async false
set_option linter.all false
set_option maxRecDepth 100000
set_option autoImplicit false
namespace DE
open PySem PySem.Spec PyProof.Rows L2

/-! ### what is walked: data, one by one -/
structure ItOk (K : PySem.W.Frag) (CT : Cfg) (J : It) (ds : List D) (F : Hp) (mm : List Addr) : Prop where
  go : ∀ (i : Nat) (d : D), ds[i]? = some d → ∀ A F' mm' S' H', Ext F mm F' mm' → Sim K CT A F' mm' S' H' → J.go i H' ∧ ∀ x H2, J.yld i H' x H2 → ∃ F2, Ext F' mm' F2 mm' ∧ Sim K CT A F2 mm' S' H2 ∧ Rep K CT F2 mm' d x
  stop : ∀ A F' mm' S' H', Ext F mm F' mm' → Sim K CT A F' mm' S' H' → J.stop ds.length H'
theorem ItOk.ext {K : PySem.W.Frag} {CT : Cfg} {J : It} {ds : List D} {F F' : Hp} {mm mm' : List Addr} (h : ItOk K CT J ds F mm) (e : Ext F mm F' mm') : ItOk K CT J ds F' mm' :=
  ⟨fun i d q A F2 mm2 S2 H2 e2 s2 => h.go i d q A F2 mm2 S2 H2 (e.trans e2) s2, fun A F2 mm2 S2 H2 e2 s2 => h.stop A F2 mm2 S2 H2 (e.trans e2) s2⟩
def RJ (K : PySem.W.Frag) (CT : Cfg) : Asd → Hp → List Addr → Hp → List D → It → Prop := fun _ F mm _ ds J => ItOk K CT J ds F mm
abbrev tI (K : PySem.W.Frag) (CT : Cfg) (W : WX) (c : C (List D)) : TI := tG K CT W (RJ K CT) c
section
variable {X : Cx} {CT : Cfg} {W : WX} {tg e : Expr} {pos : Pos}
abbrev DIx (X : Cx) (CT : Cfg) (W : WX) (tg iter : Expr) (c : C (List D)) : Prop := PI X tg iter (tI X.K CT W c)
theorem _root_.L2.PI.weak {X : Cx} {tg e : Expr} {t t' : TI} (h : PI X tg e t) (f : ∀ σ H Q, t' σ H Q → t σ H Q) : PI X tg e t' := ⟨fun pins s σ H Q I hw => h.run pins s σ H Q I (f σ H Q hw)⟩
/-- a tuple, a fixed list -/
theorem it_tup' {K : PySem.W.Frag} {F : Hp} {mm : List Addr} {a : Addr} {vs : List V} {ds : List D} (h : SqT K F a vs) (r : Reps K CT F mm ds vs) : ItOk K CT (Itt K a) ds F mm := by
  refine ⟨fun i d q A F' mm' S' H' e s => ?_, fun A F' mm' S' H' e s => ?_⟩
  · obtain ⟨v, q2, r2⟩ := r.get q
    refine ⟨⟨vs, v, s.sqt (e.sqt h), q2⟩, fun x H2 y => ?_⟩
    obtain ⟨rfl, y⟩ := y
    have := y vs (s.sqt (e.sqt h))
    rw [q2] at this; cases this
    exact ⟨F', Ext.refl, s, Rep.ext e r2⟩
  · exact ⟨vs, s.sqt (e.sqt h), by rw [r.length]; exact Nat.le_refl _⟩
theorem it_lst {K : PySem.W.Frag} {F : Hp} {mm : List Addr} {a : Addr} {vs : List V} {ds : List D} (h : SqL K F a vs) (r : Reps K CT F mm ds vs) : ItOk K CT (Itl K a) ds F mm := by
  refine ⟨fun i d q A F' mm' S' H' e s => ?_, fun A F' mm' S' H' e s => ?_⟩
  · obtain ⟨v, q2, r2⟩ := r.get q
    refine ⟨⟨vs, v, s.sql (e.sql h), q2⟩, fun x H2 y => ?_⟩
    obtain ⟨rfl, y⟩ := y
    have := y vs (s.sql (e.sql h))
    rw [q2] at this; cases this
    exact ⟨F', Ext.refl, s, Rep.ext e r2⟩
  · exact ⟨vs, s.sql (e.sql h), by rw [r.length]; exact Nat.le_refl _⟩
def cItT (a : C D) : C (List D) := thenC a fun _ x S => match x with
  | .tup ds => ret ds S
  | _ => none
def cItL (a : C D) : C (List D) := thenC a fun _ x S => match x with
  | .lst ds => ret ds S
  | .scr ns => ret (ns.map D.int) S
  | _ => none
theorem di_tup {a : C D} (h : DEx X CT W e a) : DIx X CT W tg e (cItT a) := (pi_tup h).weak fun σ H Q h => by
  refine (tG.step (R' := RD X.K CT) h).mono fun v H1 h => ?_
  obtain ⟨A, F, mm, S, ρ, x, s, h2, h3, h4⟩ := h
  split at h4
  · rename_i ds
    obtain ⟨a, vs, rfl, _, g1, g2⟩ := h3
    exact ⟨a, rfl, ⟨vs, s.sqt g1⟩, h4.now s (it_tup' g1 g2)⟩
  · exact h4.elim
theorem di_lst {a : C D} (h : DEx X CT W e a) : DIx X CT W tg e (cItL a) := (pi_list h).weak fun σ H Q h => by
  refine (tG.step (R' := RD X.K CT) h).mono fun v H1 h => ?_
  obtain ⟨A, F, mm, S, ρ, x, s, h2, h3, h4⟩ := h
  split at h4
  · rename_i ds
    obtain ⟨a, vs, rfl, _, g1, g2⟩ := h3
    exact ⟨a, rfl, ⟨vs, .inl (.inl (s.fz _ _ g1))⟩, h4.now s (it_lst (.inl (.inl g1)) g2)⟩
  · rename_i ns
    obtain ⟨a, rfl, g1⟩ := h3
    exact ⟨a, rfl, ⟨_, s.sql g1⟩, h4.now s (it_lst g1 (reps_ints ns))⟩
  · exact h4.elim
/-- a fixed list or a tuple, whichever it is: a name of the def whose value may be either -/
def rangeD (lo hi : Int) : List D := (List.range (hi - lo).toNat).map fun i => .int (lo + (i : Nat))
theorem rangeD_get {lo hi : Int} {i : Nat} {d : D} (h : (rangeD lo hi)[i]? = some d) : i < (hi - lo).toNat ∧ d = .int (lo + (i : Nat)) := by
  unfold rangeD at h
  rw [List.getElem?_map] at h
  obtain ⟨j, e1, e2⟩ := Option.map_eq_some_iff.mp h
  have hi' := (List.getElem?_eq_some_iff.mp e1).1
  rw [List.length_range] at hi'
  rw [List.getElem?_range hi'] at e1
  cases e1
  exact ⟨hi', e2.symm⟩
theorem it_range {K : PySem.W.Frag} {F : Hp} {mm : List Addr} {lo hi : Int} : ItOk K CT (Itr lo (hi - lo).toNat) (rangeD lo hi) F mm := by
  refine ⟨fun i d q A F' mm' S' H' e s => ?_, fun A F' mm' S' H' e s => ?_⟩
  · obtain ⟨h1, rfl⟩ := rangeD_get q
    refine ⟨h1, fun x H2 y => ?_⟩
    obtain ⟨rfl, rfl⟩ := y
    exact ⟨F', Ext.refl, s, rfl⟩
  · show (hi - lo).toNat ≤ (rangeD lo hi).length
    unfold rangeD; rw [List.length_map, List.length_range]; exact Nat.le_refl _
def cRange1 (c : C (List D)) : C (List D) := thenC c fun _ ds S => match ds with
  | [.int j] => if -(2 ^ 62) ≤ j ∧ j < 2 ^ 62 then ret (rangeD 0 j) S else none
  | _ => none
def cRange2 (c : C (List D)) : C (List D) := thenC c fun _ ds S => match ds with
  | [.int i, .int j] => if -(2 ^ 62) ≤ i ∧ i < 2 ^ 62 ∧ -(2 ^ 62) ≤ j ∧ j < 2 ^ 62 then ret (rangeD i j) S else none
  | _ => none
theorem di_range1 {a : Expr} {c : C (List D)} {p : Pos} (hm : X.mg "range" = none) (ha : DAx X CT W [a] c) (hg : Gl X "range" := by rfl) (hs : starEach [a] X.env = [(false, eval a X.env)] := by rfl) : DIx X CT W tg (.Call (.Name "range" p) [a] [] pos) (cRange1 c) :=
  (pi_range1 hg hm ha hs).weak fun σ H Q h => by
    refine (tG.step (R' := RL X.K CT) h).mono fun vs H1 h => ?_
    obtain ⟨A, F, mm, S, ρ, ds, s, h2, h3, h4⟩ := h
    split at h4
    · rename_i j
      obtain ⟨v, r, rfl, g1, g2⟩ := h3
      split at h4
      · rename_i c
        refine ⟨j, by rw [show v = .int j from g1, show r = [] from g2], c.1, c.2, ?_⟩
        have q := h4.now (b := Itr 0 (j - 0).toNat) s (it_range (K := X.K) (CT := CT) (F := F) (mm := mm) (lo := 0) (hi := j))
        rwa [Int.sub_zero] at q
      · exact h4.elim
    · exact h4.elim
theorem di_range2 {a b : Expr} {c : C (List D)} {p : Pos} (hm : X.mg "range" = none) (ha : DAx X CT W [a, b] c) (hg : Gl X "range" := by rfl) (hs : starEach [a, b] X.env = [(false, eval a X.env), (false, eval b X.env)] := by rfl) (hs2 : starEach [b] X.env = [(false, eval b X.env)] := by rfl) : DIx X CT W tg (.Call (.Name "range" p) [a, b] [] pos) (cRange2 c) :=
  (pi_range2 hg hm ha hs hs2).weak fun σ H Q h => by
    refine (tG.step (R' := RL X.K CT) h).mono fun vs H1 h => ?_
    obtain ⟨A, F, mm, S, ρ, ds, s, h2, h3, h4⟩ := h
    split at h4
    · rename_i i j
      obtain ⟨v, r, rfl, g1, w, r2, rfl, g2, g3⟩ := h3
      split at h4
      · rename_i c
        exact ⟨i, j, by rw [show v = .int i from g1, show w = .int j from g2, show r2 = [] from g3], c, h4.now s it_range⟩
      · exact h4.elim
    · exact h4.elim
/-- pairs of two rows of data -/
def pairsD (xs ys : List D) : List D := (xs.zip ys).map fun p => .tup [p.1, p.2]
theorem pairsD_get {xs ys : List D} {i : Nat} {d : D} (h : (pairsD xs ys)[i]? = some d) : ∃ x y, xs[i]? = some x ∧ ys[i]? = some y ∧ d = .tup [x, y] := by
  unfold pairsD at h
  rw [List.getElem?_map] at h
  obtain ⟨⟨x, y⟩, e1, e2⟩ := Option.map_eq_some_iff.mp h
  rw [List.getElem?_zip_eq_some] at e1
  exact ⟨x, y, e1.1, e1.2, e2.symm⟩
theorem line2 : 2 ≤ sizeLine := by decide
theorem it_zipL {K : PySem.W.Frag} {F : Hp} {mm : List Addr} {a b : Addr} {vs ws : List V} {xs ys : List D} (h1 : SqL K F a vs) (h2 : SqL K F b ws) (r1 : Reps K CT F mm xs vs) (r2 : Reps K CT F mm ys ws) : ItOk K CT (Itz K a b) (pairsD xs ys) F mm := by
  refine ⟨fun i d q A F' mm' S' H' e s => ?_, fun A F' mm' S' H' e s => ?_⟩
  · obtain ⟨x, y, e1, e2, rfl⟩ := pairsD_get q
    obtain ⟨v, q1, g1⟩ := r1.get e1
    obtain ⟨w, q2, g2⟩ := r2.get e2
    refine ⟨⟨vs, ws, v, w, s.sql (e.sql h1), s.sql (e.sql h2), q1, q2⟩, fun z H2 y => ?_⟩
    obtain ⟨T, x', y', rfl, nT, rfl, f1, f2⟩ := y
    have := f1 vs (s.sql (e.sql h1)); rw [q1] at this; cases this
    have := f2 ws (s.sql (e.sql h2)); rw [q2] at this; cases this
    have eF := Ext.fix (o := HO.tup [v, w]) (mm := mm') (s.fresh nT).1
    exact ⟨upd F' T (.tup [v, w]), eF, (s.free nT).fix (s.freshA nT) (s.fresh nT).1 (s.fresh nT).2 upd_same, T, [v, w], rfl, line2, .inl (.inl upd_same), v, [w], rfl, Rep.ext eF (Rep.ext e g1), w, [], rfl, Rep.ext eF (Rep.ext e g2), rfl⟩
  · refine ⟨vs, ws, s.sql (e.sql h1), s.sql (e.sql h2), ?_⟩
    unfold pairsD
    rw [List.length_map, List.length_zip, ← r1.length, ← r2.length]
    omega
theorem it_zipT {K : PySem.W.Frag} {F : Hp} {mm : List Addr} {a b : Addr} {vs ws : List V} {xs ys : List D} (h1 : SqT K F a vs) (h2 : SqT K F b ws) (r1 : Reps K CT F mm xs vs) (r2 : Reps K CT F mm ys ws) : ItOk K CT (RZ.ItzT K a b) (pairsD xs ys) F mm := by
  refine ⟨fun i d q A F' mm' S' H' e s => ?_, fun A F' mm' S' H' e s => ?_⟩
  · obtain ⟨x, y, e1, e2, rfl⟩ := pairsD_get q
    obtain ⟨v, q1, g1⟩ := r1.get e1
    obtain ⟨w, q2, g2⟩ := r2.get e2
    refine ⟨⟨vs, ws, v, w, s.sqt (e.sqt h1), s.sqt (e.sqt h2), q1, q2⟩, fun z H2 y => ?_⟩
    obtain ⟨T, x', y', rfl, nT, rfl, f1, f2⟩ := y
    have := f1 vs (s.sqt (e.sqt h1)); rw [q1] at this; cases this
    have := f2 ws (s.sqt (e.sqt h2)); rw [q2] at this; cases this
    have eF := Ext.fix (o := HO.tup [v, w]) (mm := mm') (s.fresh nT).1
    exact ⟨upd F' T (.tup [v, w]), eF, (s.free nT).fix (s.freshA nT) (s.fresh nT).1 (s.fresh nT).2 upd_same, T, [v, w], rfl, line2, .inl (.inl upd_same), v, [w], rfl, Rep.ext eF (Rep.ext e g1), w, [], rfl, Rep.ext eF (Rep.ext e g2), rfl⟩
  · refine ⟨vs, ws, s.sqt (e.sqt h1), s.sqt (e.sqt h2), ?_⟩
    unfold pairsD
    rw [List.length_map, List.length_zip, ← r1.length, ← r2.length]
    omega

/-! ### for -/
def forL (g : CG) (b : CS) : List D → CS
  | [], ρ, S => some (.go .nx ρ S)
  | d :: ds, ρ, S => match g d ρ S with
    | none => none
    | some (ρ1, S1) => match b ρ1 S1 with
      | some (.go .nx ρ2 S2) => forL g b ds ρ2 S2
      | some (.go .ct ρ2 S2) => forL g b ds ρ2 S2
      | some (.go .bk ρ2 S2) => some (.go .nx ρ2 S2)
      | o => o
def cFor (it : C (List D)) (g : CG) (b : CS) : CS := cStep it fun ρ ds S => forL g b ds ρ S
theorem run_for {is : List Nat} {it : C (List D)} {g : CG} {b : CS} (E : Ends) (σ : L2.St) (H : Hp) (h : tS X.K CT W (cFor it g b) E σ H) : tFor (tI X.K CT W it) (tGt X.K CT is g) (tS X.K CT W b) E σ H := by
  refine (tS.step (R' := RJ X.K CT) h).mono fun J H1 h => ?_
  obtain ⟨A0, F0, mm0, S0, ρ0, ds, s0, h2, hJ, h4⟩ := h
  refine ⟨fun i m σ H => m = ds.length - i ∧ i ≤ ds.length ∧ ∃ A F mm S ρ, Ext F0 mm0 F mm ∧ Sim X.K CT A F mm S H ∧ RepE X.K CT F mm ρ σ ∧ RunS X.K CT A W (forL g b (ds.drop i) ρ S) F mm E,
    ⟨ds.length, by simp, Nat.zero_le _, A0, F0, mm0, S0, ρ0, Ext.refl, s0, h2, h4⟩, ?_⟩
  rintro i m σ H ⟨rfl, hi, A, F, mm, S, ρ, e0, s, hr, hw⟩
  by_cases hlt : i < ds.length
  · have hd : ds.drop i = ds[i] :: ds.drop (i + 1) := List.drop_eq_getElem_cons hlt
    rw [hd] at hw
    obtain ⟨hgo, hy⟩ := hJ.go i ds[i] (List.getElem?_eq_getElem hlt) A F mm S H e0 s
    refine .inr ⟨hgo, fun σ' H' => ∃ A F mm S ρ, Ext F0 mm0 F mm ∧ Sim X.K CT A F mm S H' ∧ RepE X.K CT F mm ρ σ' ∧ RunS X.K CT A W (forL g b (ds.drop (i + 1)) ρ S) F mm E, fun σ' H' n => ⟨ds.length - (i + 1), by omega, rfl, hlt, n⟩, fun x H2 y => ?_⟩
    obtain ⟨F2, e2, s2, r2⟩ := hy x H2 y
    unfold forL at hw
    split at hw
    · exact hw.elim
    · rename_i ρ1 S1 q
      refine ⟨A, F2, mm, S, ρ, ds[i], s2, hr.ext e2, r2, ρ1, S1, q, fun F3 mm3 H3 σ3 e3 s3 r3 _ => ?_⟩
      refine ⟨A, F3, mm3, S1, ρ1, s3, r3, ?_⟩
      have e4 := e2.trans e3
      generalize hb : b ρ1 S1 = o at hw
      match o, hw with
      | some (.go .nx ρ2 S2), hw => exact fun F5 mm5 H5 σ5 e5 s5 r5 => ⟨A, F5, mm5, S2, ρ2, e0.trans (e4.trans e5), s5, r5, RunS.ext (o := forL g b _ ρ2 S2) hw (e4.trans e5)⟩
      | some (.go .ct ρ2 S2), hw => exact fun F5 mm5 H5 σ5 e5 s5 r5 => ⟨A, F5, mm5, S2, ρ2, e0.trans (e4.trans e5), s5, r5, RunS.ext (o := forL g b _ ρ2 S2) hw (e4.trans e5)⟩
      | some (.go .bk ρ2 S2), hw => exact fun F5 mm5 H5 σ5 e5 s5 r5 => hw F5 mm5 H5 σ5 (e4.trans e5) s5 r5
      | some (.go (.rt d) ρ2 S2), hw => exact fun F5 mm5 H5 σ5 e5 s5 r5 => hw F5 mm5 H5 σ5 (e4.trans e5) s5 r5
      | some (.ex x ρ2 S2), hw => exact fun F5 mm5 H5 σ5 c d e5 s5 r5 => hw F5 mm5 H5 σ5 c d (e4.trans e5) s5 r5
  · have e : i = ds.length := by omega
    subst e
    rw [List.drop_length] at hw
    exact .inl ⟨hJ.stop A F mm S H e0 s, hw.now s hr⟩
theorem ds_for {is : List Nat} {iter : Expr} {body : List Stmt} {it : C (List D)} {g : CG} {b : CS} (hp : PassesOwn (model X.prog X.w) X.A X.env X.xe) (hc : X.calm = true) (hi : DIx X CT W tg iter it) (hg : DGx X CT is tg g) (hb : DBx X CT W body b)
    (hs : ∀ x, foldedSetIterable iter X.env x = pure x := by intro _; rfl) : DSx X CT W (.For tg iter body [] pos) (cFor it g b) := (ps_for hp hc hi hg hb hs).weak run_for

/-! ### while: at most n turns -/
def whileN (c : C Bool) (b : CS) : Nat → CS
  | 0, _, _ => none
  | n + 1, ρ, S => liftS (c ρ S) ρ fun x S => if x = true then (match b ρ S with
      | some (.go .nx ρ2 S2) => whileN c b n ρ2 S2
      | some (.go .ct ρ2 S2) => whileN c b n ρ2 S2
      | some (.go .bk ρ2 S2) => some (.go .nx ρ2 S2)
      | o => o) else some (.go .nx ρ S)
theorem run_while {K : PySem.W.Frag} {c : C Bool} {b : CS} {n : Nat} (E : Ends) (σ : L2.St) (H : Hp) (h : tS K CT W (whileN c b n) E σ H) : tWhile (tB K CT W c) (tS K CT W b) E σ H := by
  obtain ⟨A, F, mm, S, ρ, s, h2, h3⟩ := h
  refine ⟨fun m σ H => ∃ A F mm S ρ, Sim K CT A F mm S H ∧ RepE K CT F mm ρ σ ∧ RunS K CT A W (whileN c b m ρ S) F mm E, ⟨n, A, F, mm, S, ρ, s, h2, h3⟩, ?_⟩
  rintro m σ H ⟨A, F, mm, S, ρ, s, hr, hw⟩
  cases m with
  | zero => exact hw.elim
  | succ m =>
    refine ⟨A, F, mm, S, ρ, s, hr, ?_⟩
    refine Run.mono (RunS.bind (R' := RB) hw hr) fun x H1 h => ?_
    obtain ⟨F1, mm1, x', S1, e1, s1, rfl, h⟩ := h
    by_cases q : x' = true
    · subst q
      refine iteT ⟨fun σ' H' => ∃ A F mm S ρ, Sim K CT A F mm S H' ∧ RepE K CT F mm ρ σ' ∧ RunS K CT A W (whileN c b m ρ S) F mm E, fun σ' H' n => ⟨m, Nat.lt_succ_self m, n⟩, A, F1, mm1, S1, ρ, s1, hr.ext e1, ?_⟩
      have h : RunS K CT A W (match b ρ S1 with
        | some (.go .nx ρ2 S2) => whileN c b m ρ2 S2
        | some (.go .ct ρ2 S2) => whileN c b m ρ2 S2
        | some (.go .bk ρ2 S2) => some (.go .nx ρ2 S2)
        | o => o) F1 mm1 E := h
      generalize hb : b ρ S1 = o at h
      match o, h with
      | some (.go .nx ρ2 S2), h => exact fun F5 mm5 H5 σ5 e5 s5 r5 => ⟨A, F5, mm5, S2, ρ2, s5, r5, RunS.ext (o := whileN c b m ρ2 S2) h e5⟩
      | some (.go .ct ρ2 S2), h => exact fun F5 mm5 H5 σ5 e5 s5 r5 => ⟨A, F5, mm5, S2, ρ2, s5, r5, RunS.ext (o := whileN c b m ρ2 S2) h e5⟩
      | some (.go .bk ρ2 S2), h => exact fun F5 mm5 H5 σ5 e5 s5 r5 => h F5 mm5 H5 σ5 e5 s5 r5
      | some (.go (.rt d) ρ2 S2), h => exact fun F5 mm5 H5 σ5 e5 s5 r5 => h F5 mm5 H5 σ5 e5 s5 r5
      | some (.ex x ρ2 S2), h => exact fun F5 mm5 H5 σ5 c d e5 s5 r5 => h F5 mm5 H5 σ5 c d e5 s5 r5
    · have q := Bool.eq_false_iff.mpr q
      subst q
      exact iteF (RunS.now (f := .nx) h s1 (hr.ext e1))
theorem ds_while {ec : Expr} {body : List Stmt} {c : C Bool} {b : CS} (n : Nat) (hp : PassesOwn (model X.prog X.w) X.A X.env X.xe) (hc : DTx X CT W ec c) (hb : DBx X CT W body b) : DSx X CT W (.While ec body [] pos) (whileN c b n) := (ps_while hp hc hb).weak run_while
end
end DE

set_option Elab.async false
set_option linter.all false
set_option maxRecDepth 100000
set_option autoImplicit false
namespace DE
open PySem PySem.Spec PyProof.Rows L2

/-! ### comprehensions -/
def wipeD (ρ : DEnv) : List Nat → DEnv
  | [] => ρ
  | v :: vs => (wipeD ρ vs).set v none
theorem wipeD_length (ρ : DEnv) : ∀ vs : List Nat, (wipeD ρ vs).length = ρ.length
  | [] => rfl
  | v :: vs => by unfold wipeD; rw [List.length_set, wipeD_length ρ vs]
theorem wipeD_in {ρ : DEnv} {i : Nat} : ∀ {vs : List Nat}, i ∈ vs → i < ρ.length → (wipeD ρ vs)[i]? = some none
  | v :: vs, h, hl => by
    unfold wipeD
    by_cases e : v = i
    · subst e; rw [List.getElem?_set_self (by rw [wipeD_length]; exact hl)]
    · rw [List.getElem?_set_ne e]
      exact wipeD_in (by rcases List.mem_cons.mp h with z | z; exact absurd z.symm e; exact z) hl
theorem wipeD_out {ρ : DEnv} {i : Nat} : ∀ {vs : List Nat}, i ∉ vs → (wipeD ρ vs)[i]? = ρ[i]?
  | [], _ => rfl
  | v :: vs, h => by
    unfold wipeD
    rw [List.getElem?_set_ne (show v ≠ i from fun e => h (by rw [e]; exact List.mem_cons_self))]
    exact wipeD_out (fun z => h (List.mem_cons_of_mem _ z))
theorem wipe_in {σ : L2.St} {i : Nat} : ∀ {vs : List Nat}, i ∈ vs → i < σ.length → (wipe σ vs)[i]? = some none
  | v :: vs, h, hl => by
    unfold wipe
    by_cases e : v = i
    · subst e; rw [List.getElem?_set_self (by rw [wipe_length]; exact hl)]
    · rw [List.getElem?_set_ne e]
      exact wipe_in (by rcases List.mem_cons.mp h with z | z; exact absurd z.symm e; exact z) hl
theorem wipe_same {σ σ' : L2.St} {vs is : List Nat} (k : Keeps is (wipe σ vs) σ') (h : ∀ i ∈ is, i ∈ vs) : wipe σ' vs = wipe σ vs := by
  apply List.ext_getElem?
  intro i
  have hl : σ'.length = σ.length := by rw [k.1, wipe_length]
  by_cases hi : i ∈ vs
  · by_cases hz : i < σ.length
    · rw [wipe_in hi (by rw [hl]; exact hz), wipe_in hi hz]
    · rw [List.getElem?_eq_none (by rw [wipe_length, hl]; omega), List.getElem?_eq_none (by rw [wipe_length]; omega)]
  · rw [wipe_out hi, k.2 i (fun z => hi (h i z))]
theorem RepE.wipe {K : PySem.W.Frag} {CT : Cfg} {F : Hp} {mm : List Addr} {ρ : DEnv} {σ : L2.St} (h : RepE K CT F mm ρ σ) (vs : List Nat) : RepE K CT F mm (wipeD ρ vs) (wipe σ vs) := by
  refine ⟨by rw [wipeD_length, wipe_length]; exact h.1, fun i d e => ?_⟩
  by_cases hi : i ∈ vs
  · have hl : i < ρ.length := by
      have := (List.getElem?_eq_some_iff.mp e).1
      rwa [wipeD_length] at this
    rw [wipeD_in hi hl] at e
    cases e
  · rw [wipeD_out hi] at e
    rw [wipe_out hi]
    exact h.2 i d e
/-- as bindO, where nothing may be raised -/
def bindN {α β : Type} (o : Ev α) (k : α → Store → Ev β) : Ev β := match o with
  | some (.ok a S) => k a S
  | _ => none
/-- the items that a clause lets through -/
def lcL (g : CG) (t : C Bool) (a : C D) (ρ : DEnv) : List D → Store → Ev (List D)
  | [], S => ret [] S
  | d :: ds, S => match g d ρ S with
    | none => none
    | some (ρ1, S1) => bindN (t ρ1 S1) fun b S2 => if b = true then bindN (a ρ1 S2) (fun y S3 => bindN (lcL g t a ρ ds S3) fun ys S4 => ret (y :: ys) S4) else lcL g t a ρ ds S2
def cLc (it : C (List D)) (vs : List Nat) (g : CG) (t : C Bool) (a : C D) : C (List D) := thenC it fun ρ ds S => if ds.length ≤ sizeLine then lcL g t a (wipeD ρ vs) ds S else none
def cYes : C Bool := fun _ S => ret true S
section
variable {X : Cx} {CT : Cfg} {W : WX}
/-- no exception is wished for -/
abbrev WF : WX := fun _ _ _ _ => False
abbrev DTsx (X : Cx) (CT : Cfg) (W : WX) (es : List Expr) (c : C Bool) : Prop := PTs X es (tB X.K CT W c)
theorem _root_.L2.PTs.weak {X : Cx} {e : List Expr} {t t' : TT} (h : PTs X e t) (f : ∀ σ H Q, t' σ H Q → t σ H Q) : PTs X e t' := ⟨fun pins s σ H Q I hw => h.run pins s σ H Q I (f σ H Q hw)⟩
theorem dts_nil : DTsx X CT W [] cYes := pts_nil.weak fun σ H Q h => by
  obtain ⟨A, F, mm, S, ρ, s, h2, h3⟩ := h
  exact h3.now s rfl
theorem dts_one {e : Expr} {c : C Bool} (h : DTx X CT W e c) : DTsx X CT W [e] c := pts_one h
theorem Run.bindN {K : PySem.W.Frag} {A A' : Asd} {W W' : WX} {α β α' β' : Type} {σ σ' : L2.St} {F : Hp} {mm : List Addr} {R : Asd → Hp → List Addr → Hp → α → β → Prop} {R' : Asd → Hp → List Addr → Hp → α' → β' → Prop} {o : Ev α'} {k : α' → Store → Ev α} {Q : β → Hp → Prop} (h : Run K CT A W σ R (DE.bindN o k) F mm Q) :
    Run K CT A' W' σ' R' o F mm (fun b' H' => ∃ F' mm' a S', Ext F mm F' mm' ∧ Sim K CT A' F' mm' S' H' ∧ R' A' F' mm' H' a b' ∧ Run K CT A W σ R (k a S') F' mm' Q) := by
  match o, h with
  | some (.ok a S'), h => exact fun F' mm' H' b e s r => ⟨F', mm', a, S', e, s, r, Run.ext (o := k a S') h e⟩
section
variable {K : PySem.W.Frag} {A : Asd} {F : Hp} {mm : List Addr} {S : Store} {H : Hp} {a : Addr} {o o' : HO}
theorem Sim.aside (s : Sim K CT A F mm S H) (ho : H a = some o) (hF : F a = none) (hm : a ∉ mm) (hn : ∃ vs, o = .lst vs := by exact ⟨_, rfl⟩) : Sim K CT (A.put a o) F mm S H :=
  ⟨fun b u q => by
    have q : upd A.X a o b = some u := q
    by_cases e : b = a
    · subst e; rw [upd_same] at q; cases q; exact ⟨ho, hF, hm⟩
    · rw [upd_ne e] at q; exact s.asd b u q, s.fz, s.len, s.nd, s.trk, s.live, s.ast, fun b u q => by
    have q : upd A.X a o b = some u := q
    by_cases e : b = a
    · subst e; rw [upd_same] at q; cases q; exact hn
    · rw [upd_ne e] at q; exact s.ntx b u q, s.nt⟩
theorem Sim.back (s : Sim K CT (A.put a o) F mm S H) (hA : A.X a = none) : Sim K CT A F mm S H ∧ H a = some o ∧ F a = none ∧ a ∉ mm :=
  ⟨⟨fun b u q => s.asd b u (by show upd A.X a o b = _; rw [upd_ne (ne_of_none q hA)]; exact q), s.fz, s.len, s.nd, s.trk, s.live, s.ast, fun b u q => s.ntx b u (by show upd A.X a o b = _; rw [upd_ne (ne_of_none q hA)]; exact q), s.nt⟩, s.asd a o upd_same⟩
/-- what is neither fixed nor live nor aside is written -/
theorem Sim.over {us : List V} (s : Sim K CT A F mm S H) (hA : A.X a = none) (hF : F a = none) (hm : a ∉ mm) (hl : H a = some (.lst us)) : Sim K CT A F mm S (upd H a o) := by
  refine ⟨fun b u q => ⟨by rw [upd_ne (ne_of_none q hA)]; exact (s.asd b u q).1, (s.asd b u q).2⟩, fun b u q => by rw [upd_ne (ne_of_none q hF)]; exact s.fz b u q, s.len, s.nd, fun b m => ?_, fun n c q => ?_, tabs_keep s.ast (keepN_lst hl), s.ntx, s.nt⟩
  · obtain ⟨u, q, nt⟩ := s.trk b m
    exact ⟨u, by rw [upd_ne (show b ≠ a from fun z => hm (by rw [← z]; exact m))]; exact q, nt⟩
  · obtain ⟨b, h1, h2, u, h3, h4⟩ := s.live n c q
    exact ⟨b, h1, h2, u, by rw [upd_ne (show b ≠ a from fun z => hm (by rw [← z]; exact List.mem_of_getElem? h1))]; exact h3, h4⟩
end
theorem bindN_nil {α β : Type} {a : α} {S : Store} {k : α → Store → Ev β} : DE.bindN (ret a S) k = k a S := rfl
theorem bindN_assoc {α β γ : Type} {o : Ev α} {k : α → Store → Ev β} {l : β → Store → Ev γ} : DE.bindN (DE.bindN o k) l = DE.bindN o fun a S => DE.bindN (k a S) l := by
  match o with
  | some (.ok a S) => rfl
  | some (.ex x S) => rfl
  | none => rfl
theorem bindN_ret {α : Type} {W : WX} {β : Type} {K : PySem.W.Frag} {A : Asd} {F : Hp} {mm : List Addr} {σ : L2.St} {R : Asd → Hp → List Addr → Hp → α → β → Prop} {Q : β → Hp → Prop} {o : Ev α} (h : Run K CT A W σ R o F mm Q) (hn : ∀ x S, o ≠ some (.ex x S)) : Run K CT A W σ R (DE.bindN o ret) F mm Q := by
  match o, h with
  | some (.ok a S'), h => exact h
  | some (.ex x S'), h => exact (hn x S' rfl).elim
theorem lcL_noex {g : CG} {t : C Bool} {a : C D} {ρ : DEnv} : ∀ {ds : List D} {S : Store} {x : Ex} {S' : Store}, lcL g t a ρ ds S ≠ some (.ex x S')
  | [], S, x, S', h => by cases h
  | d :: ds, S, x, S', h => by
    unfold lcL at h
    split at h
    · cases h
    · rename_i ρ1 S1 q
      unfold DE.bindN at h
      split at h
      · rename_i b S2 q2
        dsimp only at h
        split at h
        · split at h
          · rename_i y S3 q3
            split at h
            · cases h
            · cases h
          · cases h
        · exact lcL_noex h
      · cases h
theorem run_lc {K : PySem.W.Frag} {is vs : List Nat} {it : C (List D)} {g : CG} {t : C Bool} {a : C D} (hv : ∀ i ∈ is, i ∈ vs) (σ : L2.St) (H : Hp) (Q : VK) (h : tG K CT W (RN K CT) (cLc it vs g t a) σ H Q) :
    tLc (tI K CT W it) (tGt K CT is g) (tB K CT WF t) (tD K CT WF a) vs σ H Q := by
  refine (tG.step (R' := RJ K CT) h).mono fun J H1 h => ?_
  obtain ⟨A, F0, mm0, S0, ρ0, ds, s0, h2, hJ, h4⟩ := h
  by_cases hz : ds.length ≤ sizeLine
  case neg => rw [if_neg hz] at h4; exact h4.elim
  rw [if_pos hz] at h4
  intro Dl nD
  have hA : A.X Dl = none := s0.freshA nD
  refine ⟨fun i m H => m = ds.length - i ∧ i ≤ ds.length ∧ ∃ F mm S acc vacc, Ext F0 mm0 F mm ∧ Sim K CT A F mm S H ∧ F Dl = none ∧ Dl ∉ mm ∧ H Dl = some (.lst vacc) ∧ Reps K CT F mm acc vacc ∧ acc.length ≤ i ∧
      Run K CT A W σ (RN K CT) (DE.bindN (lcL g t a (wipeD ρ0 vs) (ds.drop i) S) fun ys S' => ret (acc ++ ys) S') F mm Q,
    ⟨ds.length, by simp, Nat.zero_le _, F0, mm0, S0, [], [], Ext.refl, s0.free nD, (s0.fresh nD).1, (s0.fresh nD).2, upd_same, rfl, Nat.le_refl _, ?_⟩, ?_⟩
  · rw [List.drop_zero]
    exact bindN_ret h4 fun x S' => lcL_noex
  rintro i m H ⟨rfl, hi, F, mm, S, acc, vacc, e0, s, hF, hm, hD, hr, hl, hw⟩
  by_cases hlt : i < ds.length
  · have hd : ds.drop i = ds[i] :: ds.drop (i + 1) := List.drop_eq_getElem_cons hlt
    rw [hd] at hw
    have sA := s.aside hD hF hm
    obtain ⟨hgo, hy⟩ := hJ.go i ds[i] (List.getElem?_eq_getElem hlt) _ F mm S H e0 sA
    refine .inr ⟨hgo, fun H' => ∃ F mm S acc vacc, Ext F0 mm0 F mm ∧ Sim K CT A F mm S H' ∧ F Dl = none ∧ Dl ∉ mm ∧ H' Dl = some (.lst vacc) ∧ Reps K CT F mm acc vacc ∧ acc.length ≤ i + 1 ∧
      Run K CT A W σ (RN K CT) (DE.bindN (lcL g t a (wipeD ρ0 vs) (ds.drop (i + 1)) S) fun ys S' => ret (acc ++ ys) S') F mm Q, fun H' n => ⟨ds.length - (i + 1), by omega, rfl, hlt, n⟩, fun x H2 y => ?_⟩
    obtain ⟨F2, e2, s2, r2⟩ := hy x H2 y
    unfold lcL at hw
    split at hw
    · exact hw.elim
    rename_i ρ1 S1 q
    refine ⟨_, F2, mm, S, wipeD ρ0 vs, ds[i], s2, (h2.ext (e0.trans e2)).wipe vs, r2, ρ1, S1, q, fun F3 mm3 H3 σ3 e3 s3 r3 k3 => ⟨wipe_same k3 hv, ?_⟩⟩
    rw [bindN_assoc] at hw
    refine ⟨_, F3, mm3, S1, ρ1, s3, r3, ?_⟩
    refine Run.mono (Run.bindN (R' := RB) (Run.ext hw (e2.trans e3))) fun b H4 h5 => ?_
    obtain ⟨F4, mm4, b', S4, e4, s4, rfl, h5⟩ := h5
    by_cases hb : b' = true
    · subst hb
      rw [if_pos rfl, bindN_assoc] at h5
      refine iteT ⟨_, F4, mm4, S4, ρ1, s4, r3.ext e4, ?_⟩
      refine Run.mono (Run.bindN (R' := RD K CT) h5) fun y H5 h6 => ?_
      obtain ⟨F5, mm5, d, S5, e5, s5, r5, h6⟩ := h6
      obtain ⟨sB, hD5, hF5, hm5⟩ := s5.back hA
      rw [bindN_assoc] at h6
      have ex : Ext F mm F5 mm5 := e2.trans (e3.trans (e4.trans e5))
      have lz : acc.length < sizeLine := by omega
      refine ⟨vacc, hD5, by rw [← hr.length]; exact lz, F5, mm5, S5, acc ++ [d], vacc ++ [y], e0.trans ex, sB.over hA hF5 hm5 hD5, hF5, hm5, upd_same, (hr.ext ex).append ⟨y, [], rfl, r5, rfl⟩, by rw [List.length_append]; simp; exact hl, ?_⟩
      have key : (fun (a : List D) (S : Store) => DE.bindN (ret (d :: a) S) fun ys S' => ret (acc ++ ys) S') = fun ys S' => ret ((acc ++ [d]) ++ ys) S' := by
        funext ys S'
        show ret (acc ++ d :: ys) S' = _
        rw [List.append_assoc]; rfl
      rw [key] at h6
      exact h6
    · have hb := Bool.eq_false_iff.mpr hb
      subst hb
      rw [if_neg Bool.false_ne_true] at h5
      obtain ⟨sB, hD5, hF5, hm5⟩ := s4.back hA
      have ex : Ext F mm F4 mm4 := e2.trans (e3.trans e4)
      exact iteF ⟨F4, mm4, S4, acc, vacc, e0.trans ex, sB, hF5, hm5, hD5, hr.ext ex, by omega, h5⟩
  · have e : i = ds.length := by omega
    subst e
    rw [List.drop_length] at hw
    refine .inl ⟨hJ.stop A F mm S H e0 s, ?_⟩
    have hw : Run K CT A W σ (RN K CT) (ret (acc ++ []) S) F mm Q := hw
    rw [List.append_nil] at hw
    exact hw.now s ⟨Dl, vacc, rfl, hA, hF, hm, hD, by omega, hr⟩
variable {elt tg iter : Expr} {ifs : List Expr} {scope : Scope} {own : List (Str × Nat)} {pos : Pos}
theorem dn_lc {is : List Nat} {it : C (List D)} {g : CG} {t : C Bool} {a : C D} (hc : X.calm = true) (hN : X.N.Nodup) (hi : DIx X CT W tg iter it) (ok : BlkOk X.N X.env.scope scope own)
    (hg : ∀ (s : Shared) (H : Hp) (C : Addr) (cl : List (Str × Addr)) (fp : List Addr), DGx (X.blk s H scope (compEnvC scope cl C X.env) fp) CT is tg g) (ht : ∀ (s : Shared) (H : Hp) (C : Addr) (cl : List (Str × Addr)) (fp : List Addr), DTsx (X.blk s H scope (compEnvC scope cl C X.env) fp) CT WF ifs t)
    (he : ∀ (s : Shared) (H : Hp) (C : Addr) (cl : List (Str × Addr)) (fp : List Addr), DEx (X.blk s H scope (compEnvC scope cl C X.env) fp) CT WF elt a) (hv : ∀ i ∈ is, i ∈ own.map (·.2) := by decide) (hs : ∀ x, foldedSetIterable iter X.env x = pure x := by intro _; rfl) :
    DNx X CT W (.ListComp elt [⟨tg, iter, ifs, 0⟩] scope pos) (cLc it (own.map (·.2)) g t a) := (pe_lc hc hN hi ok hg ht he hs).weak (run_lc hv)
end
end DE

set_option Elab.async false
set_option linter.all false
set_option maxRecDepth 100000
set_option autoImplicit false
namespace DE
open PySem PySem.Spec PyProof.Rows L2

/-! ### what a def does to data -/
abbrev Md := List D → Store → Ev D
def spD (K : PySem.W.Frag) (CT : Cfg) (n : Nat) (m : Md) : Sp := fun vs H Q E => vs.length = n ∧ ∃ A F mm S ds, Sim K CT A F mm S H ∧ Reps K CT F mm ds vs ∧ Run K CT A (fun cls d _ H => E cls d H) [] (RD K CT) (m ds S) F mm Q
/-- the def x computes m, by at most k calls one in another -/
structure Fn (P : Program) (w : World) (K : PySem.W.Frag) (mg : Str → Option Value) (base : Heap) (CT : Cfg) (k : Nat) (x : Str) (n : Nat) (m : Md) : Prop where
  ex : ∃ (f : Addr) (fd : FuncData) (ps : List Str), mg x = some (.ref f) ∧ PySem.W.keepIn K (.ref f) = true ∧ ps.length = n ∧ Binds K fd ps [] ∧ FnOk P w K mg base (L2.CX P w) k f fd ps (spD K CT n m)
abbrev FnX (X : Cx) (CT : Cfg) (k : Nat) (x : Str) (n : Nat) (m : Md) : Prop := Fn X.prog X.w X.K X.mg X.base CT k x n m
def startD (N : List Str) (ds : List D) : DEnv := ds.map some ++ List.replicate (N.length - ds.length) none
/-- a body run at arguments -/
def runDef (N : List Str) (n : Nat) (c : CS) : Md := fun ds S => if ds.length = n then (match c (startD N ds) S with
  | some (.go (.rt d) _ S') => some (.ok d S')
  | some (.go .nx _ S') => some (.ok .non S')
  | some (.ex x _ S') => some (.ex x S')
  | _ => none) else none
theorem start_rep {K : PySem.W.Frag} {CT : Cfg} {F : Hp} {mm : List Addr} {N : List Str} {ds : List D} {vs : List V} (r : Reps K CT F mm ds vs) : RepE K CT F mm (startD N ds) (L2.start N vs) := by
  have hl := r.length
  refine ⟨by unfold startD L2.start; simp [hl], fun i d e => ?_⟩
  unfold startD at e
  by_cases hi : i < ds.length
  · rw [List.getElem?_append_left (by simpa using hi), List.getElem?_map] at e
    obtain ⟨d', e1, e2⟩ := Option.map_eq_some_iff.mp e
    cases e2
    obtain ⟨v, q, r2⟩ := r.get e1
    refine ⟨v, ?_, r2⟩
    unfold L2.start
    rw [List.getElem?_append_left (by rw [List.length_map, ← hl]; exact hi), List.getElem?_map, q]
    rfl
  · rw [List.getElem?_append_right (by simpa using hi), List.getElem?_replicate] at e
    split at e <;> cases e
section
variable {P : Program} {w : World} {K : PySem.W.Frag} {mg : Str → Option Value} {base : Heap} {CT : Cfg}
theorem fn_body {qx x qual : Str} {st : Stmt} {f : Addr} {fd : FuncData} {N ps : List Str} {k n : Nat} {c : CS} (FF : Fun K x qual st f fd) (SS : FnScope N ps (defScope st)) (hn : ps.length = n)
    (hbody : ∀ (cdv : Value) (A : Around) (outer : List Env) (s : Shared) (H : Hp) (E : XK), Room k (A.deeper (envOfC qual (defScope st) s.heap.objs.size f cdv)) →
      DBx (cxOf (L2.CX P w) P w K mg base N qual (defScope st) f cdv A outer s H E) CT (fun cls d _ H => E cls d H) (defBody st) c) :
    FnOk P w K mg base (L2.CX P w) (k + 1) f fd ps (spD K CT n (runDef N n c)) := by
  refine FF.okX SS (fun vs H Q E h => ?_) (fun cdv A outer s H vs Q E hr h => ⟨_, hbody cdv A outer s H E hr, ?_⟩)
  · rw [hn]; exact h.1
  · obtain ⟨hl, A, F, mm, S, ds, s, r, h⟩ := h
    unfold runDef at h
    have e := r.length
    rw [if_pos (by rw [e]; exact hl)] at h
    refine ⟨A, F, mm, S, startD N ds, s, start_rep r, ?_⟩
    generalize c (startD N ds) S = o at h
    match o, h with
    | some (.go (.rt d) ρ S'), h => exact fun F' mm' H' σ' e s r v rv => h F' mm' H' v e s rv
    | some (.go .nx ρ S'), h => exact fun F' mm' H' σ' e s r => h F' mm' H' .non e s rfl
    | some (.ex x ρ S'), h => exact fun F' mm' H' σ' cls d e s r xr => h F' mm' H' cls d e s xr
theorem fn_mk {x qual : Str} {st : Stmt} {f : Addr} {fd : FuncData} {N ps : List Str} {k n : Nat} {m : Md} (FF : Fun K x qual st f fd) (hm : mg x = some (.ref f)) (hn : ps.length = n) (b : Binds K fd ps []) (h : FnOk P w K mg base (L2.CX P w) k f fd ps (spD K CT n m)) : Fn P w K mg base CT k x n m :=
  ⟨⟨f, fd, ps, hm, FF.kp, hn, b, h⟩⟩
theorem Fn.mono {x : Str} {j k n : Nat} {m : Md} (h : Fn P w K mg base CT j x n m) (l : j ≤ k) : Fn P w K mg base CT k x n m := by
  obtain ⟨f, fd, ps, h1, h2, h3, h4, h5⟩ := h.ex
  exact ⟨⟨f, fd, ps, h1, h2, h3, h4, h5.mono l⟩⟩
end
section
variable {X : Cx} {CT : Cfg} {W : WX} {x : Str} {p pos : Pos} {e : Expr} {es : List Expr} {k n : Nat} {m : Md} {c : C (List D)}
theorem Run.wish {K : PySem.W.Frag} {A : Asd} {F : Hp} {mm : List Addr} {σ τ : L2.St} {α β : Type} {R : Asd → Hp → List Addr → Hp → α → β → Prop} {o : Ev α} {Q : β → Hp → Prop} (h : Run K CT A W σ R o F mm Q) : Run K CT A (fun cls d _ H => W cls d σ H) τ R o F mm Q := by
  match o, h with
  | some (.ok a S'), h => exact h
  | some (.ex x S'), h => exact h
theorem de_call (G : FnX X CT k x n m) (hr : Room k X.A) (tk : Takes X W) (ha : DAx X CT W (e :: es) c) (hn : (e :: es).length = n := by rfl) (hg : Gl X x := by rfl) (hdb : (x == ("__debug__" : Str)) = false := by decide) (he : starEach (e :: es) X.env = (false, eval e X.env) :: starEach es X.env := by rfl)
    (hpl : (backTo pos (starEach es X.env)).any (·.1) = false := by rfl) : DEx X CT W (.Call (.Name x p) (e :: es) [] pos) (cCall (fun ds S => if ds.length = n then m ds S else none) c) := by
  obtain ⟨f, fd, ps, h1, h2, h3, h4, h5⟩ := G.ex
  refine (pe_callS h5 hr hg h1 h2 h4 (fun σ => passAt tk σ) ha hdb he hpl).weak fun σ H Q h => ?_
  refine (tG.step (R' := RL X.K CT) h).mono fun vs H1 h => ?_
  obtain ⟨A, F, mm, S, ρ, ds, s, h2, h3, h4⟩ := h
  have l := h3.length
  dsimp only at h4
  split at h4
  · rename_i hl
    exact ⟨by rw [← l]; exact hl, A, F, mm, S, ds, s, h3, h4.wish⟩
  · exact h4.elim


/-- f() of a def that raises nothing -/
def cCall0 (m : Md) : C D := fun _ S => DE.bindN (m [] S) ret
theorem de_call0 (G : FnX X CT k x 0 m) (hr : Room k X.A) (hg : Gl X x := by rfl) (hdb : (x == ("__debug__" : Str)) = false := by decide) : DEx X CT W (.Call (.Name x p) [] [] pos) (cCall0 m) := by
  obtain ⟨f, fd, ps, h1, h2, h3, h4, h5⟩ := G.ex
  refine (pe_call0 (dvs := []) h5 hr hg h1 h2 h4 .nil (passL (X := X)) hdb).weak fun σ H Q h => ?_
  obtain ⟨A, F, mm, S, ρ, s, h2, h3⟩ := h
  refine ⟨rfl, A, F, mm, S, [], s, rfl, ?_⟩
  unfold cCall0 at h3
  generalize m [] S = o at h3
  match o, h3 with
  | some (.ok a S'), h3 => exact h3

/-! ### instances: attributes, methods, making -/
def insAt (S : Store) : D → Option (Str × List (Str × D))
  | .ins C fs => some (C, fs)
  | .ref n => match S[n]? with
    | some (some (.ins C fs)) => some (C, fs)
    | _ => none
  | _ => none
theorem Sim.ins {K : PySem.W.Frag} {A : Asd} {F : Hp} {mm : List Addr} {S : Store} {H : Hp} {d : D} {C : Str} {fs : List (Str × D)} {v : V} (s : Sim K CT A F mm S H) (h : insAt S d = some (C, fs)) (r : Rep K CT F mm d v) : ∃ a Ca dx fvs, v = .ref a ∧ CT C = some Ca ∧ H a = some (.ins Ca dx fvs) ∧ RepF K CT F mm fs fvs := by
  cases d with
  | ins C' fs' => obtain ⟨a, Ca, dx, fvs, rfl, h1, h2, h3⟩ := r; cases h; exact ⟨a, Ca, dx, fvs, rfl, h1, s.fz _ _ h2, h3⟩
  | ref n =>
    obtain ⟨a, ha, rfl⟩ := r
    unfold insAt at h
    dsimp only at h
    split at h
    · rename_i C' fs' q
      cases h
      obtain ⟨b, hb, hf, o, ho, Ca, dx, fvs, rfl, h1, h2⟩ := s.live n _ q
      rw [ha] at hb; cases hb
      exact ⟨a, Ca, dx, fvs, rfl, h1, ho, h2⟩
    · cases h
  | _ => cases h
/-- the classes cs may bear the attribute f -/
def AttrOk (K : PySem.W.Frag) (CT : Cfg) (cs : List Str) (f : Str) : Prop := ∀ C ∈ cs, ∀ Ca, CT C = some Ca → Cls K Ca ∧ NoAttr K Ca f
def kFld (cs : List Str) (f : Str) (x : D) (S : Store) : Ev D := match insAt S x with
  | some (C, fs) => if C ∈ cs then (match fs.lookup f with
    | some d => ret d S
    | none => none) else none
  | none => none
theorem de_fld {a : C D} {f : Str} {cs : List Str} (hc : AttrOk X.K CT cs f) (he : DEx X CT W e a) (hb : attributeBase e f X.env (eval e X.env) = eval e X.env := by rfl) : DEx X CT W (.Attribute e f pos) (c1 (kFld cs f) a) := (pe_fld he hb).weak fun σ H Q h => by
  refine (tG.step (R' := RD X.K CT) h).mono fun v H1 h => ?_
  obtain ⟨A, F, mm, S, ρ, d, s, h2, h3, h4⟩ := h
  unfold kFld at h4
  split at h4
  · rename_i C fs e1
    split at h4
    · rename_i c
      split at h4
      · rename_i d' e2
        obtain ⟨a, Ca, dx, fvs, rfl, g1, g2, g3⟩ := s.ins e1 h3
        obtain ⟨u, g4, g5⟩ := g3.lookup e2
        exact ⟨a, Ca, dx, fvs, u, rfl, g2, (hc C c Ca g1).1, (hc C c Ca g1).2, g4, h4.now s g5⟩
      · exact h4.elim
    · exact h4.elim
  · exact h4.elim
def putFD (f : Str) (v : D) : List (Str × D) → List (Str × D)
  | [] => [(f, v)]
  | (g, x) :: r => if g = f then (g, v) :: r else (g, x) :: putFD f v r
theorem RepF.put {K : PySem.W.Frag} {F : Hp} {mm : List Addr} {f : Str} {d : D} {v : V} (r : Rep K CT F mm d v) : ∀ {fs : List (Str × D)} {vs : List (Str × V)}, RepF K CT F mm fs vs → RepF K CT F mm (putFD f d fs) (putF f v vs)
  | [], vs, h => by rw [show vs = [] from h]; exact ⟨v, [], rfl, r, rfl⟩
  | (g, x) :: fs, vs, ⟨u, t, h1, h2, h3⟩ => by
    subst h1
    unfold putFD putF
    by_cases q : g = f
    · rw [if_pos q, if_pos q]; exact ⟨v, t, rfl, r, h3⟩
    · rw [if_neg q, if_neg q]; exact ⟨u, _, rfl, h2, RepF.put r h3⟩
theorem RepF.length {K : PySem.W.Frag} {F : Hp} {mm : List Addr} : ∀ {fs : List (Str × D)} {vs : List (Str × V)}, RepF K CT F mm fs vs → fs.length = vs.length
  | [], vs, h => by rw [show vs = [] from h]; rfl
  | (g, x) :: fs, vs, ⟨u, t, h1, h2, h3⟩ => by subst h1; simp [RepF.length h3]
/-- o.f = e of what lives -/
def cFld (cs : List Str) (f : Str) (v o : C D) : CS := cStep v fun ρ y S => liftS (o ρ S) ρ fun x S => match x with
  | .ref n => match S[n]? with
    | some (some (.ins C fs)) => if C ∈ cs ∧ fs.length < 1000 then some (.go .nx ρ (S.set n (some (.ins C (putFD f y fs))))) else none
    | _ => none
  | _ => none
theorem ds_fld {o value : Expr} {a v : C D} {f : Str} {cs : List Str} {pos' : Pos} (hc : AttrOk X.K CT cs f) (ha : DEx X CT W o a) (hv : DEx X CT W value v) (hs : swapsWith value (some (.Attribute o f pos')) pos.line X.env = pure false := by rfl) : DSx X CT W (.Assign [.Attribute o f pos'] value pos) (cFld cs f v a) := (ps_fld ha hv hs).weak fun E σ H h => by
  refine (tS.step (R' := RD X.K CT) h).mono fun u H1 h => ?_
  obtain ⟨A, F, mm, S, ρ, y, s, h2, h3, h4⟩ := h
  refine ⟨A, F, mm, S, ρ, s, h2, ?_⟩
  refine Run.mono (RunS.bind (R' := RD X.K CT) h4 h2) fun w H2 h => ?_
  obtain ⟨F', mm', x, S', e, s', r, h⟩ := h
  split at h
  · rename_i n
    split at h
    · rename_i C fs q
      split at h
      · rename_i c
        obtain ⟨a, ha, rfl⟩ := r
        obtain ⟨b, hb, hf, ob, ho, Ca, dx, fvs, rfl, g1, g2⟩ := s'.live n _ q
        rw [ha] at hb; cases hb
        have rr := RepF.put (f := f) (Rep.ext e h3) g2
        refine ⟨a, Ca, dx, fvs, rfl, ho, (hc C c.1 Ca g1).1, (hc C c.1 Ca g1).2, by rw [← g2.length]; exact c.2, ?_⟩
        exact RunS.now (f := .nx) h (s'.wr q ha ⟨Ca, dx, _, rfl, g1, rr⟩) (h2.ext e)
      · exact h.elim
    · exact h.elim
  · exact h.elim

/-- C(..): a new instance of the class C, made by its __init__; it is fixed behind it -/
structure Mkr (P : Program) (w : World) (K : PySem.W.Frag) (mg : Str → Option Value) (base : Heap) (CT : Cfg) (k : Nat) (x : Str) (n : Nat) (m : Md) : Prop where
  ex : ∃ (Ca f : Addr) (fd : FuncData) (ps : List Str), mg x = some (.ref Ca) ∧ CT x = some Ca ∧ Mk K Ca f ∧ ps.length = n + 1 ∧ Binds K fd ps [] ∧ FnOk P w K mg base (L2.CX P w) k f fd ps (spD K CT (n + 1) m)
def kMake (C : Str) (m : Md) (ds : List D) (S : Store) : Ev D := match m (.ref S.length :: ds) (S ++ [some (.ins C [])]) with
  | some (.ok .non S') => match S'[S.length]? with
    | some (some (.ins C' fs)) => ret (.ins C' fs) (S'.set S.length none)
    | _ => none
  | some (.ex x S') => some (.ex x S')
  | _ => none
theorem run_makeS {pins : List (Addr × Obj)} {σ : L2.St} {H : Hp} {s : Shared} {Q : VK} {us : List Value} {vs : List V} {Ca f : Addr} {fd : FuncData} {ps : List Str} {sp : Sp} {E : XK} (M : Mk X.K Ca f) (FF : FnOk X.prog X.w X.K X.mg X.base (L2.CX X.prog X.w) k f fd ps sp) (hr : Room (k + 1) X.A) (hb : Binds X.K fd ps [])
    (hx : ∀ (pins : List (Addr × Obj)) (H : Hp) (s : Shared) (e : Value) (s' : Shared), Inv X pins σ H s → L2.CX X.prog X.w X.stack H s E e s' → X.xe e s') (I : Inv X pins σ H s) (r : Vals vs us)
    (h : ∀ x dx, H x = none → H dx = none → dx ≠ x → sp (.ref x :: vs) (upd (upd H dx (.own x)) x (.ins Ca dx [])) (fun v H2 => v = .non ∧ Q (.ref x) H2) E) :
    wpAny (model X.prog X.w) X.A (PySem.call (.ref Ca) us) (EP X pins σ Q) X.xe s := by
  have hq := h (s.heap.objs.size + 1) s.heap.objs.size (I.hok.fresh (Nat.le_succ _)) (I.hok.fresh (Nat.le_refl _)) (Nat.ne_of_lt (Nat.lt_succ_self _))
  have I2 := Inv.made (C := Ca) I
  have r2 : Vals (V.ref (s.heap.objs.size + 1) :: vs) (Value.ref (s.heap.objs.size + 1) :: us) := .cons rfl r
  have hl : (Value.ref (s.heap.objs.size + 1) :: us).length = ps.length := by
    have e := r2.length
    rw [FF.len _ _ _ _ hq] at e
    exact e.symm
  have hl' : (Value.ref (s.heap.objs.size + 1) :: us ++ []).length = ps.length := by rw [List.append_nil]; exact hl
  have bb := hb _ (Value.ref (s.heap.objs.size + 1) :: us) I2.kIn hl'
  rw [List.append_nil] at bb
  refine wpAny_call (make_map (f := f) I.kIn M.makes M.init (beq_iff_eq.mp M.fn) (codeAny_mono (FF.run _ X.stack _ _ ⟨Value.ref (s.heap.objs.size + 1) :: us, []⟩ (Value.ref (s.heap.objs.size + 1) :: us) _ _ E (hr.make Ca us [])
    (I2.env0.make Ca us []) bb r2 hq) fun r s' hq' => ?_))
  cases r with
  | error e => exact hx pins _ _ e s' I2 hq'
  | ok fl =>
    cases fl with
    | ret u =>
      obtain ⟨v, H', I3, rv, ev, q3⟩ := I2.after hq'
      subst ev
      exact ⟨rv, ⟨V.ref (s.heap.objs.size + 1), H', I3, rfl, q3⟩⟩
    | next => exact False.elim hq'
    | brk => exact False.elim hq'
    | cont => exact False.elim hq'
/-- what a new instance asks of its making -/
theorem make_data {K : PySem.W.Frag} {A : Asd} {F : Hp} {mm : List Addr} {S : Store} {H : Hp} {σ : L2.St} {Q : VK} {ds : List D} {vs : List V} {Ca : Addr} {C : Str} (s : Sim K CT A F mm S H) (r : Reps K CT F mm ds vs) (hC : CT C = some Ca) (h : Run K CT A W σ (RD K CT) (kMake C m ds S) F mm Q) :
    ∀ x dx, H x = none → H dx = none → dx ≠ x → spD K CT (vs.length + 1) m (.ref x :: vs) (upd (upd H dx (.own x)) x (.ins Ca dx [])) (fun v H2 => v = .non ∧ Q (.ref x) H2) (fun cls d H => W cls d σ H) := by
  intro x dx hx hdx ne
  have s1 : Sim K CT A F mm S (upd H dx (.own x)) := s.free hdx
  have hx1 : upd H dx (.own x) x = none := by rw [upd_ne (Ne.symm ne)]; exact hx
  have s2 : Sim K CT A F mm S (upd (upd H dx (.own x)) x (.ins Ca dx [])) := s1.free hx1
  have s3 := s2.place (c := .ins C []) (s.freshA hx) (s.fresh hx).1 (s.fresh hx).2 upd_same ⟨Ca, dx, [], rfl, hC, rfl⟩
  have hr : Rep K CT F (mm ++ [x]) (.ref S.length) (.ref x) := ⟨x, by rw [s.len, List.getElem?_append_right (Nat.le_refl _), Nat.sub_self]; rfl, rfl⟩
  refine ⟨by simp, A, F, mm ++ [x], S ++ [some (.ins C [])], .ref S.length :: ds, s3, ⟨.ref x, vs, rfl, hr, r.ext Ext.place⟩, ?_⟩
  unfold kMake at h
  generalize m (.ref S.length :: ds) (S ++ [some (.ins C [])]) = o at h
  split at h
  · rename_i S'
    split at h
    · rename_i C' fs q
      intro F' mm' H' v e s' rv
      refine ⟨rv, ?_⟩
      have hx' := e.m _ _ (show (mm ++ [x])[S.length]? = some x by rw [s.len, List.getElem?_append_right (Nat.le_refl _), Nat.sub_self]; rfl)
      obtain ⟨b, hb, hf, ob, ho, Ca', dx', fvs, rfl, g1, g2⟩ := s'.live _ _ q
      rw [hx'] at hb; cases hb
      obtain ⟨s4, _⟩ := s'.still q hx' ho
      have eF : Ext F' mm' (upd F' x (.ins Ca' dx' fvs)) mm' := Ext.fix hf
      exact h _ mm' H' (.ref x) ((Ext.place.trans e).trans eF) s4 ⟨x, Ca', dx', fvs, rfl, g1, upd_same, g2.ext eF⟩
    · exact h.elim
  · rename_i x' S'
    exact fun F' mm' H' cls d e s r => h F' mm' H' cls d (Ext.place.trans e) s r
  · exact h.elim
theorem de_make (G : Mkr X.prog X.w X.K X.mg X.base CT k x n m) (hr : Room (k + 1) X.A) (tk : Takes X W) (ha : DAx X CT W (e :: es) c) (hn : (e :: es).length = n := by rfl) (hg : Gl X x := by rfl) (hdb : (x == ("__debug__" : Str)) = false := by decide) (he : starEach (e :: es) X.env = (false, eval e X.env) :: starEach es X.env := by rfl)
    (hpl : (backTo pos (starEach es X.env)).any (·.1) = false := by rfl) : DEx X CT W (.Call (.Name x p) (e :: es) [] pos) (cCall (fun ds S => if ds.length = n then kMake x m ds S else none) c) := by
  obtain ⟨Ca, f, fd, ps, g1, g2, M, g4, g5, g6⟩ := G.ex
  refine ⟨fun pins s σ H Q I h => ?_⟩
  refine wpAny_Call_Name_kw (ld_glob I hg g1 ?_ hdb)
  have h := tG.step (R' := RL X.K CT) h
  refine PySem.W.callWith_K (h₀ := X.base) I.ok.mod.kin M.kp (thn (ha.run pos pins s σ H _ I h) fun us s1 ⟨vs, H1, I1, r, q⟩ => ⟨I1.kIn, ?_⟩) he hpl
  obtain ⟨A, F, mm, S, ρ, ds, s, h2, h3, h4⟩ := q
  have l := h3.length
  dsimp only at h4
  split at h4
  · rename_i hl
    have q := make_data s h3 g2 h4
    rw [← l, hl] at q
    exact run_makeS M g6 hr g5 (fun pins H s e s' I c => passAt tk σ pins H s e s' I c) I1 r q
  · exact h4.elim
end
end DE

set_option Elab.async false
set_option linter.all false
set_option maxRecDepth 100000
set_option autoImplicit false
namespace DE
open PySem PySem.Spec PyProof.Rows L2
section
variable {X : Cx} {CT : Cfg} {W : WX} {x : Str} {p pos : Pos} {e : Expr} {es : List Expr} {k n : Nat} {m : Md} {c : C (List D)}

/-! ### methods of own classes -/
structure Mt (P : Program) (w : World) (K : PySem.W.Frag) (mg : Str → Option Value) (base : Heap) (CT : Cfg) (k : Nat) (cl nm : Str) (n : Nat) (m : Md) : Prop where
  ex : ∃ (Ca f : Addr) (fd : FuncData) (ps : List Str), CT cl = some Ca ∧ Cls K Ca ∧ Meth K Ca nm f ∧ ps.length = n + 1 ∧ Binds K fd ps [] ∧ FnOk P w K mg base (L2.CX P w) k f fd ps (spD K CT (n + 1) m)
/-- o.m(..), o an instance of the class C -/
def kMeth (cl nm : Str) (n : Nat) (m : Md) (x : D) (ds : List D) (S : Store) : Ev D := match insAt S x with
  | some (C', fs) => if C' = cl ∧ fs.lookup nm = none ∧ ds.length = n then m (x :: ds) S else none
  | none => none
def cMeth (cl nm : Str) (n : Nat) (m : Md) (o : C D) (c : C (List D)) : C D := thenC o fun ρ x S => match insAt S x with
  | some (C', fs) => if C' = cl ∧ fs.lookup nm = none then bindO (c ρ S) fun ds S => if ds.length = n then m (x :: ds) S else none else none
  | none => none
theorem RepF.lookup_none {K : PySem.W.Frag} {F : Hp} {mm : List Addr} {f : Str} : ∀ {fs : List (Str × D)} {vs : List (Str × V)}, RepF K CT F mm fs vs → fs.lookup f = none → vs.lookup f = none
  | [], vs, h, _ => by rw [show vs = [] from h]; rfl
  | (g, x) :: fs, vs, ⟨u, t, h1, h2, h3⟩, e => by
    subst h1
    by_cases q : f = g
    · subst q; simp at e
    · have q' : (f == g) = false := by simpa using q
      simp only [List.lookup, q'] at e ⊢
      exact RepF.lookup_none h3 e
theorem run_meth {K : PySem.W.Frag} {cl nm : Str} {o : C D} {Ca : Addr} (hC : CT cl = some Ca) (σ : L2.St) (H : Hp) (Q : VK) (h : tD K CT W (cMeth cl nm n m o c) σ H Q) :
    tD K CT W o σ H fun x H1 => ∃ a dx fs, x = .ref a ∧ H1 a = some (.ins Ca dx fs) ∧ fs.lookup nm = none ∧ tL K CT W c σ H1 fun vs H2 => spD K CT (n + 1) m (x :: vs) H2 Q (WE W σ) := by
  refine (tG.step (R' := RD K CT) h).mono fun v H1 h => ?_
  obtain ⟨A, F, mm, S, ρ, x, s, h2, h3, h4⟩ := h
  split at h4
  · rename_i C' fs e1
    split at h4
    · rename_i c'
      obtain ⟨rfl, c2⟩ := c'
      obtain ⟨a, Ca', dx, fvs, rfl, g1, g2, g3⟩ := s.ins e1 h3
      rw [hC] at g1; cases g1
      refine ⟨a, dx, fvs, rfl, g2, g3.lookup_none c2, A, F, mm, S, ρ, s, h2, ?_⟩
      refine Run.mono (Run.bind (R' := RL K CT) h4) fun vs H2 h => ?_
      obtain ⟨F', mm', ds, S', e, s', r, h⟩ := h
      have l := r.length
      split at h
      · rename_i hl
        exact ⟨by rw [List.length_cons, ← l, hl], A, F', mm', S', x :: ds, s', ⟨_, _, rfl, Rep.ext e h3, r⟩, h.wish⟩
      · exact h.elim
    · exact h4.elim
  · exact h4.elim
theorem de_meth {cl nm : Str} {o : Expr} {a : C D} {apos : Pos} {pl : Sem Bool} (G : Mt X.prog X.w X.K X.mg X.base CT k cl nm n m) (hr : Room k X.A) (tk : Takes X W) (ho : DEx X CT W o a) (ha : DAx X CT W (e :: es) c) (hst : starEach (e :: es) X.env = (false, eval e X.env) :: starEach es X.env := by rfl) (hpl : (backTo pos (starEach es X.env)).any (·.1) = false := by rfl)
    (ht : eval (.Call (.Attribute o nm apos) (e :: es) [] pos) X.env = (do
      let ov ← eval o X.env
      standAt apos.atName
      let (f, first) ← holding [ov] (getMethod ov nm pl)
      callWith pos f first (backTo pos (starEach (e :: es) X.env)) (backToKw pos (keywordEach [] X.env))) := by rfl) :
    DEx X CT W (.Call (.Attribute o nm apos) (e :: es) [] pos) (cMeth cl nm n m a c) := by
  obtain ⟨Ca, f, fd, ps, g1, g2, M, g4, g5, g6⟩ := G.ex
  refine ⟨fun pins s σ H Q I h => ?_⟩
  have h := run_meth g1 σ H Q h
  refine PySem.W.methodCall_KW (pl := pl) (thn (ho.run pins s σ H _ I h) fun u s1 ⟨x, H1, I1, rx, a, dx, fs, ex, ea, l, q⟩ => ?_) ht
  subst ex
  obtain rfl : u = Value.ref a := rx
  refine getmeth_ok I1 ea g2 M l ?_
  refine PySem.W.callWith_K (first := [.ref a]) (h₀ := X.base) I.ok.mod.kin M.kp (thn (ha.run pos pins s1 σ H1 _ I1 q) fun us s2 ⟨vs, H2, I2, r, q2⟩ => ⟨I2.kIn, ?_⟩) hst hpl
  exact run_fnS (us := .ref a :: us) (vs := .ref a :: vs) g6 hr g5 (passAt tk σ) I2 (.cons rfl r) q2
theorem de_meth0 {cl nm : Str} {o : Expr} {a : C D} {apos : Pos} {pl : Sem Bool} (G : Mt X.prog X.w X.K X.mg X.base CT k cl nm 0 m) (hr : Room k X.A) (tk : Takes X W) (ho : DEx X CT W o a)
    (ht : eval (.Call (.Attribute o nm apos) [] [] pos) X.env = (do
      let ov ← eval o X.env
      standAt apos.atName
      let (f, first) ← holding [ov] (getMethod ov nm pl)
      callWith pos f first (backTo pos (starEach [] X.env)) (backToKw pos (keywordEach [] X.env))) := by rfl) :
    DEx X CT W (.Call (.Attribute o nm apos) [] [] pos) (cMeth cl nm 0 m a cNil) := by
  obtain ⟨Ca, f, fd, ps, g1, g2, M, g4, g5, g6⟩ := G.ex
  refine ⟨fun pins s σ H Q I h => ?_⟩
  have h := run_meth g1 σ H Q h
  refine PySem.W.methodCall_KW (pl := pl) (thn (ho.run pins s σ H _ I h) fun u s1 ⟨x, H1, I1, rx, a, dx, fs, ex, ea, l, q⟩ => ?_) ht
  subst ex
  obtain rfl : u = Value.ref a := rx
  refine getmeth_ok I1 ea g2 M l ?_
  obtain ⟨A, F, mm, S, ρ, s', h2, h3⟩ := q
  have q2 := h3.now (b := ([] : List V)) s' rfl
  exact PySem.W.callWith_K0 (first := [.ref a]) I1.kIn M.kp (run_fnS (us := [.ref a]) (vs := [.ref a]) g6 hr g5 (passAt tk σ) I1 (.cons rfl .nil) q2)

/-! ### lists that change: append, extend, xs[i] = e -/
theorem tyV_lst {K : PySem.W.Frag} {A : Asd} {F : Hp} {mm : List Addr} {S : Store} {H : Hp} {a : Addr} {vs : List V} (h : H a = some (.lst vs)) : tyV K "list" (.ref a) H := Or.inl ⟨rfl, _, Or.inl (Or.inl h)⟩
def cAppend (o a : C D) : C D := thenC o fun ρ x S => match x with
  | .ref n => match lstAt S n with
    | some _ => bindO (a ρ S) fun y S => match lstAt S n with
      | some ds => if ds.length < sizeLine then ret .non (S.set n (some (.lst (ds ++ [y])))) else none
      | none => none
    | none => none
  | _ => none
theorem de_append {ec : Expr} {a b : C D} (h : PE X ec (tBM X.K "list" rAppend (tD X.K CT W a) (tCons (tD X.K CT W b) tNil))) : DEx X CT W ec (cAppend a b) :=
  h.weak fun σ H Q h => by
    refine (tG.step (R' := RD X.K CT) h).mono fun v H1 h => ?_
    obtain ⟨A, F, mm, S, ρ, x, s, h2, h3, h4⟩ := h
    split at h4
    · rename_i n
      split at h4
      · rename_i ds0 e0
        obtain ⟨a, vs, rfl, g1, g2⟩ := s.lstD (d := .ref n) e0 h3
        refine ⟨tyV_lst (A := A) (F := F) (mm := mm) (S := S) g1, ?_⟩
        refine ⟨A, F, mm, S, ρ, s, h2, ?_⟩
        refine Run.mono (Run.bind (R' := RD X.K CT) h4) fun w H2 h => ?_
        obtain ⟨F', mm', y, S', e, s', r, h⟩ := h
        split at h
        · rename_i ds e1
          split at h
          · rename_i c
            obtain ⟨a', ha', ea⟩ := Rep.ext e h3
            cases ea
            obtain ⟨b, hb, hf, ob, hob, us, rfl, q⟩ := s'.live n _ (lstAt_eq e1)
            rw [ha'] at hb; cases hb
            refine ⟨a, us, w, rfl, rfl, hob, by rw [← q.length]; exact c, ?_⟩
            exact h.now (s'.wr (lstAt_eq e1) ha' ⟨us ++ [w], rfl, q.append ⟨w, [], rfl, r, rfl⟩⟩) rfl
          · exact h.elim
        · exact h.elim
      · exact h4.elim
    · exact h4.elim
def cExtend (o a : C D) : C D := thenC o fun ρ x S => match x with
  | .ref n => match lstAt S n with
    | some _ => bindO (a ρ S) fun y S => match lstAt S n, lstD S y with
      | some ds, some es => if ds.length + es.length ≤ sizeLine then ret .non (S.set n (some (.lst (ds ++ es)))) else none
      | _, _ => none
    | none => none
  | _ => none
theorem de_extend {ec : Expr} {a b : C D} (h : PE X ec (tBM X.K "list" rExtend (tD X.K CT W a) (tCons (tD X.K CT W b) tNil))) : DEx X CT W ec (cExtend a b) :=
  h.weak fun σ H Q h => by
    refine (tG.step (R' := RD X.K CT) h).mono fun v H1 h => ?_
    obtain ⟨A, F, mm, S, ρ, x, s, h2, h3, h4⟩ := h
    split at h4
    · rename_i n
      split at h4
      · rename_i ds0 e0
        obtain ⟨a, vs, rfl, g1, g2⟩ := s.lstD (d := .ref n) e0 h3
        refine ⟨tyV_lst (A := A) (F := F) (mm := mm) (S := S) g1, ?_⟩
        refine ⟨A, F, mm, S, ρ, s, h2, ?_⟩
        refine Run.mono (Run.bind (R' := RD X.K CT) h4) fun w H2 h => ?_
        obtain ⟨F', mm', y, S', e, s', r, h⟩ := h
        split at h
        · rename_i ds es e1 e2
          split at h
          · rename_i c
            obtain ⟨a', ha', ea⟩ := Rep.ext e h3
            cases ea
            obtain ⟨b, hb, hf, ob, hob, us, rfl, q⟩ := s'.live n _ (lstAt_eq e1)
            rw [ha'] at hb; cases hb
            obtain ⟨b2, zs, rfl, g3, g4⟩ := s'.lstD e2 r
            refine ⟨a, b2, us, zs, rfl, rfl, hob, g3, by rw [← q.length, ← g4.length]; exact c, ?_⟩
            exact h.now (s'.wr (lstAt_eq e1) ha' ⟨us ++ zs, rfl, q.append g4⟩) rfl
          · exact h.elim
        · exact h.elim
      · exact h4.elim
    · exact h4.elim
/-- xs[i] = e -/
def cSetIx (v o i : C D) : CS := cStep v fun ρ y S => liftS (o ρ S) ρ fun x S => liftS (i ρ S) ρ fun z S => match x, z with
  | .ref n, .int k => match lstAt S n with
    | some ds => match ixN ds.length k with
      | some j => some (.go .nx ρ (S.set n (some (.lst (ds.set j y)))))
      | none => none
    | none => none
  | _, _ => none
theorem ds_setIx {o i value : Expr} {a b v : C D} {tpos : Pos} (hv : DEx X CT W value v) (ho : DEx X CT W o a) (hi : DEx X CT W i b)
    (ha : ∀ v, assign (.Subscript o i tpos) X.env v = (do
      let ov ← holding [v] (eval o X.env)
      let iv ← holding [v, ov] (eval i X.env)
      standAt tpos
      holding [v, ov, iv] (setItem ov iv v)
      release [v, ov, iv] []) := by intro _; rfl)
    (hs : swapsWithSole [.Subscript o i tpos] value pos.line X.env = pure false := by rfl) (hw : swappedStores [.Subscript o i tpos] value X.env = pure none := by rfl)
    (h1 : (assignEach [.Subscript o i tpos] X.env).map (·.2) = [assign (.Subscript o i tpos) X.env] := by rfl) : DSx X CT W (.Assign [.Subscript o i tpos] value pos) (cSetIx v a b) :=
  (ps_asg hv (pg_sub ho hi set_list ha) hs hw h1).weak fun E σ H h => by
    refine (tS.step (R' := RD X.K CT) h).mono fun u H1 h => ?_
    obtain ⟨A, F, mm, S, ρ, y, s, h2, h3, h4⟩ := h
    refine ⟨A, F, mm, S, ρ, s, h2, ?_⟩
    refine Run.mono (RunS.bind (R' := RD X.K CT) h4 h2) fun w H2 h => ?_
    obtain ⟨F', mm', x, S', e, s', r, h⟩ := h
    refine ⟨A, F', mm', S', ρ, s', h2.ext e, ?_⟩
    refine Run.mono (RunS.bind (R' := RD X.K CT) h (h2.ext e)) fun t H3 h => ?_
    obtain ⟨F3, mm3, z, S3, e3, s3, r3, h⟩ := h
    split at h
    · rename_i n k' hx
      split at h
      · rename_i ds q
        split at h
        · rename_i j q2
          obtain ⟨a', ha', ea⟩ := Rep.ext e3 r
          obtain ⟨b, hb, hf, ob, hob, us, rfl, g⟩ := s3.live n _ (lstAt_eq q)
          rw [ha'] at hb; cases hb
          refine ⟨a', us, k', j, ea, r3, hob, by rw [← g.length]; exact q2, ?_⟩
          exact RunS.now (f := .nx) h (s3.wr (lstAt_eq q) ha' ⟨us.set j u, rfl, g.set j (Rep.ext e3 (Rep.ext e h3))⟩) ((h2.ext e).ext e3)
        · exact h.elim
      · exact h.elim
    · exact h.elim
end
end DE

set_option Elab.async false
set_option linter.all false
set_option maxRecDepth 100000
set_option maxHeartbeats 1000000
set_option autoImplicit false
namespace DE
open PySem PySem.Spec PyProof.Rows L2

/-! ### methods that say super().__init__(..): their bodies close over __class__ -/
structure KScope (N ps : List Str) (sc : Scope) : Prop where
  kind : sc.kind = .function
  co : sc.isCoroutine = false
  gen : sc.isGenerator = false
  nd : N.Nodup
  pre : N.take ps.length = ps
  par : ∀ x ∈ ps, sc.names.lookup x = some .local
  nocell : ∀ y ∈ sc.names, y.2 ≠ .cell
  free : ∀ y ∈ sc.names, y.2 = .free → y.1 = ("__class__" : Str)
  cls : sc.names.lookup ("__class__" : Str) = some .free
  sup : sc.names.lookup ("super" : Str) = some .globalImplicit

abbrev envK (qual : Str) (scope : Scope) (L f : Addr) (cd : Value) (cc : Addr) : Env := PySem.W.envX qual scope L f cd [("__class__", cc)]
/-- the context of such a body at its entry -/
def cxK (CX : CXT) (P : Program) (w : World) (K : PySem.W.Frag) (mg : Str → Option Value) (base : Heap) (N : List Str) (qual : Str) (scope : Scope) (f : Addr) (cd : Value) (cc : Addr) (A : Around) (outer : List Env) (s : Shared) (H : Hp) (E : XK) : Cx where
  prog := P
  w := w
  K := K
  mg := mg
  base := base
  A := A.deeper (envK qual scope s.heap.objs.size f cd cc)
  N := N
  s_0 := s
  H_0 := H
  env := envK qual scope s.heap.objs.size f cd cc
  outer := outer
  stack := envK qual scope s.heap.objs.size f cd cc :: outer
  ex := []
  calm := true
  fn := fun x => x != ("__class__" : Str)
  pn := []
  xe := fun e s' => wpAny (model P w) (A.deeper (envK qual scope s.heap.objs.size f cd cc)) (leaving (envK qual scope s.heap.objs.size f cd cc) e) (fun _ s'' => CX outer H s E e s'') (fun e' s'' => CX outer H s E e' s'') s'

theorem zip_lookup {x : Str} {v : Value} : ∀ {P : List Str} {vs : List Value} {i : Nat}, P.Nodup → P[i]? = some x → vs[i]? = some v → (P.zip vs).reverse.lookup x = some v
  | [], _, _, _, h, _ => by simp at h
  | p :: P, [], _, _, _, h => by simp at h
  | p :: P, w :: vs, 0, nd, h1, h2 => by
    have e1 : p = x := by simpa using h1
    have e2 : w = v := by simpa using h2
    subst e1 e2
    rw [List.zip_cons_cons, List.reverse_cons]
    have hn : (P.zip vs).reverse.lookup p = none := by
      rw [List.lookup_eq_none_iff]
      intro q hq
      have hm := (List.of_mem_zip (List.mem_reverse.mp hq)).1
      have := (List.nodup_cons.mp nd).1
      simpa using fun z : p = q.1 => this (by rw [z]; exact hm)
    rw [List.lookup_append, hn]
    simp
  | p :: P, w :: vs, i + 1, nd, h1, h2 => by
    have ih := zip_lookup (i := i) (List.nodup_cons.mp nd).2 (by simpa using h1) (by simpa using h2)
    rw [List.zip_cons_cons, List.reverse_cons, List.lookup_append, ih]
    rfl

theorem inv_startK {CX : CXT} {P : Program} {w : World} {K : PySem.W.Frag} {mg : Str → Option Value} {base : Heap} {N ps : List Str} {qual : Str} {scope : Scope} {f cc : Addr} {cd : Value} {A : Around} {outer : List Env} {s : Shared} {h₀ : Heap} {t : Nat} {H : Hp} {E : XK} {us : List Value} {vs : List V} {ov : Option Value}
    (S : KScope N ps scope) (hd : A.handled = none) (e0 : Env0 P w K mg base A outer s H) (hl : vs.length = ps.length) (r : Vals vs us) (hc : ∃ o, K.lookup cc = some o ∧ o.data = .cell ov)
    (hns : h₀.Ns s.heap.objs.size (fun x => (ps.zip us).reverse.lookup x)) (hk : ∀ b o, s.heap.get? b = some o → h₀.get? b = some o) :
    Inv (cxK CX P w K mg base N qual scope f cd cc A outer s H E) [] (L2.start N vs) H { s with heap := h₀, toks := t } := by
  have hpl : ps.length ≤ N.length := by have := congrArg List.length S.pre; rw [List.length_take] at this; omega
  obtain ⟨oc, hoc, hod⟩ := hc
  have hb := e0.mod.kin _ _ hoc
  obtain ⟨hs, hf⟩ := e0.bs _ _ hb
  have lk1 : ∀ y c, (envK qual scope s.heap.objs.size f cd cc).cells.lookup y = some c → y = ("__class__" : Str) ∧ c = cc := fun y c h => by
    have h : List.lookup y [(("__class__" : Str), cc)] = some c := h
    simp only [List.lookup] at h
    split at h
    · rename_i q; exact ⟨by simpa using q, (Option.some.inj h).symm⟩
    · cases h
  refine ⟨⟨e0.mod, S.kind, rfl, rfl, Nat.le_refl _, fun y z c h1 h2 => (lk1 y c h1).1.trans (lk1 z c h2).1.symm, fun y hy => ?_, fun y c hn h => ?_, fun _ => hd, Around.frames_deeper e0.frames, .inr ⟨rfl, rfl⟩, fun b z => absurd z (by show b ∉ []; simp), e0.bs, e0.bsz, fun b _ _ => by show b ∉ []; simp, fun b z => absurd z (by show b ∉ []; simp), e0.funs, e0.frf⟩,
    rfl, e0.bare, Un.kept hk, ⟨_, hns, fun i y v h1 h2 h3 => ?_⟩, fun y c h => ?_, e0.hok.fresh (Nat.le_refl _), fun y c h => ?_, fun p hp => absurd hp (by show p ∉ [] ++ []; simp), e0.hok.kept hk, ?_⟩
  · have hy : scope.names.lookup y = some .cell ∨ scope.names.lookup y = some .free := hy
    rcases hy with hy | hy
    · exact absurd rfl (S.nocell _ (PySem.mem_of_lookup hy))
    · refine ⟨cc, ?_⟩
      have e := S.free _ (PySem.mem_of_lookup hy) rfl
      have e : y = ("__class__" : Str) := e
      subst e
      rfl
  · have e := (lk1 y c h).1
    subst e
    have hn : (("__class__" : Str) != ("__class__" : Str)) = true := hn
    simp at hn
  · have hi : i < vs.length := by
      unfold L2.start at h2
      by_cases hi : i < vs.length
      · exact hi
      · rw [List.getElem?_append_right (by simpa using hi)] at h2
        rw [List.getElem?_replicate] at h2
        split at h2 <;> cases h2
    have ha : vs[i]? = some v := by
      unfold L2.start at h2
      rw [List.getElem?_append_left (by simpa using hi), List.getElem?_map] at h2
      cases e : vs[i]? with
      | none => rw [e] at h2; cases h2
      | some a => rw [e] at h2; cases h2; rfl
    obtain ⟨u, hu, rv⟩ := r.get ha
    have hp : ps[i]? = some y := by
      rw [← S.pre, List.getElem?_take_of_lt (by omega)]; exact h1
    have ndP : ps.Nodup := by rw [← S.pre]; exact S.nd.sublist (List.take_sublist _ _)
    exact ⟨u, rv, .inl ⟨S.par y (List.mem_of_getElem? hp), zip_lookup ndP hp hu⟩⟩
  · obtain ⟨rfl, rfl⟩ := lk1 y c h
    exact ⟨ov, oc, hk _ _ hs, hod⟩
  · obtain ⟨rfl, rfl⟩ := lk1 y c h
    exact hf
  · unfold L2.start
    show _ = N.length
    rw [List.length_append, List.length_map, List.length_replicate]
    omega

section
variable {CX : CXT} {P : Program} {w : World} {K : PySem.W.Frag} {mg : Str → Option Value} {base : Heap} {N ps : List Str} {qual : Str} {scope : Scope} {f cc cda D C x : Addr} {A : Around} {outer : List Env} {s0 : Shared} {H0 : Hp} {E0 : XK}
/-- super() in such a body: the object that it makes -/
theorem super_base {body : List Stmt} {p0 p1 : Pos} {attr : Str} {whole : Sem Value} {E : Value → Shared → Prop} {Q : Value → Shared → Prop} {pins : List (Addr × Obj)} {σ : L2.St} {H : Hp} {s : Shared} {of oca ocl : Obj} {fd : FuncData} {ar : Arg} {vs : Array Value} {file : Str} {tf : Tok} {cdD : ClassData} {ox : Obj}
    (S : KScope N ps scope) (I : Inv (cxK CX P w K mg base N qual scope f (.ref cda) cc A outer s0 H0 E0) pins σ H s) (lf : K.lookup f = some of) (hfd : of.data = .func fd) (hp : (fd.params.posonlyargs ++ fd.params.args).head? = some ar) (h0 : N[0]? = some ar.arg) (hps : ar.arg ∈ ps) (hσ : σ[0]? = some (some (.ref x)))
    (lcode : K.lookup cda = some oca) (hcode : oca.data = .fields vs) (hvs : vs[2]? = some (.str file tf)) (hfile : ((P.main.file : Str) == file) = true) (htop : (P.main.scope.names.lookup ("super" : Str)).isSome = false)
    (lcell : K.lookup cc = some ocl) (hcell : ocl.data = .cell (some (.ref D))) (hD : PySem.W.clsIn K D = some cdD) (hsub : PySem.W.mroIn K C (.ref D) = some true) (hsuper : mg "super" = none) (hat : (attr == ("__class__" : Str)) = false)
    (hx : s.heap.get? x = some ox) (hxc : ox.cls = .ref C) (hxn : ∀ c, ox.data ≠ .cls c)
    (h : ∀ so s', Inv (cxK CX P w K mg base N qual scope f (.ref cda) cc A outer s0 H0 E0) pins σ H s' → s'.heap.get? so = some (PySem.W.ks_superObj D x C) → s'.heap.get? x = some ox → Q (.ref so) s') :
    _root_.PySem.wpAt (model P w) (A.deeper (envK qual scope s0.heap.objs.size f (.ref cda) cc)) (.func body (envK qual scope s0.heap.objs.size f (.ref cda) cc)) (attributeBase (.Call (.Name "super" p0) [] [] p1) attr (envK qual scope s0.heap.objs.size f (.ref cda) cc) whole) Q E s := by
  have X : K.In s.heap := I.kIn
  obtain ⟨oD, hD1, hD2⟩ : ∃ oD, s.heap.get? D = some oD ∧ oD.data = .cls cdD := by
    unfold PySem.W.clsIn at hD
    split at hD
    · rename_i c d cd' sl ho
      cases hD
      exact ⟨_, X _ _ ho, rfl⟩
    · cases hD
  obtain ⟨m, hn, hl⟩ := id I.loc
  obtain ⟨u, ru, lu⟩ := hl 0 ar.arg _ h0 hσ (.inl (S.par _ hps))
  obtain rfl : u = Value.ref x := ru
  have hm : m ar.arg = some (.ref x) := by
    rcases lu with ⟨_, e⟩ | ⟨k, _⟩
    · exact e
    · have k : scope.names.lookup ar.arg = some .cell ∨ scope.names.lookup ar.arg = some .free := k
      rw [S.par _ hps] at k
      rcases k with k | k <;> cases k
  obtain ⟨mb, b1, b2⟩ := I.mod.blt
  refine ks_wpAt_super_base (env := envK qual scope s0.heap.objs.size f (.ref cda) cc) S.sup S.cls hat rfl (X _ _ lf) hfd hp rfl (X _ _ lcode) hcode hvs hfile htop ?_
  refine PySem.W.ks_loadName_global S.kind S.sup (Calls.loadGlobal_builtin (env := envK qual scope s0.heap.objs.size f (.ref cda) cc) (I.mod.glob.keeps I.bk) hsuper (b1.keeps I.bk) ((b2 _ (by decide)).trans (by decide +kernel)) ⟨rfl, ?_⟩)
  refine wpAny_loadName_free S.kind S.cls rfl ⟨_, X _ _ lcell, hcell⟩ ?_
  refine wpAny_loadName_local S.kind (S.par _ hps) hn hm ?_
  obtain ⟨hh, g, d, t, os⟩ := s
  refine ks_wpAny_isType_cls hD1 hD2 ⟨rfl, ?_⟩
  refine ks_wpAny_call_super hD1 hD2 hx hxc hxn (PySem.W.looks_mroIn X hsub) (fun h' e k => ?_)
  exact h _ _ (I.kept (t' := t) k) e (k _ _ hx)
end

/-! ### an own exception's __init__: super().__init__(..), then fields -/
section
variable {prog : Program} {w : World} {A : Around} {E : Value → Shared → Prop}
/-- the built-in __init__ bound to the exception, called -/
theorem call_mw {x u C t0 : Addr} {s : Shared} {rest : List Value} {Q : Value → Shared → Prop} {nm q : Str} {N : Addr} {bs bm sub : List Value} {hdct : Bool} {sn : List Str} {ab : Bool} {col : Option Bool} {dd : Option Addr} {k0 k1 k2 k3 k5 : Option Value}
    (hC : s.heap.get? C = some (excClassObj nm q C N bs bm hdct sn sub ab col dd k0 k1 k2 k3 k5 "ValueError.__new__")) (hu : s.heap.get? u = some (PySem.W.kxs_mw "ValueError.__init__" x))
    (he : s.heap.get? x = some ({ cls := .ref C, dict := none, data := .fields #[.ref t0, .none, .none, .none, .bool false, .none] } : Obj)) (hz : rest.length ≤ sizeLine)
    (h : ∀ h' t1, (∀ b o, b ≠ x → s.heap.get? b = some o → h'.get? b = some o) → h'.get? x = some ({ cls := .ref C, dict := none, data := .fields #[.ref t1, .none, .none, .none, .bool false, .none] } : Obj) → Q .none { s with heap := h' }) :
    wpAny (model prog w) A (PySem.call (.ref u) rest) Q E s := by
  obtain ⟨hh, g, d, tk, os⟩ := s
  refine wpAny_call (codeAny_of_tree ?_)
  show wpAny _ A.in1 (callAny (.ref u) ⟨rest, []⟩) _ _ _
  simp only [callAny]
  refine wpAny_bind (wpAny_load hu ?_)
  simp only [PySem.W.kxs_mw, show (Value.type "method-wrapper" == Value.type "method" || Value.type "method-wrapper" == Value.type "builtin_function_or_method" || Value.type "method-wrapper" == Value.type "method-wrapper") = true by decide, if_true]
  refine PySem.W.KFB.if_so (by decide) ?_
  refine wpAny_bind (PySem.W.check_bound_init F.excBase_ValueError.toExcCallFacts hC he rfl ?_)
  refine wpAny_bind (wpAny_pure (wpAny_pure ?_))
  refine ⟨plainId_quiet F.excBase_ValueError.init.plain _, codeAny_builtin F.excBase_ValueError.initEntry ?_⟩
  exact PySem.W.exc_init_tree (cls := .ref C) (t0 := t0) (dv := none) (c2 := .none) (c3 := .none) (b4 := .bool false) he hz fun h' k e' _ => h h' _ k e'
end
end DE

set_option Elab.async false
set_option linter.all false
set_option maxRecDepth 100000
set_option maxHeartbeats 1000000
set_option autoImplicit false
namespace DE
open PySem PySem.Spec PyProof.Rows L2

/-- what the written part says of an own exception's class C whose __init__ stands in the class D -/
structure XcC (K : PySem.W.Frag) (C D : Addr) : Prop where
  oex : OexC K C
  op : PySem.W.nsIn K PySem.cStatics "thirdparty.any" = some none
  sub : PySem.W.mroIn K C (.ref D) = some true
  sup : PySem.W.ks_superIn K C D "__init__" = some (some (.builtin "ValueError.__init__"))
  ve : PySem.W.subIn K (.ref C) (.type "ValueError") = some true
/-- an own exception's __init__: of (self, ..) super().__init__(e ..), then the rest -/
def spX (K : PySem.W.Frag) (D : Addr) (N : List Str) (n : Nat) (ta : TA) (t : TS) : Sp := fun vs H Q E => vs.length = n ∧ ∃ a C ys, vs = .ref a :: ys ∧ XcC K C D ∧ H a = some (exo a C none) ∧
  ta (L2.start N vs) H fun ws H1 => ws.length ≤ 1000 ∧ H1 = H ∧ t { nx := fun _ H' => Q .non H', rt := Q } (L2.start N vs) H
section
variable {CX : CXT} {P : Program} {w : World} {K : PySem.W.Frag} {mg : Str → Option Value} {base : Heap} {N ps : List Str} {name qual : Str} {scope : Scope} {f cc cda D : Addr}
theorem ne_cls {h : Heap} {C x : Addr} {ox oC : Obj} (hx : h.get? x = some ox) (hC : h.get? C = some oC) (hn : ∀ c, ox.data ≠ .cls c) (hc : ∃ c, oC.data = .cls c) : x ≠ C := by
  rintro rfl
  rw [hx] at hC; cases hC
  obtain ⟨c, e⟩ := hc
  exact hn c e
theorem fn_exc {k n : Nat} {params : Arguments} {e : Expr} {es : List Expr} {rest : List Stmt} {p0 p1 p2 p3 p4 : Pos} {kV doc pm ct oc : Value} {an od : Option Addr} {osl : Array (Option Value)} {oca ocl : Obj} {ar : Arg} {vs : Array Value} {file : Str} {tf : Tok} {cdD : ClassData} {ta : TA} {t : TS}
    (lk : K.lookup f = some ⟨oc, od, .func (PySem.W.ksFn name qual params (.Expr (.Call (.Attribute (.Call (.Name "super" p0) [] [] p1) "__init__" p2) (e :: es) [] p3) p4 :: rest) scope .none kV doc pm an (.ref cda) ct cc), osl⟩)
    (hcd : PySem.W.codeIn K (.ref cda) qual = true) (S : KScope N ps scope) (hn : ps.length = n) (hp : (params.posonlyargs ++ params.args).head? = some ar) (h0 : N[0]? = some ar.arg) (hps : ar.arg ∈ ps)
    (lcode : K.lookup cda = some oca) (hcode : oca.data = .fields vs) (hvs : vs[2]? = some (.str file tf)) (hfile : ((P.main.file : Str) == file) = true) (htop : (P.main.scope.names.lookup ("super" : Str)).isSome = false)
    (lcell : K.lookup cc = some ocl) (hcell : ocl.data = .cell (some (.ref D))) (hD : PySem.W.clsIn K D = some cdD) (hsuper : mg "super" = none)
    (ha : ∀ (A : Around) (outer : List Env) (s : Shared) (H : Hp) (E : XK), PA (cxK CX P w K mg base N qual scope f (.ref cda) cc A outer s H E) (e :: es) ta)
    (hr : ∀ (A : Around) (outer : List Env) (s : Shared) (H : Hp) (E : XK), PSs (cxK CX P w K mg base N qual scope f (.ref cda) cc A outer s H E) rest t)
    (hst : ∀ (s : Shared), starEach (e :: es) (envK qual scope s.heap.objs.size f (.ref cda) cc) = (false, eval e (envK qual scope s.heap.objs.size f (.ref cda) cc)) :: starEach es (envK qual scope s.heap.objs.size f (.ref cda) cc))
    (hpl : ∀ (s : Shared), (backTo p3 (starEach es (envK qual scope s.heap.objs.size f (.ref cda) cc))).any (·.1) = false)
    (hev : ∀ (s : Shared), ∃ pl : Sem Bool, eval (.Call (.Attribute (.Call (.Name "super" p0) [] [] p1) "__init__" p2) (e :: es) [] p3) (envK qual scope s.heap.objs.size f (.ref cda) cc) = (do
      let ov ← attributeBase (.Call (.Name "super" p0) [] [] p1) "__init__" (envK qual scope s.heap.objs.size f (.ref cda) cc) (eval (.Call (.Name "super" p0) [] [] p1) (envK qual scope s.heap.objs.size f (.ref cda) cc))
      standAt p2.atName
      let (f', first) ← holding [ov] (getMethod ov "__init__" pl)
      callWith p3 f' first (backTo p3 (starEach (e :: es) (envK qual scope s.heap.objs.size f (.ref cda) cc))) []))
    (hsw : ∀ (s : Shared), swapsWith (.Call (.Attribute (.Call (.Name "super" p0) [] [] p1) "__init__" p2) (e :: es) [] p3) none p4.line (envK qual scope s.heap.objs.size f (.ref cda) cc) = pure false) :
    FnOk P w K mg base CX (k + 1) f (PySem.W.ksFn name qual params (.Expr (.Call (.Attribute (.Call (.Name "super" p0) [] [] p1) "__init__" p2) (e :: es) [] p3) p4 :: rest) scope .none kV doc pm an (.ref cda) ct cc) ps (spX K D N n ta t) := by
  refine ⟨fun vs H Q E q => by rw [hn]; exact q.1, fun A outer s H args us vs' Q E room e0 hb r hsp => ?_⟩
  obtain ⟨hl, a, C, ys, rfl, T, hH, hq⟩ := hsp
  have KX : K.In s.heap := e0.mod.kin.keeps fun b o e => (e0.bs b o e).1
  have lim : s.heap.NoLimit := e0.mod.nolimit.keeps fun b o e => (e0.bs b o e).1
  refine ks_codeAny_call_defAt (binds := ps.zip us) room.depth (KX _ _ lk) rfl lim (PySem.W.codeRec_of KX hcd) rfl hb S.nocell (fun y hy => S.par _ (List.of_mem_zip hy).1) (fun h₀ hns hk => ?_) S.co S.gen S.kind
  show _root_.PySem.wpAt (model P w) (A.deeper (envK qual scope s.heap.objs.size f (.ref cda) cc)) (.func _ (envK qual scope s.heap.objs.size f (.ref cda) cc)) (execs _ (envK qual scope s.heap.objs.size f (.ref cda) cc)) _ _ _
  have I : Inv (cxK CX P w K mg base N qual scope f (.ref cda) cc A outer s H E) [] (L2.start N (.ref a :: ys)) H { s with heap := h₀, toks := s.toks + (ps.zip us).length } :=
    inv_startK S room.hd e0 (by rw [hl, hn]) r ⟨ocl, lcell, hcell⟩ hns hk
  obtain ⟨nm, q, Nn, bs, bm, sn, sub, ab, col, dd, k0, k1, k2, k3, k5, lC, hbm⟩ := T.oex.cls
  obtain ⟨t1, ho⟩ := exo_at I.hok hH
  obtain ⟨pl, hev⟩ := hev s
  refine ks_wpAt_execs_cons (ks_wpAt_Expr_any (ks_wpAt_MethodCall ?_ hev) (by simp [interactive, S.kind]) (hsw s))
  refine super_base S I lk rfl hp h0 hps (by simp [L2.start]) lcode hcode hvs hfile htop lcell hcell hD T.sub hsuper (by decide) ho rfl (fun c z => nomatch z) fun so s' I' hso hx' => ?_
  -- the method
  have X' : K.In s'.heap := I'.kIn
  have hCo := X' _ _ lC
  obtain ⟨h1, g1, d1, tk1, os1⟩ := s'
  have hcl : PySem.W.clsIn K C = some { name := nm, bases := bs, mro := .ref C :: bm, ns := Nn, qualname := q, hasDict := true, slotNames := sn, subclasses := sub, abstract := ab, collection := col, hasDel := false } := by unfold PySem.W.clsIn; rw [lC] <;> rfl
  have hsup := T.sup
  unfold PySem.W.ks_superIn at hsup
  rw [hcl] at hsup
  have hne : a ≠ C := ne_cls hx' hCo (fun c z => nomatch z) ⟨_, rfl⟩
  have hIs : PySem.W.Looks (model P w) h1 (isInstance (.ref a) (.type "ValueError")) true :=
    (show PySem.W.InstAt h1 a ({ cls := .ref C, dict := none, data := .fields #[.ref t1, .none, .none, .none, .bool false, .none] } : Obj) C none from ⟨hx', rfl, rfl, trivial⟩).type.andThen (PySem.W.looks_subIn X' T.ve)
  refine PySem.W.kxs_getMethod PySem.W.kxs_ValueError hso (PySem.W.looks_opaque X' T.op) (fun A Q E s k q => wpAny_bind ((PySem.W.looks_clsIn X' hcl) A _ E s k (wpAny_pure q))) rfl X' hsup hIs hne (by decide) ?_
  -- its call
  have kp : ∀ b o, h1.get? b = some o → (h1.push (PySem.W.kxs_mw "ValueError.__init__" a)).get? b = some o := fun b o e => Heap.get?_push_of_some _ e
  have I2 : Inv (cxK CX P w K mg base N qual scope f (.ref cda) cc A outer s H E) [] (L2.start N (.ref a :: ys)) H ⟨h1.push (PySem.W.kxs_mw "ValueError.__init__" a), g1, d1, tk1 + 1, os1⟩ := I'.kept (t' := tk1 + 1) kp
  have hu0 : (h1.push (PySem.W.kxs_mw "ValueError.__init__" a)).get? h1.objs.size = some (PySem.W.kxs_mw "ValueError.__init__" a) := Heap.get?_push_size _ rfl
  -- the wrapper stands while the arguments are reckoned: it is pinned
  have I3 : Inv (cxK CX P w K mg base N qual scope f (.ref cda) cc A outer s H E) [(h1.objs.size, PySem.W.kxs_mw "ValueError.__init__" a)] (L2.start N (.ref a :: ys)) H ⟨h1.push (PySem.W.kxs_mw "ValueError.__init__" a), g1, d1, tk1 + 1, os1⟩ := by
    refine I2.pins_of fun p hp => ?_
    rw [List.mem_singleton] at hp
    subst hp
    have hfr : H h1.objs.size = none := I'.hok.fresh (Nat.le_refl _)
    refine ⟨hu0, hfr, ?_, I'.nofs (Nat.le_refl _), fun v z => nomatch z⟩
    exact Nat.ne_of_gt I'.lt
  have hAr := ha A outer s H E
  show wpAny _ _ (callWith p3 (.ref h1.objs.size) [] (backTo p3 (starEach (e :: es) (envK qual scope s.heap.objs.size f (.ref cda) cc))) []) _ _ _
  have hw := hAr.run p3 _ _ _ H _ I3 hq
  have hst' := hst s
  rw [show (cxK CX P w K mg base N qual scope f (.ref cda) cc A outer s H E).env = envK qual scope s.heap.objs.size f (.ref cda) cc from rfl, hst'] at hw
  rw [hst']
  refine PySem.W.kxs_callWith (i := "ValueError.__init__") (x := a) (by show (false || (backTo p3 (starEach es (envK qual scope s.heap.objs.size f (.ref cda) cc))).any (·.1)) = false; rw [hpl s]; rfl) ?_
  refine PySem.Calls.evalArgs_plain (thn hw fun ws2 s2 ⟨ws, H1, I4, rw4, hz, eH, q4⟩ => ?_)
  subst eH
  obtain ⟨hu2, _⟩ := I4.pin (h1.objs.size, PySem.W.kxs_mw "ValueError.__init__" a) (by simp)
  refine ⟨hu2, ?_⟩
  obtain ⟨t2, ho2⟩ := exo_at I4.hok hH
  have hlen : ws2.length ≤ sizeLine := by
    rw [← Paired.length rw4, sizeLine_eq]
    omega
  refine call_mw (I4.kIn _ _ lC) hu2 ho2 hlen fun h' t3 k hx => ?_
  obtain ⟨hh2, g2, d2, tk2, os2⟩ := s2
  have J := I4.write (t' := tk2) (x := a) (e := a) (o := exo a C none) (by rw [hH]; exact True.intro) (.inl rfl) k ⟨_, hx⟩ (exo_ok hx)
  have eu : upd H1 a (exo a C none) = H1 := by
    funext b
    by_cases hb : b = a
    · rw [hb, upd_same, hH]
    · rw [upd_ne hb]
  rw [eu] at J
  have J : Inv (cxK CX P w K mg base N qual scope f (.ref cda) cc A outer s H1 E) [] (L2.start N (.ref a :: ys)) H1 ⟨h', g2, d2, tk2, os2⟩ := J.pins_of fun p hp => absurd hp (by simp)
  refine wpAt_of_wpAny ?_
  refine wpAny_mono ((hr A outer s H1 E).run [] _ _ _ _ J q4) (fun fl s' hs => ?_) fun e s' hs => hs
  have fin : ∀ {σ' : L2.St} {H' : Hp} {v : V} {u : Value}, Inv (cxK CX P w K mg base N qual scope f (.ref cda) cc A outer s H1 E) [] σ' H' s' → RelV v u → Q v H' → CE outer P w H1 s Q u s' :=
    fun {σ' H' v u} J rv q => ⟨v, H', J.os, J.bare, J.base, J.hok, rv, q⟩
  cases fl with
  | ret u =>
    obtain ⟨v, σ', H', J, rv, q⟩ := hs
    exact fin J rv q
  | next =>
    obtain ⟨σ', H', J, q⟩ := hs
    exact fin (v := V.non) (u := Value.none) J rfl q
  | brk =>
    obtain ⟨_, _, _, q⟩ := hs
    exact False.elim q
  | cont =>
    obtain ⟨_, _, _, q⟩ := hs
    exact False.elim q
end

/-! ### raising -/
abbrev tX1 (K : PySem.W.Frag) (f : Str) : TS := tOst K f (tVar 0) (tVar 1)
abbrev tX2 (K : PySem.W.Frag) (f g : Str) : TS := tSeq (tOst K f (tVar 0) (tVar 1)) (tOst K g (tVar 0) (tVar 2))
/-- own exceptions of one field, of two fields -/
structure Xc (P : Program) (w : World) (K : PySem.W.Frag) (mg : Str → Option Value) (base : Heap) (CT : Cfg) (k : Nat) (x : Str) (n : Nat) (fs : List Str) (ta : TA) (t : TS) : Prop where
  ex : ∃ (C Dc fI : Addr) (fd : FuncData) (ps N : List Str), mg x = some (.ref C) ∧ CT x = some C ∧ XcC K C Dc ∧ (∀ f ∈ fs, PySem.W.findIn K (.ref C) f = some none) ∧ PySem.W.findIn K (.ref C) "__init__" = some (some (.ref fI)) ∧ PySem.W.typeIn K (.ref fI) = some (.type "function") ∧ Binds K fd ps [] ∧
    FnOk P w K mg base (L2.CX P w) k fI fd ps (spX K Dc N n ta t)
abbrev Xc1 (P : Program) (w : World) (K : PySem.W.Frag) (mg : Str → Option Value) (base : Heap) (CT : Cfg) (k : Nat) (x f : Str) : Prop := Xc P w K mg base CT k x 2 [f] (tCons (tVar 1) tNil) (tX1 K f)
abbrev Xc2 (P : Program) (w : World) (K : PySem.W.Frag) (mg : Str → Option Value) (base : Heap) (CT : Cfg) (k : Nat) (x f g : Str) : Prop := Xc P w K mg base CT k x 3 [f, g] (tCons (tVar 1) (tCons (tVar 2) tNil)) (tX2 K f g)
section
variable {X : Cx} {CT : Cfg} {W : WX} {x f g : Str} {p p' pos : Pos} {e e2 : Expr} {k : Nat} {c : C (List D)}
def cRaise1 (x f : Str) (c : C (List D)) : CS := cStep c fun ρ ds S => match ds with
  | [d] => some (.ex ⟨x, [(f, d)]⟩ ρ S)
  | _ => none
def cRaise2 (x f g : Str) (c : C (List D)) : CS := cStep c fun ρ ds S => match ds with
  | [d, d'] => some (.ex ⟨x, [(g, d'), (f, d)]⟩ ρ S)
  | _ => none
theorem made_eq {H1 : Hp} {a dx : Addr} {o1 o2 o3 o4 : HO} (ha : H1 a = none) (hd : H1 dx = none) (ne : dx ≠ a) : upd (del (upd (upd (upd H1 a o1) dx o2) a o3) a) dx o4 = upd H1 dx o4 := by
  funext b
  by_cases h1 : b = dx
  · rw [h1, upd_same, upd_same]
  · rw [upd_ne h1, upd_ne h1]
    by_cases h2 : b = a
    · rw [h2, del_same, ha]
    · rw [del_ne h2, upd_ne h2, upd_ne h1, upd_ne h2]
theorem ds_raise1 (G : Xc1 X.prog X.w X.K X.mg X.base CT k x f) (hc : X.calm = true) (hr : Room (k + 1) X.A) (tk : Takes X W) (ha : DAx X CT W [e] c) (hg : Gl X x := by rfl) (hdb : (x == ("__debug__" : Str)) = false := by decide)
    (he : starEach [e] X.env = (false, eval e X.env) :: starEach [] X.env := by rfl) : DSx X CT W (.Raise (some (.Call (.Name x p) [e] [] p')) none pos) (cRaise1 x f c) := by
  obtain ⟨C, Dc, fI, fd, ps, N, g1, g2, T, hf, iC, tI, hb, FF⟩ := G.ex
  refine (ps_raise hc tk (pmk_oex T.oex iC tI FF hr hb .nil (passL (X := X)) hg g1 ha hdb he rfl)).weak fun E σ H h => ?_
  refine (tS.step (R' := RL X.K CT) h).mono fun vs H1 h => ?_
  obtain ⟨A, F, mm, S, ρ, ds, s, h2, h3, h4⟩ := h
  split at h4
  case h_2 => exact h4.elim
  rename_i d
  obtain ⟨v, r, rfl, r1, r2⟩ := h3
  rw [show r = [] from r2]
  refine ⟨by simp, fun a ha => ⟨rfl, a, C, [v], rfl, T, upd_same, ?_⟩⟩
  refine ⟨v, by simp [L2.start], by simp, rfl, ?_⟩
  refine ⟨v, by simp [L2.start], .ref a, by simp [L2.start], a, C, rfl, T.oex, hf f (by simp), .inl ⟨upd_same, fun dx hdx ne => ⟨rfl, dx, [(f, v)], upd_same, ?_, ?_, ?_⟩⟩⟩
  · rw [upd_ne ne, upd_same]
  · rw [upd_ne ne] at hdx; exact hdx
  · rw [upd_ne ne] at hdx
    rw [made_eq ha hdx ne]
    exact h4 (upd F dx (.xd _)) mm _ σ (.ref C) (some dx) (Ext.fix (s.fresh hdx).1) ((s.free hdx).fix (s.freshA hdx) (s.fresh hdx).1 (s.fresh hdx).2 upd_same) (h2.ext (Ext.fix (s.fresh hdx).1)) ⟨C, g2, rfl, .inr ⟨dx, [(f, v)], rfl, upd_same, v, [], rfl, r1.ext (Ext.fix (s.fresh hdx).1), rfl⟩⟩
theorem ds_raise2 (G : Xc2 X.prog X.w X.K X.mg X.base CT k x f g) (hfg : f ≠ g) (hc : X.calm = true) (hr : Room (k + 1) X.A) (tk : Takes X W) (ha : DAx X CT W [e, e2] c) (hg : Gl X x := by rfl) (hdb : (x == ("__debug__" : Str)) = false := by decide)
    (he : starEach [e, e2] X.env = (false, eval e X.env) :: starEach [e2] X.env := by rfl) (hpl : (backTo p' (starEach [e2] X.env)).any (·.1) = false := by rfl) : DSx X CT W (.Raise (some (.Call (.Name x p) [e, e2] [] p')) none pos) (cRaise2 x f g c) := by
  obtain ⟨C, Dc, fI, fd, ps, N, g1, g2, T, hf, iC, tI, hb, FF⟩ := G.ex
  refine (ps_raise hc tk (pmk_oex T.oex iC tI FF hr hb .nil (passL (X := X)) hg g1 ha hdb he hpl)).weak fun E σ H h => ?_
  refine (tS.step (R' := RL X.K CT) h).mono fun vs H1 h => ?_
  obtain ⟨A, F, mm, S, ρ, ds, s, h2, h3, h4⟩ := h
  split at h4
  case h_2 => exact h4.elim
  rename_i d d'
  obtain ⟨v, r, rfl, r1, v', r', rfl, r2, r3⟩ := h3
  rw [show r' = [] from r3]
  refine ⟨by simp, fun a ha => ⟨rfl, a, C, [v, v'], rfl, T, upd_same, ?_⟩⟩
  refine ⟨v, by simp [L2.start], v', by simp [L2.start], by simp, rfl, ?_⟩
  refine ⟨v, by simp [L2.start], .ref a, by simp [L2.start], a, C, rfl, T.oex, hf f (by simp), .inl ⟨upd_same, fun dx hdx ne => ?_⟩⟩
  rw [upd_ne ne] at hdx
  refine ⟨v', by simp [L2.start], .ref a, by simp [L2.start], a, C, rfl, T.oex, hf g (by simp), .inr ⟨dx, [(f, v)], upd_same, by rw [upd_ne ne, upd_same], by simp, rfl, dx, [(g, v'), (f, v)], ?_, upd_same, hdx, ?_⟩⟩
  · rw [upd_ne (Ne.symm ne), upd_same]
  · have e : upd (del (upd (upd (upd (upd H1 a (exo a C none)) dx (exd dx [(f, v)])) a (exo a C (some dx))) dx (exd dx [(g, v'), (f, v)])) a) dx (.xd [(g, v'), (f, v)]) = upd H1 dx (.xd [(g, v'), (f, v)]) := by
      funext b
      by_cases h1 : b = dx
      · rw [h1, upd_same, upd_same]
      · rw [upd_ne h1, upd_ne h1]
        by_cases h2 : b = a
        · rw [h2, del_same, ha]
        · rw [del_ne h2, upd_ne h1, upd_ne h2, upd_ne h1, upd_ne h2]
    rw [e]
    exact h4 (upd F dx (.xd _)) mm _ σ (.ref C) (some dx) (Ext.fix (s.fresh hdx).1) ((s.free hdx).fix (s.freshA hdx) (s.fresh hdx).1 (s.fresh hdx).2 upd_same) (h2.ext (Ext.fix (s.fresh hdx).1)) ⟨C, g2, rfl, .inr ⟨dx, [(g, v'), (f, v)], rfl, upd_same, v', _, rfl, r2.ext (Ext.fix (s.fresh hdx).1), v, [], rfl, r1.ext (Ext.fix (s.fresh hdx).1), rfl⟩⟩
end
end DE

set_option Elab.async false
set_option linter.all false
set_option maxRecDepth 100000
set_option autoImplicit false
namespace DE
open PySem PySem.Spec PyProof.Rows L2

/-! ### classes as values; isinstance -/
inductive Tag where
  | b (n : String)
  | o (C : Str)
  deriving DecidableEq
def TagV (CT : Cfg) : Tag → Value → Prop
  | .b n, v => v = .type n
  | .o C, v => ∃ Ca, CT C = some Ca ∧ v = .ref Ca
structure IsK (K : PySem.W.Frag) (CT : Cfg) (isi : Tag → Tag → Option Bool) (ics ecs : List Str) : Prop where
  ok : ∀ t u b tv uv, isi t u = some b → TagV CT t tv → TagV CT u uv → PySem.W.kitOne K tv uv = some b
  ic : ∀ C ∈ ics, ∀ Ca, CT C = some Ca → C8.InsC K Ca
  ec : ∀ C ∈ ecs, ∀ Ca, CT C = some Ca → L2.ExcC K Ca
def tagOf (ics ecs : List Str) (S : Store) : D → Option Tag
  | .non => some (.b "NoneType")
  | .bl _ => some (.b "bool")
  | .int _ => some (.b "int")
  | .str _ => some (.b "str")
  | .tup _ => some (.b "tuple")
  | .lst _ => some (.b "list")
  | .scr _ => some (.b "list")
  | .dct => some (.b "dict")
  | .ins C _ => if C ∈ ics then some (.o C) else none
  | .exc C _ => if C ∈ ecs then some (.o C) else none
  | .ref n => match S[n]? with
    | some (some (.lst _)) => some (.b "list")
    | some (some (.ins C _)) => if C ∈ ics then some (.o C) else none
    | _ => none
  | _ => none
def clsTag : D → Option Tag
  | .ty n => some (.b n)
  | .cls C => some (.o C)
  | _ => none
section
variable {K : PySem.W.Frag} {CT : Cfg} {F : Hp} {mm : List Addr}
theorem clsTag_rep {d : D} {v : V} {t : Tag} (r : Rep K CT F mm d v) (e : clsTag d = some t) : ∃ u, TagV CT t u ∧ ClsV v u := by
  cases d with
  | ty n => cases e; rw [show v = .ty n from r]; exact ⟨_, rfl, .ty n⟩
  | cls C => cases e; obtain ⟨Ca, rfl, h⟩ := r; exact ⟨_, ⟨Ca, h, rfl⟩, .own Ca⟩
  | _ => cases e
/-- isinstance of a caught exception -/
def rIsX (K : PySem.W.Frag) : List V → Hp → VK → Prop := fun xs H Q => ∃ (a D : Addr) (d : Option Addr) (c : V) (cv : Value) (b : Bool), xs = [.ref a, c] ∧ H a = some (XO (.ref D) d a) ∧ (∀ dd, d = some dd → ∃ fs, H dd = some (.xd fs)) ∧ L2.ExcC K D ∧ ClsV c cv ∧ PySem.W.kitOne K (.ref D) cv = some b ∧ Q (.bl b) H
end
section
variable {X : Cx} {CT : Cfg} {W : WX}
theorem xo_at {pins : List (Addr × Obj)} {σ : L2.St} {H : Hp} {s : Shared} {a D : Addr} {d : Option Addr} (I : Inv X pins σ H s) (ha : H a = some (XO (.ref D) d a)) (hd : ∀ dd, d = some dd → ∃ fs, H dd = some (.xd fs)) :
    ∃ oe od, PySem.W.InstAt s.heap a oe D od := by
  obtain ⟨⟨oe, vs, h1, h2, h3⟩, _, _⟩ := I.hok a _ ha
  have hn : PySem.W.notCls oe = true := by unfold PySem.W.notCls; rw [h3] <;> rfl
  cases d with
  | none =>
    refine ⟨oe, none, h1, h2.1, hn, ?_⟩
    rw [h2.2]; trivial
  | some dd =>
    obtain ⟨fs, hf⟩ := hd dd rfl
    have hx : ObjOk X.prog X.w H s.heap dd (.xd fs) := I.hok dd _ hf
    obtain ⟨mA, hns, hr⟩ := hx
    obtain ⟨od, ho, hl⟩ := lookIn_ns hns
    refine ⟨oe, some od, h1, h2.1, hn, ?_⟩
    rw [h2.2]; exact ho
theorem call_isA : CallR X (.builtin "isinstance") (fun xs H Q => rIsi X.K xs H Q ∨ rIsX X.K xs H Q) := by
  intro pins s σ H xs us Q I r h
  rcases h with h | h
  · exact call_isi pins s σ H xs us Q I r h
  · obtain ⟨a, D, d, c, cv, b, rfl, ha, hd, C, k, e, q⟩ := h
    obtain ⟨u1, u2, rfl, r1, r2⟩ := vals2 r
    have e2 := k.eq r2
    subst e2
    cases (show u1 = Value.ref a from r1)
    obtain ⟨oe, od, J⟩ := xo_at I ha hd
    have hcl : (PySem.W.clsIn X.K D).isSome = true := by
      have z := C.hd
      unfold PySem.W.hasDictIn at z
      cases e : PySem.W.clsIn X.K D with
      | none => rw [e] at z; cases z
      | some c => rfl
    exact PySem.W.kia_one (PySem.W.kitx_exc hcl C.hg C.hk C.hs C.ha C.hn C.ht C.hm) I.kIn J e (fun z => nomatch z) fun tk => ⟨.bl b, H, I.tok tk, rfl, q⟩
variable {isi : Tag → Tag → Option Bool} {ics ecs : List Str}
theorem sim_ty {A : Asd} {F : Hp} {mm : List Addr} {S : Store} {H : Hp} {d : D} {v : V} {t : Tag} (IK : IsK X.K CT isi ics ecs) (s : Sim X.K CT A F mm S H) (r : Rep X.K CT F mm d v) (e : tagOf ics ecs S d = some t) :
    (∃ tv, TagV CT t tv ∧ TyX X.K H v tv) ∨ (∃ C, t = .o C ∧ ∃ a Ca dx, v = .ref a ∧ CT C = some Ca ∧ H a = some (XO (.ref Ca) dx a) ∧ (∀ dd, dx = some dd → ∃ fs, H dd = some (.xd fs)) ∧ L2.ExcC X.K Ca) := by
  cases d with
  | non => cases e; rw [show v = .non from r]; exact .inl ⟨_, rfl, .base .non⟩
  | bl b => cases e; rw [show v = .bl b from r]; exact .inl ⟨_, rfl, .base (.bl b)⟩
  | int i => cases e; rw [show v = .int i from r]; exact .inl ⟨_, rfl, .base (.int i)⟩
  | str i => cases e; rw [show v = .str i from r]; exact .inl ⟨_, rfl, .base (.str i)⟩
  | tup ds =>
    cases e
    obtain ⟨a, vs, rfl, _, h, _⟩ := r
    refine .inl ⟨_, rfl, ?_⟩
    rcases s.sqt h with (h | ⟨o, h⟩) | ⟨o, its, n, h1, h2, _⟩
    · exact .base (.tup h)
    · exact .fTuple h
    · exact .kTuple h1 h2
  | lst ds =>
    cases e
    obtain ⟨a, vs, rfl, _, h, _⟩ := r
    exact .inl ⟨_, rfl, .base (.lst (s.fz _ _ h))⟩
  | scr ns =>
    cases e
    obtain ⟨a, rfl, h⟩ := r
    refine .inl ⟨_, rfl, ?_⟩
    rcases s.sql h with (h | ⟨o, h⟩) | ⟨o, its, n, h1, h2, _⟩
    · exact .base (.lst h)
    · exact .base (.frz h)
    · exact .kList h1 h2
  | dct =>
    cases e
    obtain ⟨a, kvs, rfl, h⟩ := r
    exact .inl ⟨_, rfl, .base (.dK (s.fz _ _ h))⟩
  | ins C fs =>
    have e : (if C ∈ ics then some (Tag.o C) else none) = some t := e
    split at e
    · rename_i c
      cases e
      obtain ⟨a, Ca, dx, fvs, rfl, h1, h2, h3⟩ := r
      have Q := IK.ic C c Ca h1
      exact .inl ⟨_, ⟨Ca, h1, rfl⟩, .base (.ins (s.fz _ _ h2) Q.cl Q.ha Q.hn Q.htk Q.hm)⟩
    · cases e
  | exc C fs =>
    have e : (if C ∈ ecs then some (Tag.o C) else none) = some t := e
    split at e
    · rename_i c
      cases e
      obtain ⟨a, Ca, rfl, h1, h2⟩ := r
      refine .inr ⟨C, rfl, a, Ca, ?_⟩
      rcases h2 with ⟨_, h2⟩ | ⟨dd, fvs, h2, h3, _⟩
      · exact ⟨none, rfl, h1, s.fz _ _ h2, (fun dd z => nomatch z), IK.ec C c Ca h1⟩
      · exact ⟨some dd, rfl, h1, s.fz _ _ h2, (fun d2 z => by cases z; exact ⟨fvs, s.fz _ _ h3⟩), IK.ec C c Ca h1⟩
    · cases e
  | ref n =>
    unfold tagOf at e
    dsimp only at e
    obtain ⟨a, ha, rfl⟩ := r
    split at e
    · rename_i ds q
      cases e
      obtain ⟨b, hb, _, o, ho, vs, rfl, _⟩ := s.live n _ q
      rw [ha] at hb; cases hb
      exact .inl ⟨_, rfl, .base (.lst ho)⟩
    · rename_i C fs q
      split at e
      · rename_i c
        cases e
        obtain ⟨b, hb, _, o, ho, Ca, dx, fvs, rfl, h1, _⟩ := s.live n _ q
        rw [ha] at hb; cases hb
        have Q := IK.ic C c Ca h1
        exact .inl ⟨_, ⟨Ca, h1, rfl⟩, .base (.ins ho Q.cl Q.ha Q.hn Q.htk Q.hm)⟩
      · cases e
    · cases e
  | _ => cases e
def kIsi (isi : Tag → Tag → Option Bool) (ics ecs : List Str) (x c : D) (S : Store) : Ev D := match tagOf ics ecs S x, clsTag c with
  | some t, some u => match isi t u with
    | some b => ret (.bl b) S
    | none => none
  | _, _ => none
theorem vl_isi (IK : IsK X.K CT isi ics ecs) : VL X.K CT W (fun xs H Q => rIsi X.K xs H Q ∨ rIsX X.K xs H Q) (k2 (kIsi isi ics ecs)) := fun A F mm S H σ Q ds vs s r h => by
  obtain ⟨x, v, c, w, rfl, r1, r2, h⟩ := k2_case h r
  unfold kIsi at h
  split at h
  · rename_i t u e1 e2
    split at h
    · rename_i b e3
      obtain ⟨uv, U, k⟩ := clsTag_rep r2 e2
      rcases sim_ty IK s r1 e1 with ⟨tv, T, ty⟩ | ⟨C, rfl, a, Ca, dx, rfl, h1, h2, h3, h4⟩
      · exact .inl ⟨v, w, tv, uv, b, rfl, k, ty, IK.ok t u b tv uv e3 T U, h.now s rfl⟩
      · exact .inr ⟨a, Ca, dx, w, uv, b, rfl, h2, h3, h4, k, IK.ok _ u b _ uv e3 ⟨Ca, h1, rfl⟩ U, h.now s rfl⟩
    · exact h.elim
  · exact h.elim
variable {x : Str} {pos p : Pos} {e : Expr}
/-- the names of classes -/
theorem de_gty {n : String} (hm : X.mg x = none) (hg : Gl X x := by rfl) (hb : bootBuiltins x = some (.type n) := by decide +kernel) (hn : x ≠ "__name__" := by decide) (hd : (x == ("__debug__" : Str)) = false := by decide) : DEx X CT W (.Name x pos) (cK (.ty n)) :=
  (pe_bltn (v := .ty n) hg hm hb rfl hn hd).weak fun σ H Q h => tD_K (d := .ty n) (v := .ty n) (fun _ _ => rfl) Q h
theorem de_gcls {Ca : Addr} (hm : X.mg x = some (.ref Ca)) (hC : CT x = some Ca) (hg : Gl X x := by rfl) (hd : (x == ("__debug__" : Str)) = false := by decide) : DEx X CT W (.Name x pos) (cK (.cls x)) :=
  (pe_glob (v := .ref Ca) hg hm rfl hd).weak fun σ H Q h => tD_K (d := .cls x) (v := .ref Ca) (fun _ _ => ⟨Ca, rfl, hC⟩) Q h
/-- isinstance(e, (A, B, ..)): of data other than exceptions -/
def isiAny (isi : Tag → Tag → Option Bool) (t : Tag) : List Tag → Option Bool
  | [] => some false
  | u :: us => match isi t u, isiAny isi t us with
    | some true, _ => some true
    | some false, o => o
    | none, _ => none
theorem isiAny_ok (IK : IsK X.K CT isi ics ecs) {t : Tag} {tv : Value} (T : TagV CT t tv) : ∀ {us : List Tag} {uvs : List Value} {b : Bool}, Paired (TagV CT) us uvs → isiAny isi t us = some b → PySem.W.kitAny X.K tv uvs = some b
  | [], _, b, .nil, h => by cases h; rfl
  | u :: us, _, b, .cons r rs, h => by
    unfold isiAny at h
    split at h
    · rename_i e; cases h
      exact kitAny_cons (IK.ok _ _ _ _ _ e T r) (fun z => nomatch z) (fun _ => rfl)
    · rename_i e
      exact kitAny_cons (IK.ok _ _ _ _ _ e T r) (fun _ => isiAny_ok IK T rs h) (fun z => nomatch z)
    · cases h
def kIsiT (isi : Tag → Tag → Option Bool) (ics ecs : List Str) (us : List Tag) (x : D) (S : Store) : Ev D := match tagOf ics ecs S x with
  | some t => match t, isiAny isi t us with
    | .o C, some b => if C ∈ ecs then none else ret (.bl b) S
    | .b _, some b => ret (.bl b) S
    | _, none => none
  | none => none
/-- the names of a tuple of classes -/
def ClsNames (X : Cx) (CT : Cfg) : List Expr → List Tag → Prop
  | [], [] => True
  | .Name x _ :: es, u :: us => Gl X x ∧ (x == ("__debug__" : Str)) = false ∧ (match u with
    | .b n => X.mg x = none ∧ bootBuiltins x = some (.type n) ∧ x ≠ "__name__"
    | .o C => ∃ Ca, X.mg x = some (.ref Ca) ∧ CT C = some Ca) ∧ ClsNames X CT es us
  | _, _ => False
theorem pa_names : ∀ {es : List Expr} {us : List Tag}, ClsNames X CT es us → ∃ vs uvs, vs.length = es.length ∧ Paired (TagV CT) us uvs ∧ Paired ClsV vs uvs ∧ PA X es (fun σ H Q => Q vs H)
  | [], [], _ => ⟨[], [], rfl, .nil, .nil, pa_nil⟩
  | [], _ :: _, h => h.elim
  | .Name x p :: es, u :: us, h => by
    obtain ⟨h1, h2, h3, h4⟩ := h
    obtain ⟨vs, uvs, l, p1, p2, q⟩ := pa_names h4
    have h0 : starEach (.Name x p :: es) X.env = (false, eval (.Name x p) X.env) :: starEach es X.env := rfl
    cases u with
    | b n =>
      obtain ⟨g1, g2, g3⟩ := h3
      exact ⟨.ty n :: vs, .type n :: uvs, by simp [l], .cons rfl p1, .cons (.ty n) p2, (pa_cons (pe_bltn (v := .ty n) h1 g1 g2 rfl g3 h2) q h0)⟩
    | o C =>
      obtain ⟨Ca, g1, g2⟩ := h3
      exact ⟨.ref Ca :: vs, .ref Ca :: uvs, by simp [l], .cons ⟨Ca, g2, rfl⟩ p1, .cons (.own Ca) p2, (pa_cons (pe_glob (v := .ref Ca) h1 g1 rfl h2) q h0)⟩
theorem de_isiT {es : List Expr} {us : List Tag} {a : C D} {xk : Nat} {pos' : Pos} (IK : IsK X.K CT isi ics ecs) (he : DEx X CT W e a) (hn : ClsNames X CT es us) (hm : X.mg "isinstance" = none) (hg : Gl X "isinstance" := by rfl)
    (hz : es.length ≤ 1000 := by decide)
    (h1 : starEach [e, .Tuple es xk pos'] X.env = (false, eval e X.env) :: starEach [.Tuple es xk pos'] X.env := by rfl) (h2 : starEach [.Tuple es xk pos'] X.env = (false, eval (.Tuple es xk pos') X.env) :: starEach [] X.env := by rfl) (hpl : (backTo pos (starEach [.Tuple es xk pos'] X.env)).any (·.1) = false := by rfl) :
    DEx X CT W (.Call (.Name "isinstance" p) [e, .Tuple es xk pos'] [] pos) (c1 (kIsiT isi ics ecs us) a) := by
  obtain ⟨vs, uvs, hl, p1, p2, q⟩ := pa_names hn
  refine (pe_callB call_isiT hg hm (by decide +kernel) (pa_cons he (pa_cons (pe_tup q) pa_nil h2) h1) (by decide) (by decide) h1 hpl).weak fun σ H Q h => ?_
  refine (tG.step (R' := RD X.K CT) h).mono fun v H1 h => ?_
  obtain ⟨A, F, mm, S, ρ, d, s, h2, h3, h4⟩ := h
  unfold kIsiT at h4
  split at h4
  case h_2 => exact h4.elim
  rename_i t e1
  have key : ∀ b, isiAny isi t us = some b → (∀ C, t = .o C → C ∉ ecs) → Run X.K CT A W σ (RD X.K CT) (ret (.bl b) S) F mm Q → vs.length ≤ sizeLine ∧ ∀ (tp : Addr), H1 tp = none → rIsiT X.K [v, .ref tp] (upd H1 tp (.tup vs)) Q := by
    intro b e2 nx h5
    refine ⟨by rw [hl, sizeLine_eq]; omega, fun tp htp => ?_⟩
    have s2 := s.free (o := .tup vs) htp
    rcases sim_ty IK s2 h3 e1 with ⟨tv, T, ty⟩ | ⟨C, rfl, a, Ca, dx, rfl, g1, g2, g3, g4⟩
    · exact ⟨v, tp, vs, tv, uvs, b, rfl, upd_same, p2, ty, isiAny_ok IK T p1 e2, h5.now s2 rfl⟩
    · exfalso
      -- a caught exception's tag is told apart
      cases d with
      | exc C' fs =>
        have e1 : (if C' ∈ ecs then some (Tag.o C') else none) = some (Tag.o C) := e1
        split at e1
        · rename_i c; cases e1; exact nx _ rfl c
        · cases e1
      | ins C' fs =>
        obtain ⟨a', Ca', dx', fvs, ea, _, hF, _⟩ := h3
        cases ea
        have := s2.fz _ _ hF
        rw [g2] at this; cases this
      | ref n =>
        obtain ⟨a', ha', ea⟩ := h3
        cases ea
        unfold tagOf at e1
        dsimp only at e1
        split at e1
        · cases e1
        · rename_i C' fs q'
          obtain ⟨b', hb, _, o, ho, Ca', dx', fvs, rfl, _⟩ := s2.live n _ q'
          rw [ha'] at hb; cases hb
          rw [g2] at ho; cases ho
        · cases e1
      | _ => cases e1
  split at h4
  · rename_i C b e2
    split at h4
    · exact h4.elim
    · rename_i c
      exact key b e2 (fun C' z => by cases z; exact c) h4
  · rename_i n b e2
    exact key b e2 (fun C' z => nomatch z) h4
  · exact h4.elim
end
end DE

set_option Elab.async false
set_option linter.all false
set_option maxRecDepth 100000
set_option maxHeartbeats 4000000
set_option autoImplicit false
namespace DE
open PySem PySem.Spec PyProof.Rows L2

/-! ### try: .. except x as n: .., the caught exception kept as a value -/
theorem xo_ok {P : Program} {w : World} {H : Hp} {h : Heap} {a : Addr} {cls : Value} {d : Option Addr} {oe : Obj} {vs : Array Value} (e : h.get? a = some oe) (z : Zc cls d oe) (dd : oe.data = .fields vs) : ObjOk P w H h a (XO cls d a) :=
  ⟨⟨oe, vs, e, z, dd⟩, ⟨oe, e⟩, fun _ _ ⟨o, v, q, r⟩ k => ⟨o, v, k o q, r⟩⟩
section
variable {X : Cx} {pins : List (Addr × Obj)} {σ : L2.St} {H : Hp} {sI s' : Shared} {B : Heap}
/-- back on the ground, the exception's object tracked -/
theorem landedT {a : Addr} {cls : Value} {d : Option Addr} {oe : Obj} {vs : Array Value} (I : Inv X pins σ H sI) (nb : ∀ b o, sI.heap.get? b = some o → b ∉ frs X.stack → B.get? b = some o) (st : B.StaysIn s'.heap) (up : sI.heap.UpToSlots s'.heap) (os : s'.os = sI.os) (ag : AllBare s'.gens)
    (hB : B.get? a = none) (nf : a ∉ frs X.stack) (na : H a = none) (he : s'.heap.get? a = some oe) (hz : Zc cls d oe) (hd : oe.data = .fields vs) : Inv X pins σ (upd H a (XO cls d a)) s' := by
  have nI : sI.heap.get? a = none := by
    cases e : sI.heap.get? a with
    | none => rfl
    | some o => rw [nb a o e nf] at hB; cases hB
  have ne : ∀ b o, sI.heap.get? b = some o → b ≠ a := fun b o e z => by rw [z, nI] at e; cases e
  have nh : ∀ b u, H b = some u → b ≠ a := fun b u e => ne_of_none e na
  have nf2 : ∀ b ∈ frs X.stack, ∀ o, sI.heap.get? b = some o → ∃ sl, s'.heap.get? b = some { o with slots := sl } := fun b hb o e => by
    obtain ⟨_, o', e', hd⟩ := I.stack.mem hb
    rw [e] at e'; cases e'
    exact up b o e hd
  have J := I.call (ch := []) (h' := s'.heap) (g' := s'.gens) (t' := s'.toks) (d' := s'.drawn) (H' := upd H a (XO cls d a))
    ⟨fun b o e _ hb _ => st b o (nb b o e hb), fun b o e _ hb _ => nf2 b hb o e, fun b o e n _ => by rw [upd_ne (ne b o e)]; exact n, fun b o e _ => by
      by_cases hb : b ∈ frs X.stack
      · obtain ⟨sl, q⟩ := nf2 b hb o e
        exact ⟨_, q⟩
      · exact ⟨o, st b o (nb b o e hb)⟩, fun b xs e => by rw [upd_ne (nh b _ e)]; exact e, fun b o xs e => by rw [upd_ne (nh b _ e)]; exact e, fun b ps e => ⟨#[], by rw [upd_ne (nh b _ e), e]; simp⟩⟩
    (((I.inGround nb).kept st).laidN (fun _ _ q => q) na (xo_ok he hz hd)) ag (fun _ z => nomatch z)
  obtain ⟨a1, a2, a3, a4, a5⟩ := s'
  have e5 : a5 = sI.os := os
  subst e5
  exact J
theorem inv_suite0 {s : Shared} {a : Addr} (I : Inv X pins σ H s) : Inv (X.suite a (X.pn ++ pins)) [] σ H s :=
  ⟨I.ok.suite _ _, I.os, I.bare, I.base, I.loc, I.cell, I.free, I.freeC, fun p hp => I.pin p (by rw [List.append_nil] at hp; exact hp), I.hok, I.len⟩
theorem inv_unsuite0 {s : Shared} {a : Addr} {pn' : List (Addr × Obj)} (I : Inv (X.suite a (X.pn ++ pins)) pn' σ H s) (ok : X.Ok) : Inv X pins σ H s :=
  ⟨ok, I.os, I.bare, I.base, I.loc, I.cell, I.free, I.freeC, fun p hp => I.pin p (List.mem_append_left _ hp), I.hok, I.len⟩
end
/-- what the clause wishes of an exception of the body -/
def wAsT (K : PySem.W.Frag) (c : Value) (i : Nat) (ts : TS) (Wout : WX) (D : Ends) : WX := fun cls d σ H =>
  ∃ b, PySem.W.exmOne K cls c = some b ∧ (b = true → ∀ a, H a = none → ts { nx := fun σ' H' => D.nx (σ'.set i none) H', rt := D.rt, bk := fun σ' H' => D.bk (σ'.set i none) H', ct := fun σ' H' => D.ct (σ'.set i none) H' } (σ.set i (some (.ref a))) (upd H a (XO cls d a))) ∧
    (b = false → Wout cls d σ H)
section
variable {X : Cx} {x n : Str} {c : Value} {i : Nat} {body suite : List Stmt} {b₀ : Stmt} {np pos pos' : Pos} {tb : WX → TS} {ts : TS} {Wout : WX}
theorem ps_try_asT (hs : X.stack = X.env :: X.outer) (hf : X.env.frame = some X.env.locals) (hN : X.N.Nodup) (hi : X.N[i]? = some n) (hln : X.env.kindOf n = some .local) (hc : Names X x c) (tk : Takes X Wout)
    (hb : ∀ (W : WX) (pn : List (Addr × Obj)) (xe : Value → Shared → Prop), Takes (X.tr pn xe) W → PassesOwn (model X.prog X.w) X.A X.env xe → PSs (X.tr pn xe) body (tb W))
    (hsu : ∀ (a : Addr) (pn : List (Addr × Obj)), PSs (X.suite a pn) (b₀ :: suite) ts) :
    PS X (.Try body [.ExceptHandler (some (.Name x np)) (some n) (b₀ :: suite) pos'] [] [] pos) (fun D σ H => tb (wAsT X.K c i ts Wout D) D σ H) := by
  refine ⟨fun pins s σ H D I h => ?_⟩
  have ok := I.ok
  have hfr : X.A.frames = some (X.env :: X.outer) := by rw [ok.frames, hs]
  have hloc : Loc X.env.scope n := .inl hln
  refine wpAny_Try_except ?_
  refine wpAny_mono ((hb (wAsT X.K c i ts Wout D) (X.pn ++ pins) (fun e s₁ => wpAny (model X.prog X.w) X.A (noteFrame e X.env) (fun _ s₂ => wpAny (model X.prog X.w) X.A (setFlight e none) (fun _ s₃ =>
    wpAny (model X.prog X.w) X.A (handleBy e X.env [.ExceptHandler (some (.Name x np)) (some n) (b₀ :: suite) pos']) (SP X pins D) X.xe s₃) X.xe s₂) X.xe s₁) (fun u s' xx => ?_) PassesOwn.looking).run [] s σ H D (I.toTry _) h) (fun f s1 hsp => ?_) (fun e s1 he => he)
  · -- the catch
    obtain ⟨a, B, sI, pins', σ', H', cls, d, rfl, J', nb, up, sky, na, os, ag, b, hb1, hyes, hno⟩ := xx
    have J : Inv X pins σ' H' sI := J'.ofTry ok
    have sky' : Sky B (X.env :: X.outer) a (Zc cls d) X.env.locals s'.heap := by rw [← hs]; exact sky
    show wpAny (model X.prog X.w) X.A (noteFrame (.ref a) X.env) _ _ _
    refine Sky.land Zc.steady hfr hf sky' fun h3 fl3 up3 => ?_
    have J3 : Inv X pins σ' H' { s' with heap := h3 } := J.landed nb fl3.1 (up.trans up3) os ag
    obtain ⟨oe3, vs3, he3, hz3, hd3⟩ := fl3.there
    have notFr : ∀ {h : Heap} {o : Obj} {vs : Array Value}, h.FunFrames B (X.env :: X.outer) → h.get? a = some o → o.data = .fields vs → a ∉ frs (X.env :: X.outer) := fun {h o vs} ff e dd hm => by
      obtain ⟨_, o', e', hnf⟩ := ff.mem hm
      rw [e] at e'; cases e'
      exact hnf _ dd
    have nfr := notFr fl3.2.2.1 he3 hd3
    have nL : a ≠ X.env.locals := fun z => nfr (List.mem_filterMap.mpr ⟨X.env, List.mem_cons_self, by rw [hf, z]⟩)
    have nF : a ∉ X.fs := fun hm => by
      obtain ⟨e, he, q⟩ := List.mem_filterMap.mp hm
      exact nfr (List.mem_filterMap.mpr ⟨e, List.mem_cons_of_mem _ he, q⟩)
    have S3 := J3.suite he3 hd3 na nL nF
    refine wpAny_handleBy_cons (codeAny_handlers_test ?_) (by intro q; cases q)
    have LT : PySem.W.Looks (model X.prog X.w) h3 (typeOf (.ref a)) cls := fun A Q E s k q => wpAny_typeOf_ref (k _ _ he3) (by rw [hz3.1]; exact q)
    have LM := PySem.W.exm_one (M := model X.prog X.w) (J3.kIn) LT hb1
    have test : ∀ {Q : Value → Shared → Prop} {E : Value → Shared → Prop}, Q c { s' with heap := h3 } → wpAny (model X.prog X.w) (X.A.mark (some (.ref a))) (eval (.Name x np) X.env) Q E { s' with heap := h3 } := fun {Q E} q => by
      obtain ⟨hg, hdbg, hm | ⟨hm, hv, hnn⟩⟩ := hc
      · exact ld_glob (X := X.suite a ((a, oe3) :: (X.pn ++ pins))) S3 hg hm q hdbg
      · exact ld_blt (X := X.suite a ((a, oe3) :: (X.pn ++ pins))) S3 hg hm hv q hnn hdbg
    refine test (LM.here ?_)
    cases b with
    | true =>
      refine codeAny_handlers_suite_as ?_
      refine HandSPX.lands_againZ fl3 fun h4 fl4 up4 => ?_
      obtain ⟨oe4, vs4, he4, hz4, hd4⟩ := fl4.there
      have J4 : Inv X pins σ' (upd H' a (XO cls d a)) { s' with heap := h4 } := landedT J nb fl4.1 ((up.trans up3).trans up4) os ag fl4.2.1 (by rw [hs]; exact nfr) na he4 hz4 hd4
      have S4 := inv_suite0 (a := a) J4
      refine store_ok (X := X.suite a (X.pn ++ pins)) (v := .ref a) S4 hN hi hloc rfl (fun s5 S5 => ?_) (.inr hln)
      refine wpAny_mono ((hsu a (X.pn ++ pins)).run [] s5 _ _ _ S5 (hyes rfl a na)) (fun f s6 hsp => ?_) (fun _ _ z => False.elim z)
      have end_ : ∀ {σ6 : L2.St} {H6 : Hp} {Q : Shared → Prop}, Inv (X.suite a (X.pn ++ pins)) [] σ6 H6 s6 → (∀ s7, Inv X pins (σ6.set i none) H6 s7 → Q s7) →
          wpAny (model X.prog X.w) X.A (do bindName X.env n .none; unbindBehindTheSuite X.env n pos') (fun _ s7 => Q s7) X.xe s6 := fun {σ6 H6 Q} S6 hq => gone_ok (inv_unsuite0 S6 ok) hN hi hln hq
      cases f with
      | next =>
        obtain ⟨σ6, H6, S6, q6⟩ := hsp
        exact end_ S6 fun s7 J7 => ⟨_, _, J7, q6⟩
      | brk =>
        obtain ⟨σ6, H6, S6, q6⟩ := hsp
        exact end_ S6 fun s7 J7 => ⟨_, _, J7, q6⟩
      | cont =>
        obtain ⟨σ6, H6, S6, q6⟩ := hsp
        exact end_ S6 fun s7 J7 => ⟨_, _, J7, q6⟩
      | ret u =>
        obtain ⟨v6, σ6, H6, S6, r6, q6⟩ := hsp
        exact end_ S6 fun s7 J7 => ⟨_, _, _, J7, r6, q6⟩
    | false =>
      show wpAny _ X.A (handleBy (.ref a) X.env []) _ _ _
      refine wpAny_handleBy_nil ?_
      obtain ⟨k1, k2, k3, oe, vs, T, oT, ts', he, hz, hd, h1, hr⟩ := id fl3
      unfold PySem.passOn
      refine wpAny_bind (wpAny_field he hd h1 ?_)
      rw [if_neg (show ¬ ((Value.ref T == Value.none) = true) from by simp)]
      have fin : wpAny (model X.prog X.w) X.A (setFlight (.ref a) X.env.frame) (fun _ s4 => wpAny (model X.prog X.w) X.A (throw (.ref a) : Sem Flow) (SP X pins D) X.xe s4) X.xe { s' with heap := h3 } := by
        rw [hf]
        refine HandSPX.setFlight_upZ fl3 fun h4 hh4 up4 => wpAny_throw (tk _ _ ?_)
        exact ⟨a, B, sI, pins, σ', H', cls, d, rfl, J, nb, (up.trans up3).trans up4, .inr (.inr (by rw [hs]; exact hh4)), na, os, ag, hno rfl⟩
      first
        | exact wpAny_bind (wpAny_pure (wpAny_bind fin))
        | exact wpAny_bind fin
  · cases f with
    | next =>
      obtain ⟨σ', H', J', q⟩ := hsp
      exact wpAny_execs_nil ⟨σ', H', J'.ofTry ok, q⟩
    | brk =>
      obtain ⟨σ', H', J', q⟩ := hsp
      exact ⟨σ', H', J'.ofTry ok, q⟩
    | cont =>
      obtain ⟨σ', H', J', q⟩ := hsp
      exact ⟨σ', H', J'.ofTry ok, q⟩
    | ret u =>
      obtain ⟨v, σ', H', J', r, q⟩ := hsp
      exact ⟨v, σ', H', J'.ofTry ok, r, q⟩
/-- in data: the clause takes the exceptions of the classes cs; others go on -/
def cTryT (ecs : List Str) (i : Nat) (b s : CS) : CS := fun ρ S => match b ρ S with
  | some (.ex x ρ' S') => if x.cls ∈ ecs then (match s (ρ'.set i (some (.exc x.cls x.fs))) S' with
    | some (.go f ρ2 S2) => some (.go f (ρ2.set i none) S2)
    | _ => none) else none
  | o => o
theorem RepE.unset {K : PySem.W.Frag} {CT : Cfg} {F : Hp} {mm : List Addr} {ρ : DEnv} {σ : L2.St} {i : Nat} (h : RepE K CT F mm ρ σ) : RepE K CT F mm (ρ.set i none) (σ.set i none) := by
  refine ⟨by rw [List.length_set, List.length_set]; exact h.1, fun j d' e => ?_⟩
  by_cases hj : i = j
  · subst hj
    have hl : i < ρ.length := by
      have := (List.getElem?_eq_some_iff.mp e).1
      rwa [List.length_set] at this
    rw [List.getElem?_set_self hl] at e
    cases e
  · rw [List.getElem?_set_ne hj] at e
    obtain ⟨w, q, r⟩ := h.2 j d' e
    exact ⟨w, by rw [List.getElem?_set_ne hj]; exact q, r⟩
theorem ds_tryT {CT : Cfg} {ecs : List Str} {b s : CS} {Ca : Addr} (hs : X.stack = X.env :: X.outer) (hf : X.env.frame = some X.env.locals) (hN : X.N.Nodup) (hi : X.N[i]? = some n) (hln : X.env.kindOf n = some .local) (hc : Names X x (.ref Ca)) (tk : Takes X Wout)
    (hx : ∀ C ∈ ecs, ∀ Cc, CT C = some Cc → PySem.W.exmOne X.K (.ref Cc) (.ref Ca) = some true)
    (hb : ∀ (W : WX) (pn : List (Addr × Obj)) (xe : Value → Shared → Prop), Takes (X.tr pn xe) W → PassesOwn (model X.prog X.w) X.A X.env xe → PSs (X.tr pn xe) body (tS X.K CT W b))
    (hsu : ∀ (a : Addr) (pn : List (Addr × Obj)), PSs (X.suite a pn) (b₀ :: suite) (tS X.K CT (fun _ _ _ _ => False) s)) :
    DSx X CT Wout (.Try body [.ExceptHandler (some (.Name x np)) (some n) (b₀ :: suite) pos'] [] [] pos) (cTryT ecs i b s) :=
  (ps_try_asT hs hf hN hi hln hc tk hb hsu).weak fun E σ H h => by
    obtain ⟨A, F, mm, S, ρ, s0, h2, h3⟩ := h
    refine ⟨A, F, mm, S, ρ, s0, h2, ?_⟩
    unfold cTryT at h3
    generalize b ρ S = o at h3
    match o, h3 with
    | some (.go f ρ' S'), h3 => exact h3
    | some (.ex y ρ' S'), h3 =>
      intro F' mm' H' σ' cls d e s1 r1 xr
      dsimp only at h3
      split at h3
      case isFalse => exact h3.elim
      rename_i hy
      obtain ⟨Cc, hC, rfl, hf⟩ := xr
      refine ⟨true, hx _ hy Cc hC, fun _ a ha => ?_, fun z => nomatch z⟩
      have nF := (s1.fresh ha).1
      have nX := s1.freshA ha
      have nt : NoTbl (XO (.ref Cc) d a) := fun _ z => by unfold XO at z; cases z
      have s2 := ((s1.free (o := XO (.ref Cc) d a) ha).fix nX nF (s1.fresh ha).2 upd_same nt)
      have eF : Ext F' mm' (upd F' a (XO (.ref Cc) d a)) mm' := Ext.fix nF
      have rx : Rep X.K CT (upd F' a (XO (.ref Cc) d a)) mm' (.exc y.cls y.fs) (.ref a) := by
        refine ⟨a, Cc, rfl, hC, ?_⟩
        rcases hf with ⟨h4, h5⟩ | ⟨dd, fvs, h4, h5, h6⟩
        · subst h5; exact .inl ⟨h4, upd_same⟩
        · subst h4
          exact .inr ⟨dd, fvs, upd_same, eF.f _ _ h5, h6.ext eF⟩
      refine ⟨A, _, mm', S', _, s2, (r1.ext eF).set rx, ?_⟩
      generalize s (ρ'.set i (some (.exc y.cls y.fs))) S' = o2 at h3
      match o2, h3 with
      | some (.go f ρ2 S2), h3 =>
        intro F3 mm3 H3 σ3 e3 s3 r3
        have h4 := h3 F3 mm3 H3 (σ3.set i none) ((e.trans eF).trans e3) s3 r3.unset
        cases f with
        | nx => exact h4
        | rt d => exact h4
        | bk => exact h4
        | ct => exact h4
end
/-- a caught exception's field -/
def kXf (ecs : List Str) (f : Str) (x : D) (S : Store) : Ev D := match x with
  | .exc C fs => if C ∈ ecs then (match fs.lookup f with
    | some d => ret d S
    | none => none) else none
  | _ => none
theorem de_xf {X : Cx} {CT : Cfg} {W : WX} {e : Expr} {a : C D} {f : Str} {ecs : List Str} {pos : Pos} (hT : ∀ C ∈ ecs, ∀ Ca, CT C = some Ca → XfC X.K Ca ∧ PySem.W.findIn X.K (.ref Ca) f = some none) (he : DEx X CT W e a) (hb : attributeBase e f X.env (eval e X.env) = eval e X.env := by rfl) :
    DEx X CT W (.Attribute e f pos) (c1 (kXf ecs f) a) := by
  refine ⟨fun pins s σ H Q I h => ?_⟩
  have h := tG.step (R' := RD X.K CT) h
  refine attr_of hb (thn (he.run pins s σ H _ I h) fun u s1 ⟨x, H1, I1, rx, q⟩ => ?_)
  obtain ⟨A, F, mm, S, ρ, d, sm, h2, h3, h4⟩ := q
  unfold kXf at h4
  split at h4
  case h_2 => exact h4.elim
  rename_i C fs
  split at h4
  case isFalse => exact h4.elim
  rename_i hC
  split at h4
  case h_2 => exact h4.elim
  rename_i d' e1
  obtain ⟨b, Ca, rfl, g1, g2⟩ := h3
  obtain ⟨T, hno⟩ := hT C hC Ca g1
  obtain rfl : u = Value.ref b := rx
  rcases g2 with ⟨g2, _⟩ | ⟨dd, fvs, g2, g3, g4⟩
  · subst g2; cases e1
  obtain ⟨v, l, rv⟩ := g4.lookup e1
  have ho := sm.fz _ _ g2
  have hx : ObjOk X.prog X.w H1 s1.heap dd (.xd fvs) := I1.hok dd _ (sm.fz _ _ g3)
  obtain ⟨mA, hns, hr⟩ := hx
  obtain ⟨od, hod, hl⟩ := lookIn_ns hns
  obtain ⟨u, hu, ru⟩ := RelO.some_of (v := v) (o := mA f) (by rw [← l]; exact hr f)
  obtain ⟨⟨oe, vs, k1, k2, k3⟩, _, _⟩ := I1.hok b _ ho
  have J : PySem.W.InstAt s1.heap b oe Ca (some od) := ⟨k1, k2.1, by unfold PySem.W.notCls; rw [k3] <;> rfl, by rw [k2.2]; exact hod⟩
  exact HandSPX.exc_get I1.kIn J T.ga T.gg T.exC (PySem.W.findObj_own T.hdC hno rfl (by rw [hl, hu])) (handed_of ru) ⟨v, H1, I1.tok _, ru, h4.now sm rv⟩
end DE

set_option Elab.async false
set_option linter.all false
set_option maxRecDepth 100000
set_option maxHeartbeats 4000000
set_option autoImplicit false
namespace DE
open PySem PySem.Spec PyProof.Rows L2

/-! ### lambdas without parameters, or with one that has an int for its default: made and handed to a def -/
abbrev lamObj (q : Str) (params : Arguments) (body : Expr) (scope : Scope) (clos : List (Str × Addr)) (dV doc pm : Value) (c' : Addr) (ctv : Value) : Obj := PySem.W.kdv_obj "<lambda>" q params (.expr body) scope clos dV doc pm c' ctv
abbrev lamFn (q : Str) (params : Arguments) (body : Expr) (scope : Scope) (clos : List (Str × Addr)) (dV doc pm cv ctv : Value) : FuncData := PySem.W.kdv_fn "<lambda>" q params (.expr body) scope clos dV doc pm cv ctv
/-- the default stands -/
def HasDfl (dfl : Option Int) (dV : Value) (h : Heap) (its : List Value) : Prop :=
  (dfl = none ∧ dV = .none ∧ its = []) ∨ ∃ (i : Int) (T0 : Addr) (t : Tok), dfl = some i ∧ dV = .ref T0 ∧ h.get? T0 = some (PySem.W.kdv_tup [.int i t]) ∧ its = [.int i t]
structure LamS1 (N ps : List Str) (sc scope : Scope) : Prop where
  kind : scope.kind = .function
  co : scope.isCoroutine = false
  gen : scope.isGenerator = false
  own : ∀ y ∈ scope.names, y.2 ≠ .cell ∧ (y.2 = .local → y.1 ∈ ps)
  par : ∀ x ∈ ps, scope.names.lookup x = some .local
  dis : ∀ x ∈ ps, x ∉ N
  free : ∀ y ∈ scope.names, y.2 = .free → sc.names.lookup y.1 = some .cell ∨ sc.names.lookup y.1 = some .free
def lamS1B (N ps : List Str) (sc scope : Scope) : Bool :=
  decide (scope.kind = .function) && !scope.isCoroutine && !scope.isGenerator && (scope.names.all fun y => !decide (y.2 = .cell) && (!decide (y.2 = .local) || decide (y.1 ∈ ps)) && (!decide (y.2 = .free) || decide (sc.names.lookup y.1 = some .cell) || decide (sc.names.lookup y.1 = some .free))) &&
    (ps.all fun x => decide (scope.names.lookup x = some .local) && !decide (x ∈ N))
theorem lamS1_by {N ps : List Str} {sc scope : Scope} (h : lamS1B N ps sc scope = true) : LamS1 N ps sc scope := by
  unfold lamS1B at h
  simp only [Bool.and_eq_true, Bool.or_eq_true, Bool.not_eq_true', decide_eq_true_eq, decide_eq_false_iff_not, List.all_eq_true] at h
  obtain ⟨⟨⟨⟨h1, h2⟩, h3⟩, h4⟩, h5⟩ := h
  refine ⟨h1, h2, h3, fun y hy => ⟨(h4 y hy).1.1, fun e => (h4 y hy).1.2.elim (fun z => absurd e z) id⟩, fun x hx => (h5 x hx).1, fun x hx => (h5 x hx).2, fun y hy e => ?_⟩
  rcases (h4 y hy).2 with (z | z) | z
  · exact absurd e z
  · exact .inl z
  · exact .inr z
theorem LamS1.has {X : Cx} {N ps : List Str} {scope : Scope} (L : LamS1 N ps X.env.scope scope) (ok : X.Ok) : ∀ y ∈ scope.names, y.2 = .free → ∃ c, X.env.cells.lookup y.1 = some c := fun y hy e => by
  rcases L.free y hy e with k | k
  · exact ok.has _ (.inl k)
  · exact ok.has _ (.inr k)
section
variable {X : Cx} {pins : List (Addr × Obj)} {σ : L2.St} {H HZ : Hp} {s s1 : Shared}
theorem lam_tail {T : List (Addr × Str)} {c P : Addr} {params : Arguments} {body : Expr} {scope : Scope} {pos : Pos} {dV : Value} {E : Value → Shared → Prop} {Q : Value → Shared → Prop} (I : Inv X pins σ H s) (TB : LamX.TabB X.base X.mg c P) (hcode : X.env.code = .ref c)
    (hm : (P, X.env.qual ++ "<lambda>") ∈ T) (hu : ∀ p ∈ T, p.1 = P → p.2 = X.env.qual ++ "<lambda>") (hT : LamX.Tabs T H) (hfree : ∀ y ∈ scope.names, y.2 = .free → ∃ c, X.env.cells.lookup y.1 = some c)
    (h : ∀ (f c' : Addr) (doc pm ctv : Value) (H1 : Hp) (s' : Shared), Inv X pins σ H1 s' → LamX.ExtN H H1 → LamX.Tabs T H1 → (∀ b o, H b = none → s.heap.get? b = some o → H1 b = none ∧ s'.heap.get? b = some o) →
      s'.heap.get? f = some (lamObj (X.env.qual ++ "<lambda>") params body scope (cloFrom X.env.cells scope.names []) dV doc pm c' ctv) → H1 f = none → f ∉ frs X.stack → H1 c' = some (LamX.CodeO c' (X.env.qual ++ "<lambda>")) → Q (.ref f) s') :
    wpAny (model X.prog X.w) X.A (makeTail "<lambda>" (X.env.qual ++ "<lambda>") params (.expr body) scope X.env dV .none none pos pos.line) Q E s := by
  obtain ⟨ps, hP, ht, ha⟩ := hT _ hm
  have bP : s.heap.BuiltinsAt X.mg P := TB.bm.keeps I.bk
  have hP' : s.heap.get? P = some { cls := .none, data := .fields ps } := I.hok P _ hP
  have nofr : ∀ f, s.heap.objs.size ≤ f → f ∉ frs X.stack := fun f hf z => by
    rcases List.mem_cons.mp (I.stkSub _ z) with e | e
    · have h1 := I.lt
      rw [← e] at h1
      exact Nat.lt_irrefl _ (Nat.lt_of_lt_of_le h1 hf)
    · exact I.nofs hf e
  cases hc : codeAmong pos ps.toList with
  | none =>
    refine PySem.W.kdv_makeTail (mg := X.mg) (c := c) (P := P) (ps := ps) (closure_ok hfree) I.ok.glob (I.mod.glob.keeps I.bk) hcode (TB.code.keeps I.bk) hP' ht hc TB.gP bP fun c' ctv doc h' tk hx hge hlt hrec htb => ?_
    obtain ⟨c2, oc, vs, t, e2, hoc, hd, hv⟩ := hrec
    cases e2
    have hsz : s.heap.objs.size ≤ h'.objs.size := Nat.le_trans hge (Nat.le_of_lt hlt)
    have nC : H c' = none := I.hok.fresh hge
    have I1 := LamX.inv_table (t' := tk) (more := #[rawInt pos.line, rawInt pos.col, .ref c']) (h' := h'.push (lamObj (X.env.qual ++ "<lambda>") params body scope (cloFrom X.env.cells scope.names []) dV doc ((X.mg "__name__").getD .none) c' ctv)) I hP
      (fun b o hb e => Heap.get?_push_of_some _ (hx b o hb e)) (Heap.get?_push_of_some _ htb) hge ⟨oc, vs, t, Heap.get?_push_of_some _ hoc, hd, hv⟩
    have hE : LamX.ExtN H (upd (upd H P (.tbl (ps ++ #[rawInt pos.line, rawInt pos.col, .ref c']))) c' (LamX.CodeO c' (X.env.qual ++ "<lambda>"))) := fun b o e n => by
      rw [upd_ne (ne_of_none e nC), upd_ne (fun z => n ps (Option.some.inj (e.symm.trans (by rw [z]; exact hP))))]
      exact e
    have eL : (ps ++ #[rawInt pos.line, rawInt pos.col, .ref c']).toList = ps.toList ++ [rawInt pos.line, rawInt pos.col, .ref c'] := by simp
    refine h h'.objs.size c' doc ((X.mg "__name__").getD .none) ctv _ _ I1 hE (fun p hp => ?_) (fun b o n e => ?_) (Heap.get?_push_size _ rfl) ?_ (nofr _ hsz) upd_same
    · by_cases hb : p.1 = P
      · rw [hu p hp hb, hb]
        refine ⟨_, by rw [upd_ne (ne_of_none hP nC), upd_same], by rw [eL]; exact PySem.TriplesOk_snoc _ _ _ _ ht, fun p' cv hcv => ?_⟩
        rw [eL] at hcv
        rcases LamX.among_app _ ht hcv with z | z
        · obtain ⟨c0, e1, e2⟩ := ha p' cv z
          exact ⟨c0, e1, hE _ _ e2 LamX.codeO_ne⟩
        · exact ⟨c', z, upd_same⟩
      · obtain ⟨ps', a1, a2, a3⟩ := hT p hp
        refine ⟨ps', by rw [upd_ne (ne_of_none a1 nC), upd_ne hb]; exact a1, a2, fun p' cv hcv => ?_⟩
        obtain ⟨c0, e1, e2⟩ := a3 p' cv hcv
        exact ⟨c0, e1, hE _ _ e2 LamX.codeO_ne⟩
    · have nb : b ≠ P := fun z => by rw [z, hP] at n; cases n
      have nb2 : b ≠ c' := fun z => by
        have := Heap.lt_size e
        rw [z] at this
        exact Nat.lt_irrefl _ (Nat.lt_of_lt_of_le this hge)
      exact ⟨by rw [upd_ne nb2, upd_ne nb]; exact n, Heap.get?_push_of_some _ (hx b o nb e)⟩
    · have n1 : h'.objs.size ≠ c' := Nat.ne_of_gt hlt
      have n2 : h'.objs.size ≠ P := Nat.ne_of_gt (Nat.lt_of_lt_of_le (Heap.lt_size hP') hsz)
      rw [upd_ne n1, upd_ne n2]
      exact I.hok.fresh hsz
  | some cv =>
    obtain ⟨c', e, hco⟩ := ha pos cv hc
    subst e
    refine PySem.W.kdv_makeTailHit (mg := X.mg) (c := c) (P := P) (ps := ps) (closure_ok hfree) I.ok.glob (I.mod.glob.keeps I.bk) hcode (TB.code.keeps I.bk) hP' ht hc bP fun ctv doc h' tk hx hsz => ?_
    have I1 : Inv X pins σ H { s with heap := h'.push (lamObj (X.env.qual ++ "<lambda>") params body scope (cloFrom X.env.cells scope.names []) dV doc ((X.mg "__name__").getD .none) c' ctv), toks := tk } := I.kept fun b o e => Heap.get?_push_of_some _ (hx b o e)
    exact h h'.objs.size c' doc ((X.mg "__name__").getD .none) ctv H _ I1 (LamX.ExtN.refl H) hT (fun b o n e => ⟨n, Heap.get?_push_of_some _ (hx b o e)⟩) (Heap.get?_push_size _ rfl) (I.hok.fresh hsz) (nofr _ hsz) hco
/-- the defaults of the parameters -/
def DflE (params : Arguments) : Option Int → Prop
  | none => params.defaults = []
  | some i => ∃ j p, params.defaults = [.Constant (.int i) j p]
/-- the lambda is made -/
theorem lam_make3 {T : List (Addr × Str)} {c P : Addr} {params : Arguments} {body : Expr} {scope : Scope} {pos : Pos} {dfl : Option Int} {Q : Value → Shared → Prop} (I : Inv X pins σ H s) (TB : LamX.TabB X.base X.mg c P) (hcode : X.env.code = .ref c)
    (hm : (P, X.env.qual ++ "<lambda>") ∈ T) (hu : ∀ p ∈ T, p.1 = P → p.2 = X.env.qual ++ "<lambda>") (hT : LamX.Tabs T H) (hd : DflE params dfl) (hk : params.kw_defaults = []) (hfree : ∀ y ∈ scope.names, y.2 = .free → ∃ c, X.env.cells.lookup y.1 = some c)
    (h : ∀ (f c' : Addr) (dV doc pm ctv : Value) (H1 : Hp) (s' : Shared) (its : List Value), Inv X pins σ H1 s' → LamX.ExtN H H1 → LamX.Tabs T H1 → HasDfl dfl dV s'.heap its → (∀ T0, dV = .ref T0 → H1 T0 = none ∧ T0 ∉ frs X.stack) →
      s'.heap.get? f = some (lamObj (X.env.qual ++ "<lambda>") params body scope (cloFrom X.env.cells scope.names []) dV doc pm c' ctv) → H1 f = none → f ∉ frs X.stack → H1 c' = some (LamX.CodeO c' (X.env.qual ++ "<lambda>")) → Q (.ref f) s') :
    wpAny (model X.prog X.w) X.A (eval (.Lambda params body scope pos) X.env) Q X.xe s := by
  cases dfl with
  | none =>
    have hd : params.defaults = [] := hd
    refine PySem.W.kla_eval (by rw [defaultsOf_eq, hd, hk]; rfl) ?_
    rw [makeFunction_eq]
    simp only [List.zip_nil_right, List.filterMap_nil, List.isEmpty_nil, if_true, pure_bind]
    refine lam_tail I TB hcode hm hu hT hfree fun f c' doc pm ctv H1 s' I1 e1 e2 _ h1 h2 h3 h4 => h f c' .none doc pm ctv H1 s' [] I1 e1 e2 (.inl ⟨rfl, rfl, rfl⟩) (fun _ z => nomatch z) h1 h2 h3 h4
  | some i =>
    obtain ⟨j, p, hd⟩ := hd
    refine PySem.W.kdv_lam (by rw [hd]; rfl) hk ?_
    rw [hd]
    refine PySem.W.kdv_all1 (thn (pe_int.run pins s σ H (fun v H1 => v = .int i ∧ H1 = H) I ⟨rfl, rfl⟩) fun u s1 ⟨v, H1, I1, r1, ev, eH⟩ => PySem.W.kdv_all0 ?_)
    subst ev eH
    obtain ⟨t, rfl⟩ := r1
    rw [makeFunction_eq]
    simp only [List.zip_nil_right, List.filterMap_nil, List.isEmpty_nil, List.isEmpty_cons, Bool.false_eq_true, if_false, if_true, pure_bind]
    refine wpAny_bind (wpAny_newTextTuple ?_)
    have I2 : Inv X pins σ H1 { s1 with heap := s1.heap.push (PySem.W.kdv_tup [.int i t]) } := I1.kept (t' := s1.toks) fun b o e => Heap.get?_push_of_some _ e
    have hT0 : (s1.heap.push (PySem.W.kdv_tup [.int i t])).get? s1.heap.objs.size = some (PySem.W.kdv_tup [.int i t]) := Heap.get?_push_size _ rfl
    have nT : H1 s1.heap.objs.size = none := I1.hok.fresh (Nat.le_refl _)
    have nfT : s1.heap.objs.size ∉ frs X.stack := fun z => by
      rcases List.mem_cons.mp (I1.stkSub _ z) with e | e
      · have h1 := I1.lt
        rw [← e] at h1
        exact Nat.lt_irrefl _ h1
      · exact I1.nofs (Nat.le_refl _) e
    refine lam_tail I2 TB hcode hm hu hT hfree fun f c' doc pm ctv H2 s' I3 e1 e2 kp h1 h2 h3 h4 => ?_
    obtain ⟨k1, k2⟩ := kp _ _ nT hT0
    exact h f c' (.ref s1.heap.objs.size) doc pm ctv H2 s' [.int i t] I3 e1 e2 (.inr ⟨i, _, t, rfl, rfl, k2, rfl⟩) (fun T0 z => by cases z; exact ⟨k1, nfT⟩) h1 h2 h3 h4
/-- what its call binds -/
def LamB (params : Arguments) (body : Expr) (scope : Scope) (dfl : Option Int) (ps : List Str) : Prop :=
  ∀ (s : Shared) (dV : Value) (its : List Value) (q : Str) (cl : List (Str × Addr)) (doc pm cv ctv : Value), HasDfl dfl dV s.heap its → its.length = ps.length ∧ BindsTo s (lamFn q params body scope cl dV doc pm cv ctv) ⟨[], []⟩ (ps.zip its)
theorem lamB0 {params : Arguments} {body : Expr} {scope : Scope} (h : ∀ (q : Str) (cl : List (Str × Addr)) (doc pm cv ctv : Value), bindArgs (lamFn q params body scope cl .none doc pm cv ctv) ⟨[], []⟩ = pure []) : LamB params body scope none [] := fun s dV its q cl doc pm cv ctv hd => by
  rcases hd with ⟨_, rfl, rfl⟩ | ⟨i, T0, t, z, _⟩
  · exact ⟨rfl, BindsTo.of_eq (h _ _ _ _ _ _)⟩
  · cases z
theorem lamB1 {params : Arguments} {body : Expr} {scope : Scope} {i : Int} {a : Str} (h : ∀ (q : Str) (cl : List (Str × Addr)) (doc pm cv ctv : Value) (T : Addr), ∃ k, bindArgs (lamFn q params body scope cl (.ref T) doc pm cv ctv) ⟨[], []⟩ = seqItems? (.ref T) >>= k ∧ ∀ v, k (some #[v]) = pure [(a, v)]) : LamB params body scope (some i) [a] := fun s dV its q cl doc pm cv ctv hd => by
  rcases hd with ⟨z, _⟩ | ⟨i', T0, t, z, rfl, hT, rfl⟩
  · cases z
  · obtain ⟨k, h1, h2⟩ := h q cl doc pm cv ctv T0
    exact ⟨rfl, BindsTo.of_defaults (k := k) rfl hT rfl h1 (h2 _)⟩
theorem lam_start3 {N ps : List Str} {A : Around} {outer : List Env} {E : XK} {scope : Scope} {f c' : Addr} {h₁ : Heap} {tk : Nat} {m : Str → Option Value} (I : Inv X pins σ H s) (L : LamS1 X.N ps X.env.scope scope) (e0 : Env0 X.prog X.w X.K X.mg X.base A outer s1 HZ) (hd : A.handled = none)
    (un : Un (frs X.stack) [] H HZ s.heap s1.heap) (hns : h₁.Ns s1.heap.objs.size m) (kp : ∀ b o, s1.heap.get? b = some o → h₁.get? b = some o) :
    Inv (LamX.lamCx X A outer s1 HZ E scope f c') [] σ HZ { s1 with heap := h₁, toks := tk } := by
  have hfree := L.has I.ok
  have cm : ∀ {y c}, (cloFrom X.env.cells scope.names []).lookup y = some c → X.env.cells.lookup y = some c := fun {y c} e => by
    rcases cloFrom_mem (PySem.mem_of_lookup e) with hm | ⟨h1, h2⟩
    · cases hm
    · obtain ⟨c1, hc⟩ := hfree _ h1 rfl
      have hc : X.env.cells.lookup y = some c1 := hc
      have e2 : c = c1 := by
        rw [h2, hc] <;> rfl
      rw [e2]
      exact hc
  have look : ∀ {y}, scope.names.lookup y = some .free → ∃ c, (cloFrom X.env.cells scope.names []).lookup y = some c := fun {y} hl => by
    have hy : (y, NameKind.free) ∈ scope.names := PySem.mem_of_lookup hl
    exact mem_lookup (cloFrom_has (cells := X.env.cells) (acc := []) hy)
  have cellK : ∀ {c : Addr} {v : Option Value}, H c = none → s.heap.IsCell c v → h₁.IsCell c v := fun {c v} n ⟨o, ho, hd⟩ => by
    obtain ⟨sl, q⟩ := un.any ho n (by simp)
    exact ⟨_, kp _ _ q, hd⟩
  have noA : ∀ b : Addr, b ∉ (LamX.lamCx X A outer s1 HZ E scope f c').ex := fun b z => absurd (show b ∈ ([] : List Addr) from z) (by simp)
  refine ⟨⟨e0.mod, L.kind, rfl, rfl, Nat.le_refl _, fun y z c e1 e2 => I.ok.inj y z c (cm e1) (cm e2), fun y hy => ?_, fun y c z _ => ?_, fun _ => hd, Around.frames_deeper e0.frames, .inr ⟨rfl, rfl⟩, fun b z => absurd z (noA b), e0.bs, e0.bsz, fun b _ _ => noA b,
      fun b z => absurd z (noA b), e0.funs, e0.frf⟩,
    rfl, e0.bare, Un.kept kp, ⟨_, hns, fun i y v e1 e2 e3 => ?_⟩, fun y c e => ?_, e0.hok.fresh (Nat.le_refl _), fun y c e => ?_, fun q hq => absurd (show q ∈ ([] : List (Addr × Obj)) ++ [] from hq) (by simp), e0.hok.kept kp, I.len⟩
  · have hy : scope.names.lookup y = some .cell ∨ scope.names.lookup y = some .free := hy
    rcases hy with hy | hy
    · exact absurd rfl (L.own _ (PySem.mem_of_lookup hy)).1
    · exact look hy
  · have z : false = true := z
    cases z
  · have e3 : Vis scope y := e3
    rcases e3 with k | k | k
    · exact absurd (List.mem_of_getElem? e1) (L.dis _ ((L.own _ (PySem.mem_of_lookup k)).2 rfl))
    · exact absurd rfl (L.own _ (PySem.mem_of_lookup k)).1
    · obtain ⟨m, hn, hl⟩ := I.loc
      have hvis : Vis X.env.scope y := (L.free _ (PySem.mem_of_lookup k) rfl).elim (fun k => .inr (.inl k)) (fun k => .inr (.inr k))
      obtain ⟨w', r, q⟩ := hl i y v e1 e2 hvis
      obtain ⟨c2, h2⟩ := look k
      refine ⟨w', r, .inr ⟨.inr k, c2, h2, ?_⟩⟩
      have c1 := cm h2
      rcases q with ⟨k', _⟩ | ⟨_, c3, e', z⟩
      · have k' : X.env.scope.names.lookup y = some .local := k'
        rcases L.free _ (PySem.mem_of_lookup k) rfl with k2 | k2 <;> rw [show X.env.scope.names.lookup y = _ from k2] at k' <;> cases k'
      · rw [c1] at e'
        cases e'
        exact cellK (I.freeC y _ c1) z
  · obtain ⟨w', z⟩ := I.cell y c (cm e)
    exact ⟨w', cellK (I.freeC y c (cm e)) z⟩
  · obtain ⟨v, o, ho, hd⟩ := I.cell y c (cm e)
    exact un.free c o ho (I.freeC y c (cm e)) (by simp)
/-- x(), in the def that got the lambda: Z is that def's context, entered at s -/
theorem pe_act3 {CXg : CXT} {Eg : XK} {Ng ps : List Str} {qg : Str} {sg : Scope} {g f c' : Addr} {cdg dV doc pm ctv : Value} {its : List Value} {dfl : Option Int} {params : Arguments} {body : Expr} {scope : Scope} {k i : Nat} {a : Str} {pn : List (Addr × Obj)} {xe : Value → Shared → Prop} {W : WX} {tb : XK → TE} {p1 p2 : Pos}
    (I : Inv X pins σ H s) (L : LamS1 X.N ps X.env.scope scope) (hf : s.heap.get? f = some (lamObj (X.env.qual ++ "<lambda>") params body scope (cloFrom X.env.cells scope.names []) dV doc pm c' ctv)) (hfn : H f = none) (hfr : f ∉ frs X.stack)
    (hdf : HasDfl dfl dV s.heap its) (hdn : ∀ T0, dV = .ref T0 → H T0 = none ∧ T0 ∉ frs X.stack) (hbind : LamB params body scope dfl ps)
    (tk : Takes ((cxOf CXg X.prog X.w X.K X.mg X.base Ng qg sg g cdg X.A X.stack s H Eg).tr pn xe) W) (hr : Room (k + 1) (X.A.deeper (envOfC qg sg s.heap.objs.size g cdg)))
    (hbody : ∀ (A : Around) (outer : List Env) (s : Shared) (H : Hp) (E : XK), Room k (A.deeper (LamX.lamEnv X scope s.heap.objs.size f c')) → PE (LamX.lamCx X A outer s H E scope f c') body (tb E))
    (hN : Ng[i]? = some a) (hv : Vis sg a) (hd : (a == ("__debug__" : Str)) = false := by decide) (hcd : (a == ("__classdict__" : Str)) = false := by decide) :
    PE ((cxOf CXg X.prog X.w X.K X.mg X.base Ng qg sg g cdg X.A X.stack s H Eg).tr pn xe) (.Call (.Name a p1) [] [] p2)
      (fun σZ HZ Q => σZ[i]? = some (some (.ref f)) ∧ HZ c' = some (LamX.CodeO c' (X.env.qual ++ "<lambda>")) ∧ tb (fun cls d H => W cls d σZ H) σ HZ Q) := by
  refine ⟨fun pinsZ sZ σZ HZ Q IZ h => ?_⟩
  obtain ⟨hs, hc, ht⟩ := h
  refine wpAny_Call_Name_kw (thn ((pe_var (pos := p1) (i := i) hN hv hd hcd).run pinsZ sZ σZ HZ (fun v H1 => v = .ref f ∧ H1 = HZ) IZ ⟨.ref f, hs, rfl, rfl⟩) fun u s1 ⟨v, H1, I1, r1, q1⟩ => ?_)
  obtain ⟨ev, eH⟩ := q1
  subst ev
  rw [eH] at I1
  obtain rfl : u = Value.ref f := r1
  have kept : ∀ b o, s.heap.get? b = some o → H b = none → b ∉ frs X.stack → s1.heap.get? b = some o := fun b o e n nf => I1.base.keep b _ e n nf (fun z => nomatch (show b ∈ ([] : List Addr) from z))
  have of1 := kept f _ hf hfn hfr
  have hdf1 : HasDfl dfl dV s1.heap its := by
    rcases hdf with z | ⟨i, T0, t, z1, z2, z3, z4⟩
    · exact .inl z
    · obtain ⟨n1, n2⟩ := hdn T0 z2
      exact .inr ⟨i, T0, t, z1, z2, kept _ _ z3 n1 n2, z4⟩
  refine PySem.W.callWith_F0 ⟨_, _, _, _, of1⟩ ?_
  have un : Un (frs X.stack) [] H HZ s.heap s1.heap := I1.base
  obtain ⟨⟨oc, vs, t, hoc, hdc, hvc⟩, _, _⟩ := I1.hok c' _ hc
  have rc : codeAny (model X.prog X.w) (X.A.deeper (envOfC qg sg s.heap.objs.size g cdg)) (.call (.ref f) ⟨[], []⟩) (CR (L2.CX X.prog X.w) (envOfC qg sg s.heap.objs.size g cdg :: X.stack) X.prog X.w HZ s1 Q (fun cls d H => W cls d σZ H)) s1 := by
    refine PySem.W.kla_callFunE hr.depth of1 rfl L.co L.gen rfl ⟨c', oc, vs, t, rfl, hoc, hdc, hvc⟩ ?_
    obtain ⟨hl, hb⟩ := hbind s1 dV its (X.env.qual ++ "<lambda>") (cloFrom X.env.cells scope.names []) doc pm (.ref c') ctv hdf1
    refine hb _ _ _ _ (wpAny_newFunctionEnv (fun y hy => (L.own y hy).1) (fun y hy => L.par _ (List.of_mem_zip hy).1) (fun h₁ hns hsb => ⟨I1.nolimit.fresh _ hsb, ?_⟩) L.kind)
    show codeAny _ _ (.expr body (LamX.lamEnv X scope s1.heap.objs.size f c')) _ _
    have kp : ∀ b o, s1.heap.get? b = some o → h₁.get? b = some o := fun b o e => hsb.extBut b o (Nat.ne_of_lt (Heap.lt_size e)) (Heap.get?_push_of_some _ e)
    have J : Inv (LamX.lamCx X (X.A.deeper (envOfC qg sg s.heap.objs.size g cdg)) (envOfC qg sg s.heap.objs.size g cdg :: X.stack) s1 HZ (fun cls d H => W cls d σZ H) scope f c') [] σ HZ { s1 with heap := h₁, toks := s1.toks + (ps.zip its).length } :=
      lam_start3 (N := X.N) I L I1.env0 hr.hd un hns kp
    refine PySem.W.kla_codeExpr (wpAny_mono ((hbody _ _ s1 HZ _ (hr.deeper _)).run [] _ _ HZ Q J ht) (fun v s' hq => ?_) fun e s' hq => hq)
    obtain ⟨w', H', J', rv, q⟩ := hq
    exact ⟨w', H', J'.os, J'.bare, J'.base, J'.hok, rv, q⟩
  refine wpAny_call (codeAny_mono rc fun r s' hq => ?_)
  cases r with
  | error e => exact passAt tk σZ pinsZ HZ s1 e s' I1 hq
  | ok fl =>
    cases fl with
    | ret u => exact I1.after hq
    | next => exact False.elim hq
    | brk => exact False.elim hq
    | cont => exact False.elim hq
end
end DE

set_option Elab.async false
set_option linter.all false
set_option maxRecDepth 100000
set_option maxHeartbeats 4000000
set_option autoImplicit false
namespace DE
open PySem PySem.Spec PyProof.Rows L2

/-! ### x in xs, xs.index(x): of flat items -/
def vOf : D → Option V
  | .non => some .non
  | .bl b => some (.bl b)
  | .int i => some (.int i)
  | .str x => some (.str x)
  | _ => none
def vsOf : List D → Option (List V)
  | [] => some []
  | d :: ds => match vOf d, vsOf ds with
    | some v, some vs => some (v :: vs)
    | _, _ => none
section
variable {K : PySem.W.Frag} {CT : Cfg} {F : Hp} {mm : List Addr}
theorem vOf_rep {d : D} {v u : V} (e : vOf d = some u) (r : Rep K CT F mm d v) : v = u ∧ flatV u = true := by
  cases d with
  | non => cases e; exact ⟨r, rfl⟩
  | bl b => cases e; exact ⟨r, rfl⟩
  | int i => cases e; exact ⟨r, rfl⟩
  | str x => cases e; exact ⟨r, rfl⟩
  | _ => cases e
theorem vsOf_rep : ∀ {ds : List D} {us vs : List V}, vsOf ds = some us → Reps K CT F mm ds vs → vs = us ∧ us.all flatV = true
  | [], us, vs, e, r => by cases e; exact ⟨r, rfl⟩
  | d :: ds, us, vs, e, ⟨v, r, h1, h2, h3⟩ => by
    unfold vsOf at e
    split at e
    · rename_i u us' e1 e2
      cases e
      obtain ⟨q1, q2⟩ := vOf_rep e1 h2
      obtain ⟨q3, q4⟩ := vsOf_rep e2 h3
      rw [h1, q1, q3]
      exact ⟨rfl, by simp [q2, q4]⟩
    · cases e
end
def kIn (neg : Bool) (x y : D) (S : Store) : Ev D := match vOf x, (seqD S y).bind vsOf with
  | some v, some vs => ret (.bl (if neg then !inV v vs else inV v vs)) S
  | _, _ => none
/-- the first place of an equal item -/
def idxV (v : V) : List V → Option Nat
  | [] => none
  | u :: us => if eqV u v = true then some 0 else (idxV v us).map (· + 1)
theorem idxV_ok {v : V} : ∀ {us : List V} {j : Nat}, idxV v us = some j → (∃ z, us[j]? = some z ∧ eqV z v = true) ∧ ∀ (m : Nat) (z' : V), m < j → us[m]? = some z' → eqV z' v = false
  | [], j, h => by cases h
  | u :: us, j, h => by
    unfold idxV at h
    split at h
    · rename_i c
      cases h
      exact ⟨⟨u, by simp, c⟩, fun m _ z => absurd z (Nat.not_lt_zero _)⟩
    · rename_i c
      obtain ⟨i, h1, rfl⟩ := Option.map_eq_some_iff.mp h
      obtain ⟨⟨z, a, b⟩, q⟩ := idxV_ok h1
      refine ⟨⟨z, by simpa using a, b⟩, fun m z' hm hz => ?_⟩
      cases m with
      | zero => simp at hz; subst hz; exact Bool.eq_false_iff.mpr c
      | succ m => exact q m z' (by omega) (by simpa using hz)
def kIndex (x y : D) (S : Store) : Ev D := match vOf y, (lstD S x).bind vsOf with
  | some v, some vs => match idxV v vs with
    | some j => ret (.int (j : Nat)) S
    | none => none
  | _, _ => none
section
variable {X : Cx} {CT : Cfg} {W : WX} {pos : Pos} {ea eb : Expr}
theorem v_in (neg : Bool) : V2 X.K CT W (rIn X.K neg) (kIn neg) := fun A F mm S H σ Q x y v w s r1 r2 h => by
  unfold kIn at h
  split at h
  · rename_i u us e1 e2
    obtain ⟨ds, e3, e4⟩ := Option.bind_eq_some_iff.mp e2
    obtain ⟨rfl, f1⟩ := vOf_rep e1 r1
    obtain ⟨a, vs, rfl, g1, g2⟩ := s.seqD e3 r2
    obtain ⟨rfl, f2⟩ := vsOf_rep e4 g2
    exact ⟨a, vs, rfl, g1, f1, f2, h.now s rfl⟩
  · exact h.elim
theorem de_in {a b : C D} (ha : DEx X CT W ea a) (hb : DEx X CT W eb b) (hm : behindInMarks .In eb = false := by exact nomark _) : DEx X CT W (.Compare ea [.In] [eb] pos) (c2 (kIn false) a b) := de_cmp op_in_seq (v_in false) ha hb hm
theorem dt_in {a b : C D} (ha : DEx X CT W ea a) (hb : DEx X CT W eb b) (hm : behindInMarks .In eb = false := by exact nomark _) : DTx X CT W (.Compare ea [.In] [eb] pos) (cT (c2 (kIn false) a b)) := dt_cmp op_in_seq (v_in false) ha hb hm
theorem de_notin {a b : C D} (ha : DEx X CT W ea a) (hb : DEx X CT W eb b) (hm : behindInMarks .NotIn eb = false := by exact nomark _) : DEx X CT W (.Compare ea [.NotIn] [eb] pos) (c2 (kIn true) a b) := de_cmp op_notIn_seq (v_in true) ha hb hm
theorem dt_notin {a b : C D} (ha : DEx X CT W ea a) (hb : DEx X CT W eb b) (hm : behindInMarks .NotIn eb = false := by exact nomark _) : DTx X CT W (.Compare ea [.NotIn] [eb] pos) (cT (c2 (kIn true) a b)) := dt_cmp op_notIn_seq (v_in true) ha hb hm
def cIndex (a b : C D) : C D := thenC a fun ρ x S => match lstD S x with
  | some _ => bindO (b ρ S) fun y S => kIndex x y S
  | none => none
theorem de_index {ec : Expr} {a b : C D} (h : PE X ec (tBM X.K "list" (rIndex X.K) (tD X.K CT W a) (tCons (tD X.K CT W b) tNil))) : DEx X CT W ec (cIndex a b) :=
  h.weak fun σ H Q h => by
    refine (tG.step (R' := RD X.K CT) h).mono fun v H1 h => ?_
    obtain ⟨A, F, mm, S, ρ, x, s, h2, h3, h4⟩ := h
    split at h4
    case h_2 => exact h4.elim
    rename_i ds0 e0
    obtain ⟨a0, vs0, rfl, g1, g2⟩ := s.lstD e0 h3
    refine ⟨tyV_lst (A := A) (F := F) (mm := mm) (S := S) g1, A, F, mm, S, ρ, s, h2, ?_⟩
    refine Run.mono (Run.bind (R' := RD X.K CT) h4) fun w H2 h => ?_
    obtain ⟨F', mm', y, S', e, s', r, h⟩ := h
    unfold kIndex at h
    split at h
    case h_2 => exact h.elim
    rename_i u us e1 e2
    split at h
    case h_2 => exact h.elim
    rename_i j e5
    obtain ⟨ds, e3, e4⟩ := Option.bind_eq_some_iff.mp e2
    obtain ⟨rfl, f1⟩ := vOf_rep e1 r
    obtain ⟨a, vs, ea, k1, k2⟩ := s'.lstD e3 (Rep.ext e h3)
    cases ea
    obtain ⟨rfl, f2⟩ := vsOf_rep e4 k2
    obtain ⟨⟨z, z1, z2⟩, z3⟩ := idxV_ok e5
    exact ⟨a0, _, _, j, z, rfl, rfl, .inl (.inl k1), f1, f2, z1, z2, z3, h.now s' rfl⟩
end
end DE

set_option Elab.async false
set_option linter.all false
set_option maxRecDepth 100000
set_option maxHeartbeats 4000000
set_option autoImplicit false
namespace DE
open PySem PySem.Spec PyProof.Rows L2

/-! ### _law_heard(lambda: e): what e gives, or what it raises -/
def cAsk (i : Nat) (f c : Addr) (q : Str) (σ : L2.St) (body : C D) : C D := fun ρ S => match ρ[i]? with
  | some (some (.lam f' c' q' env σ')) => if f' = f ∧ c' = c ∧ q' = q ∧ σ' = σ then body env S else none
  | _ => none
section
variable (isi : Tag → Tag → Option Bool) (ics ecs : List Str)
def isiC (cl : Str) : C D := cCall (k2 (kIsi isi ics ecs)) (cCons (cV 2) (cCons (cK (.cls cl)) cNil))
def cS (s : Str) : C D := cK (.str s)
def heardT : CS :=
  cSeq (cIfS (cT (c2 kIsN (cV 2) (cK .non))) (cRet (cFz (cLstE (cCons (cV 1) cNil)))) cSkip)
  (cSeq (cIfS (cTr (isiC isi ics ecs "TooMany")) (cRet (cTupE (cCons (cK (.str "many")) (cCons (c1 (kXf ecs "what") (cV 2)) (cCons (c1 (kXf ecs "most") (cV 2)) cNil))))) cSkip)
  (cSeq (cIfS (cTr (isiC isi ics ecs "BadText")) (cRet (cTupE (cCons (cK (.str "text")) (cCons (c1 (kXf ecs "line") (cV 2)) (cCons (c1 (kXf ecs "word") (cV 2)) cNil))))) cSkip)
  (cSeq (cSet 4 (cFz (cLstE (cCons (cK (.str "kind")) (cCons (cK (.str "price")) (cCons (cK (.str "box")) (cCons (cK (.str "day")) (cCons (cK (.str "value")) (cCons (cK (.str "number")) (cCons (cK (.str "paper")) (cCons (cK (.str "misfit")) (cCons (cK (.str "nothing")) cNil))))))))))))
  (cSeq (cSet 5 (cFz (cLstE (cCons (isiC isi ics ecs "BadKind") (cCons (isiC isi ics ecs "BadPrice") (cCons (isiC isi ics ecs "BadBox") (cCons (isiC isi ics ecs "BadDay") (cCons (isiC isi ics ecs "BadValue") (cCons (isiC isi ics ecs "BadNumber") cNil)))))))))
  (cSeq (cSet 5 (cFz (cCat (cV 5) (cFz (cLstE (cCons (isiC isi ics ecs "BadPaper") (cCons (isiC isi ics ecs "Misfit") (cCons (isiC isi ics ecs "Nothing") cNil))))))))
  (cSeq (cIfS (cT (c2 (kIn false) (cK (.bl true)) (cV 5))) (cRet (cTupE (cCons (c2 kIx (cV 4) (cIndex (cV 5) (cK (.bl true)))) (cCons (c1 (kXf ecs "part") (cV 2)) cNil)))) cSkip)
  (cRet (cIf (cTr (isiC isi ics ecs "NoName")) (cTupE (cCons (cK (.str "name")) (cCons (c1 (kXf ecs "name") (cV 2)) cNil))) (cTupE (cCons (cK (.str "command")) (cCons (c1 (kXf ecs "word") (cV 2)) cNil))))))))))) 
def heardC (ask : C D) : CS :=
  cSeq (cPar [1, 2] (cCons (cK .non) (cCons (cK .non) cNil)))
  (cSeq (cTryT ecs 3 (cSet 1 ask) (cSet 2 (cV 3))) (heardT isi ics ecs))
end
def Nh : List Str := ["ask", "found", "caught", "error", "words", "kinds"]
/-- the exceptions' classes -/
def ecsH : List Str := ["BadKind", "BadPrice", "BadBox", "BadDay", "BadValue", "BadNumber", "BadPaper", "BadText", "NoName", "Misfit", "Nothing", "TooMany"]
def heardX (C : Str) (fs : List (Str × D)) : Option D :=
  if C = "TooMany" then (match fs.lookup ("what" : Str), fs.lookup ("most" : Str) with | some a, some b => some (.tup [.str "many", a, b]) | _, _ => none)
  else if C = "BadText" then (match fs.lookup ("line" : Str), fs.lookup ("word" : Str) with | some a, some b => some (.tup [.str "text", a, b]) | _, _ => none)
  else if C = "NoName" then (match fs.lookup ("name" : Str) with | some a => some (.tup [.str "name", a]) | _ => none)
  else match ([(("BadKind" : Str), ("kind" : Str)), ("BadPrice", "price"), ("BadBox", "box"), ("BadDay", "day"), ("BadValue", "value"), ("BadNumber", "number"), ("BadPaper", "paper"), ("Misfit", "misfit"), ("Nothing", "nothing")] : List (Str × Str)).lookup C, fs.lookup ("part" : Str) with
    | some w, some a => some (.tup [.str w, a])
    | _, _ => none
def cHeard (a : C D) : C D := fun ρ S => match a ρ S with
  | some (.ok d S') => some (.ok (.lst [d]) S')
  | some (.ex x S') => match heardX x.cls x.fs with
    | some d => some (.ok d S')
    | none => none
  | none => none
/-- what the table of isinstance must say of exceptions -/
def ExIsi (isi : Tag → Tag → Option Bool) : Prop := ∀ C ∈ ecsH, ∀ C' ∈ ecsH, isi (.o C) (.o C') = some (decide (C = C'))
def ExIsi' (isi : Tag → Tag → Option Bool) : Prop := ∀ C ∈ ecsH, isi (.o C) (.b "NoneType") = isi (.o C) (.b "NoneType")
section
variable {isi : Tag → Tag → Option Bool} {ics : List Str}
theorem cV_run {i : Nat} {ρ : DEnv} {S : Store} {d : D} (h : ρ[i]? = some (some d)) : cV i ρ S = ret d S := by
  unfold cV
  rw [h]
theorem thenC_ok {α β : Type} {a : C α} {k : DEnv → α → Store → Ev β} {ρ : DEnv} {S S' : Store} {x : α} (h : a ρ S = ret x S') : thenC a k ρ S = k ρ x S' := by
  unfold thenC
  rw [h]
  rfl
theorem cCons_run {a : C D} {r : C (List D)} {ρ : DEnv} {S S' S'' : Store} {x : D} {xs : List D} (h : a ρ S = ret x S') (h2 : r ρ S' = ret xs S'') : cCons a r ρ S = ret (x :: xs) S'' := by
  unfold cCons
  rw [thenC_ok h]
  show bindO (r ρ S') _ = _
  rw [h2]
  rfl
theorem isiC_run (hi : ExIsi isi) {c c' : Str} {fs : List (Str × D)} {ρ : DEnv} {S : Store} (h2 : ρ[2]? = some (some (.exc c fs))) (hC : c ∈ ecsH) (hC' : c' ∈ ecsH) : isiC isi ics ecsH c' ρ S = ret (.bl (decide (c = c'))) S := by
  unfold isiC cCall
  rw [thenC_ok (cCons_run (cV_run h2) (cCons_run (x := .cls c') (S' := S) rfl (xs := []) (S'' := S) rfl))]
  show kIsi isi ics ecsH (.exc c fs) (.cls c') S = _
  unfold kIsi tagOf clsTag
  dsimp only
  rw [if_pos hC]
  dsimp only
  rw [hi c hC c' hC']
theorem if_isi (hi : ExIsi isi) {c c' : Str} {fs : List (Str × D)} {ρ : DEnv} {S : Store} {a b : CS} (h2 : ρ[2]? = some (some (.exc c fs))) (hC : c ∈ ecsH) (hC' : c' ∈ ecsH) : cIfS (cTr (isiC isi ics ecsH c')) a b ρ S = if c = c' then a ρ S else b ρ S := by
  unfold cIfS cStep cTr thenC
  rw [isiC_run hi h2 hC hC']
  by_cases h : c = c'
  · rw [if_pos h, decide_eq_true h]; rfl
  · rw [if_neg h, decide_eq_false h]; rfl
theorem if_isiV (hi : ExIsi isi) {c c' : Str} {fs : List (Str × D)} {ρ : DEnv} {S : Store} {a b : C D} (h2 : ρ[2]? = some (some (.exc c fs))) (hC : c ∈ ecsH) (hC' : c' ∈ ecsH) : cIf (cTr (isiC isi ics ecsH c')) a b ρ S = if c = c' then a ρ S else b ρ S := by
  unfold cIf cTr thenC
  rw [isiC_run hi h2 hC hC']
  by_cases h : c = c'
  · rw [if_pos h, decide_eq_true h]; rfl
  · rw [if_neg h, decide_eq_false h]; rfl
theorem xf_run {c f : Str} {fs : List (Str × D)} {ρ : DEnv} {S : Store} {d : D} (h2 : ρ[2]? = some (some (.exc c fs))) (hC : c ∈ ecsH) (hf : fs.lookup f = some d) : c1 (kXf ecsH f) (cV 2) ρ S = ret d S := by
  unfold c1 thenC cV
  rw [h2]
  show kXf ecsH f (.exc c fs) S = _
  unfold kXf
  dsimp only
  rw [if_pos hC, hf]
theorem line_le {n : Nat} (h : n ≤ 1000) : n ≤ sizeLine := by rw [sizeLine_eq]; omega
theorem isNone_exc {c : Str} {fs : List (Str × D)} {ρ : DEnv} {S : Store} {a b : CS} (h2 : ρ[2]? = some (some (.exc c fs))) : cIfS (cT (c2 kIsN (cV 2) (cK .non))) a b ρ S = b ρ S := by
  unfold cIfS cStep cT c2 thenC cV
  rw [h2]
  rfl
theorem cSeq_nx {a b : CS} {ρ ρ' : DEnv} {S S' : Store} (h : a ρ S = some (.go .nx ρ' S')) : cSeq a b ρ S = b ρ' S' := by
  unfold cSeq
  rw [h]
theorem cSeq_rt {a b : CS} {ρ ρ' : DEnv} {S S' : Store} {d : D} (h : a ρ S = some (.go (.rt d) ρ' S')) : cSeq a b ρ S = some (.go (.rt d) ρ' S') := by
  unfold cSeq
  rw [h]
theorem tup2_run {a b : C D} {ρ : DEnv} {S : Store} {x y : D} (ha : a ρ S = ret x S) (hb : b ρ S = ret y S) : cTupE (cCons a (cCons b cNil)) ρ S = ret (.tup [x, y]) S := by
  unfold cTupE
  rw [thenC_ok (cCons_run ha (cCons_run hb (xs := []) (S'' := S) rfl))]
  exact if_pos (line_le (by simp))
theorem tup3_run {a b c : C D} {ρ : DEnv} {S : Store} {x y z : D} (ha : a ρ S = ret x S) (hb : b ρ S = ret y S) (hc : c ρ S = ret z S) : cTupE (cCons a (cCons b (cCons c cNil))) ρ S = ret (.tup [x, y, z]) S := by
  unfold cTupE
  rw [thenC_ok (cCons_run ha (cCons_run hb (cCons_run hc (xs := []) (S'' := S) rfl)))]
  exact if_pos (line_le (by simp))
theorem ret_run {a : C D} {ρ : DEnv} {S : Store} {x : D} (ha : a ρ S = ret x S) : cRet a ρ S = some (.go (.rt x) ρ S) := by
  unfold cRet cStep
  rw [ha]
  rfl
/-- behind the try: found is d -/
theorem heardT_ok {d0 : Option D} {d : D} {S : Store} : heardT isi ics ecsH [d0, some d, some .non, none, none, none] S = some (.go (.rt (.lst [d])) [d0, some d, some .non, none, none, none] S) := by
  unfold heardT
  refine cSeq_rt ?_
  have e : cIfS (cT (c2 kIsN (cV 2) (cK .non))) (cRet (cFz (cLstE (cCons (cV 1) cNil)))) cSkip [d0, some d, some .non, none, none, none] S = cRet (cFz (cLstE (cCons (cV 1) cNil))) [d0, some d, some .non, none, none, none] S := rfl
  rw [e]
  refine ret_run ?_
  unfold cFz cLstE
  refine (thenC_ok (x := [d]) (S' := S) ?_).trans rfl
  refine (thenC_ok (cCons_run (cV_run rfl) (xs := []) (S'' := S) rfl)).trans ?_
  show lineOk [d] S = _
  exact if_pos (line_le (by simp))
theorem lst_run {a : C (List D)} {ρ : DEnv} {S : Store} {ds : List D} (h : a ρ S = ret ds S) (hl : ds.length ≤ 1000) : cFz (cLstE a) ρ S = ret (.lst ds) S := by
  unfold cFz cLstE
  refine (thenC_ok (x := ds) (S' := S) ?_).trans rfl
  refine (thenC_ok h).trans ?_
  show lineOk ds S = _
  exact if_pos (line_le hl)
theorem set_run {ρ : DEnv} {S : Store} {a : C D} {x : D} {i : Nat} (h : a ρ S = ret x S) : cSet i a ρ S = some (.go .nx (ρ.set i (some x)) S) := by
  unfold cSet cStep
  rw [h]
  rfl
def wordsH : List D := [.str "kind", .str "price", .str "box", .str "day", .str "value", .str "number", .str "paper", .str "misfit", .str "nothing"]
def kinds6 (c : Str) : List D := [.bl (decide (c = "BadKind")), .bl (decide (c = "BadPrice")), .bl (decide (c = "BadBox")), .bl (decide (c = "BadDay")), .bl (decide (c = "BadValue")), .bl (decide (c = "BadNumber"))]
def kinds3 (c : Str) : List D := [.bl (decide (c = "BadPaper")), .bl (decide (c = "Misfit")), .bl (decide (c = "Nothing"))]
theorem heardT_ex (hi : ExIsi isi) {d0 : Option D} {c : Str} {fs : List (Str × D)} {d : D} {S : Store} (hC : c ∈ ecsH) (hx : heardX c fs = some d) : ∃ ρ', heardT isi ics ecsH [d0, some .non, some (.exc c fs), none, none, none] S = some (.go (.rt d) ρ' S) := by
  unfold heardT
  have g2 : ∀ x y : Option D, ([d0, some .non, some (.exc c fs), none, x, y] : DEnv)[2]? = some (some (.exc c fs)) := fun _ _ => rfl
  rw [cSeq_nx (by rw [isNone_exc (g2 _ _)]; rfl)]
  unfold heardX at hx
  by_cases q1 : c = "TooMany"
  · rw [if_pos q1] at hx
    split at hx
    · rename_i a b e1 e2
      cases hx
      refine ⟨[d0, some .non, some (.exc c fs), none, none, none], cSeq_rt ?_⟩
      rw [if_isi hi (g2 _ _) hC (by decide +kernel), if_pos q1]
      exact ret_run (tup3_run rfl (xf_run (g2 _ _) hC e1) (xf_run (g2 _ _) hC e2))
    · cases hx
  rw [if_neg q1] at hx
  rw [cSeq_nx (by rw [if_isi hi (g2 _ _) hC (by decide +kernel), if_neg q1]; rfl)]
  by_cases q2 : c = "BadText"
  · rw [if_pos q2] at hx
    split at hx
    · rename_i a b e1 e2
      cases hx
      refine ⟨[d0, some .non, some (.exc c fs), none, none, none], cSeq_rt ?_⟩
      rw [if_isi hi (g2 _ _) hC (by decide +kernel), if_pos q2]
      exact ret_run (tup3_run rfl (xf_run (g2 _ _) hC e1) (xf_run (g2 _ _) hC e2))
    · cases hx
  rw [if_neg q2] at hx
  rw [cSeq_nx (by rw [if_isi hi (g2 _ _) hC (by decide +kernel), if_neg q2]; rfl)]
  have is : ∀ (c' : Str) (x y : Option D), c' ∈ ecsH → isiC isi ics ecsH c' [d0, some .non, some (.exc c fs), none, x, y] S = ret (.bl (decide (c = c'))) S := fun c' x y h => isiC_run hi (g2 x y) hC h
  have nil : ∀ ρ : DEnv, cNil ρ S = ret [] S := fun _ => rfl
  have ks : ∀ (s : Str) (ρ : DEnv), cK (.str s) ρ S = ret (.str s) S := fun _ _ => rfl
  rw [cSeq_nx (set_run (lst_run (ds := wordsH) (cCons_run (ks _ _) (cCons_run (ks _ _) (cCons_run (ks _ _) (cCons_run (ks _ _) (cCons_run (ks _ _) (cCons_run (ks _ _) (cCons_run (ks _ _) (cCons_run (ks _ _) (cCons_run (ks _ _) (nil _)))))))))) (by decide)))]
  rw [show ([d0, some .non, some (.exc c fs), none, none, none] : DEnv).set 4 (some (.lst wordsH)) = [d0, some .non, some (.exc c fs), none, some (.lst wordsH), none] from rfl]
  rw [cSeq_nx (set_run (lst_run (ds := kinds6 c) (cCons_run (is _ _ _ (by decide +kernel)) (cCons_run (is _ _ _ (by decide +kernel)) (cCons_run (is _ _ _ (by decide +kernel)) (cCons_run (is _ _ _ (by decide +kernel)) (cCons_run (is _ _ _ (by decide +kernel)) (cCons_run (is _ _ _ (by decide +kernel)) (nil _))))))) (by simp [kinds6])))]
  rw [show ([d0, some .non, some (.exc c fs), none, some (.lst wordsH), none] : DEnv).set 5 (some (.lst (kinds6 c))) = [d0, some .non, some (.exc c fs), none, some (.lst wordsH), some (.lst (kinds6 c))] from rfl]
  have w7 : cFz (cCat (cV 5) (cFz (cLstE (cCons (isiC isi ics ecsH "BadPaper") (cCons (isiC isi ics ecsH "Misfit") (cCons (isiC isi ics ecsH "Nothing") cNil)))))) [d0, some .non, some (.exc c fs), none, some (.lst wordsH), some (.lst (kinds6 c))] S = ret (.lst (kinds6 c ++ kinds3 c)) S := by
    unfold cFz
    refine (thenC_ok (x := kinds6 c ++ kinds3 c) (S' := S) ?_).trans rfl
    unfold cCat
    refine (thenC_ok (cV_run rfl)).trans ?_
    have e := lst_run (ρ := [d0, some .non, some (.exc c fs), none, some (.lst wordsH), some (.lst (kinds6 c))]) (ds := kinds3 c) (cCons_run (is "BadPaper" _ _ (by decide +kernel)) (cCons_run (is "Misfit" _ _ (by decide +kernel)) (cCons_run (is "Nothing" _ _ (by decide +kernel)) (nil _)))) (by simp [kinds3])
    unfold cFz at e
    rw [e]
    show kCat (.lst (kinds6 c)) (.lst (kinds3 c)) S = _
    unfold kCat lstD
    exact if_pos (line_le (by simp [kinds6, kinds3]))
  rw [cSeq_nx (set_run w7)]
  rw [show ([d0, some .non, some (.exc c fs), none, some (.lst wordsH), some (.lst (kinds6 c))] : DEnv).set 5 (some (.lst (kinds6 c ++ kinds3 c))) = [d0, some .non, some (.exc c fs), none, some (.lst wordsH), some (.lst (kinds6 c ++ kinds3 c))] from rfl]
  by_cases q3 : c = "NoName"
  · rw [if_pos q3] at hx
    split at hx
    · rename_i a e1
      cases hx
      refine ⟨[d0, some .non, some (.exc c fs), none, some (.lst wordsH), some (.lst (kinds6 c ++ kinds3 c))], ?_⟩
      rw [cSeq_nx (ρ' := [d0, some .non, some (.exc c fs), none, some (.lst wordsH), some (.lst (kinds6 c ++ kinds3 c))]) (S' := S) (by subst q3; rfl)]
      refine ret_run ?_
      rw [if_isiV hi (g2 _ _) hC (by decide +kernel), if_pos q3]
      exact tup2_run rfl (xf_run (g2 _ _) hC e1)
    · cases hx
  rw [if_neg q3] at hx
  split at hx
  case h_2 => cases hx
  rename_i w a e1 e2
  cases hx
  have hm : c = "BadKind" ∨ c = "BadPrice" ∨ c = "BadBox" ∨ c = "BadDay" ∨ c = "BadValue" ∨ c = "BadNumber" ∨ c = "BadPaper" ∨ c = "Misfit" ∨ c = "Nothing" := by
    have h := hC
    unfold ecsH at h
    simp only [List.mem_cons, List.not_mem_nil, or_false] at h
    rcases h with h | h | h | h | h | h | h | h | h | h | h | h
    · exact .inl h
    · exact .inr (.inl h)
    · exact .inr (.inr (.inl h))
    · exact .inr (.inr (.inr (.inl h)))
    · exact .inr (.inr (.inr (.inr (.inl h))))
    · exact .inr (.inr (.inr (.inr (.inr (.inl h)))))
    · exact .inr (.inr (.inr (.inr (.inr (.inr (.inl h))))))
    · exact absurd h q2
    · exact absurd h q3
    · exact .inr (.inr (.inr (.inr (.inr (.inr (.inr (.inl h)))))))
    · exact .inr (.inr (.inr (.inr (.inr (.inr (.inr (.inr h)))))))
    · exact absurd h q1
  refine ⟨[d0, some .non, some (.exc c fs), none, some (.lst wordsH), some (.lst (kinds6 c ++ kinds3 c))], cSeq_rt ?_⟩
  have fin : ∀ (x : D), c2 kIx (cV 4) (cIndex (cV 5) (cK (.bl true))) [d0, some .non, some (.exc c fs), none, some (.lst wordsH), some (.lst (kinds6 c ++ kinds3 c))] S = ret x S → x = .str w →
      cRet (cTupE (cCons (c2 kIx (cV 4) (cIndex (cV 5) (cK (.bl true)))) (cCons (c1 (kXf ecsH "part") (cV 2)) cNil))) [d0, some .non, some (.exc c fs), none, some (.lst wordsH), some (.lst (kinds6 c ++ kinds3 c))] S = some (.go (.rt (.tup [.str w, a])) [d0, some .non, some (.exc c fs), none, some (.lst wordsH), some (.lst (kinds6 c ++ kinds3 c))] S) := fun x h e => by
    subst e
    exact ret_run (tup2_run h (xf_run (g2 _ _) hC e2))
  rcases hm with rfl | rfl | rfl | rfl | rfl | rfl | rfl | rfl | rfl
  all_goals
    refine Eq.trans (b := cRet (cTupE (cCons (c2 kIx (cV 4) (cIndex (cV 5) (cK (.bl true)))) (cCons (c1 (kXf ecsH "part") (cV 2)) cNil))) _ S) (by rfl) (fin _ (by rfl) ?_)
    exact congrArg D.str (Option.some.inj (Eq.trans (by rfl) e1))
theorem heardC_ok {ask : C D} {d0 : Option D} {d : D} {S S' : Store} (h : ask [d0, some .non, some .non, none, none, none] S = some (.ok d S')) : heardC isi ics ecsH ask [d0, none, none, none, none, none] S = some (.go (.rt (.lst [d])) [d0, some d, some .non, none, none, none] S') := by
  unfold heardC
  rw [cSeq_nx (ρ' := [d0, some .non, some .non, none, none, none]) (S' := S) rfl]
  have e : cTryT ecsH 3 (cSet 1 ask) (cSet 2 (cV 3)) [d0, some .non, some .non, none, none, none] S = some (.go .nx [d0, some d, some .non, none, none, none] S') := by
    unfold cTryT cSet cStep
    rw [h]
    rfl
  rw [cSeq_nx e]
  exact heardT_ok
theorem heardC_ex (hi : ExIsi isi) {ask : C D} {d0 : Option D} {d : D} {x : Ex} {S S' : Store} (h : ask [d0, some .non, some .non, none, none, none] S = some (.ex x S')) (hC : x.cls ∈ ecsH) (hx : heardX x.cls x.fs = some d) :
    ∃ ρ', heardC isi ics ecsH ask [d0, none, none, none, none, none] S = some (.go (.rt d) ρ' S') := by
  unfold heardC
  rw [cSeq_nx (ρ' := [d0, some .non, some .non, none, none, none]) (S' := S) rfl]
  have e : cTryT ecsH 3 (cSet 1 ask) (cSet 2 (cV 3)) [d0, some .non, some .non, none, none, none] S = some (.go .nx [d0, some .non, some (.exc x.cls x.fs), none, none, none] S') := by
    unfold cTryT cSet cStep
    rw [h]
    show (if x.cls ∈ ecsH then _ else none) = _
    rw [if_pos hC]
    rfl
  rw [cSeq_nx e]
  exact heardT_ex hi hC hx
end
end DE

set_option Elab.async false
set_option linter.all false
set_option maxRecDepth 100000
set_option maxHeartbeats 4000000
set_option autoImplicit false
namespace DE
open PySem PySem.Spec PyProof.Rows L2

section
variable {K : PySem.W.Frag} {CT : Cfg} {A : Asd} {F : Hp} {mm : List Addr} {S : Store} {H H1 : Hp}
/-- a function was made -/
theorem Sim.lam (s : Sim K CT A F mm S H) (e : LamX.ExtN H H1) (T : LamX.Tabs CT.T H1) : Sim K CT A F mm S H1 := by
  refine ⟨fun a o q => ?_, fun a o q => e a o (s.fz a o q) (s.nt a o q), s.len, s.nd, fun a m => ?_, fun n c q => ?_, T, s.ntx, s.nt⟩
  · obtain ⟨h1, h2⟩ := s.asd a o q
    obtain ⟨vs, rfl⟩ := s.ntx a o q
    exact ⟨e a _ h1 (fun _ z => nomatch z), h2⟩
  · obtain ⟨o, h1, h2⟩ := s.trk a m
    exact ⟨o, e a o h1 h2, h2⟩
  · obtain ⟨a, h1, h2, o, h3, h4⟩ := s.live n c q
    exact ⟨a, h1, h2, o, e a o h3 h4.nt, h4⟩
theorem codeO_nt {c : Addr} {q : Str} : NoTbl (LamX.CodeO c q) := fun _ z => by unfold LamX.CodeO at z; cases z
/-- a code object is known -/
theorem Sim.code {c : Addr} {q : Str} (s : Sim K CT A F mm S H) (h : H c = some (LamX.CodeO c q)) : ∃ F', Ext F mm F' mm ∧ Sim K CT A F' mm S H ∧ F' c = some (LamX.CodeO c q) := by
  cases e : F c with
  | some o =>
    have := s.fz c o e
    rw [h] at this
    cases this
    exact ⟨F, Ext.refl, s, e⟩
  | none =>
    have eF : Ext F mm (upd F c (LamX.CodeO c q)) mm := Ext.fix e
    refine ⟨upd F c (LamX.CodeO c q), eF, ⟨fun b u x => ?_, fun b u x => ?_, s.len, s.nd, s.trk, fun n k x => ?_, s.ast, s.ntx, fun b u x => ?_⟩, upd_same⟩
    · obtain ⟨h1, h2, h3⟩ := s.asd b u x
      refine ⟨h1, ?_, h3⟩
      have hb : b ≠ c := fun z => by
        obtain ⟨vs, rfl⟩ := s.ntx b u x
        rw [z, h] at h1
        unfold LamX.CodeO at h1
        cases h1
      rw [upd_ne hb]; exact h2
    · by_cases hb : b = c
      · subst hb; rw [upd_same] at x; cases x; exact h
      · rw [upd_ne hb] at x; exact s.fz b u x
    · obtain ⟨b, h1, h2, u, h3, h4⟩ := s.live n k x
      have hb : b ≠ c := fun z => by
        rw [z, h] at h3
        cases h3
        cases k with
        | lst ds => obtain ⟨vs, z, _⟩ := h4; unfold LamX.CodeO at z; cases z
        | ins C fs => obtain ⟨Ca, dx, fvs, z, _⟩ := h4; unfold LamX.CodeO at z; cases z
      exact ⟨b, h1, by rw [upd_ne hb]; exact h2, u, h3, h4.ext eF⟩
    · by_cases hb : b = c
      · subst hb; rw [upd_same] at x; cases x; exact codeO_nt
      · rw [upd_ne hb] at x; exact s.nt b u x
end
theorem heardX_mem {c : Str} {fs : List (Str × D)} {d : D} (h : heardX c fs = some d) : c ∈ ecsH := by
  unfold heardX at h
  by_cases q1 : c = "TooMany"
  · subst q1; decide +kernel
  rw [if_neg q1] at h
  by_cases q2 : c = "BadText"
  · subst q2; decide +kernel
  rw [if_neg q2] at h
  by_cases q3 : c = "NoName"
  · subst q3; decide +kernel
  rw [if_neg q3] at h
  split at h
  · rename_i w a e1 _
    have hm : ∀ (l : List (Str × Str)) (c w : Str), l.lookup c = some w → c ∈ l.map (·.1) := fun l c w e => by
      induction l with
      | nil => cases e
      | cons p l ih =>
        by_cases z : c = p.1
        · simp [z]
        · have z' : (c == p.1) = false := by simpa using z
          obtain ⟨p1, p2⟩ := p
          simp only [List.lookup, z'] at e
          simp [ih e]
    have hs : ∀ x ∈ ([(("BadKind" : Str), ("kind" : Str)), ("BadPrice", "price"), ("BadBox", "box"), ("BadDay", "day"), ("BadValue", "value"), ("BadNumber", "number"), ("BadPaper", "paper"), ("Misfit", "misfit"), ("Nothing", "nothing")] : List (Str × Str)).map (·.1), x ∈ ecsH := by decide +kernel
    exact hs _ (hm _ _ _ e1)
  · cases h
/-- the def _law_heard -/
structure Hrd (P : Program) (w : World) (K : PySem.W.Frag) (mg : Str → Option Value) (base : Heap) (CT : Cfg) (isi : Tag → Tag → Option Bool) (ics : List Str) (k : Nat) : Prop where
  ex : ∃ (g : Addr) (st : Stmt) (fd : FuncData), mg "_law_heard" = some (.ref g) ∧ Fun K "_law_heard" "_law_heard" st g fd ∧ L2.Binds K fd ["ask"] [] ∧ FnScope Nh ["ask"] (defScope st) ∧ (Vis (defScope st) "ask") ∧
    ∀ (cdg : Value) (A : Around) (outer : List Env) (s : Shared) (H : Hp) (ask : C D), Room k (A.deeper (envOfC "_law_heard" (defScope st) s.heap.objs.size g cdg)) →
      (∀ (W : WX) (pn : List (Addr × Obj)) (xe : Value → Shared → Prop) (p1 p2 : Pos), Takes ((cxOf C8.CX0 P w K mg base Nh "_law_heard" (defScope st) g cdg A outer s H C8.E0).tr pn xe) W → DEx ((cxOf C8.CX0 P w K mg base Nh "_law_heard" (defScope st) g cdg A outer s H C8.E0).tr pn xe) CT W (.Call (.Name "ask" p1) [] [] p2) ask) →
      DBx (cxOf C8.CX0 P w K mg base Nh "_law_heard" (defScope st) g cdg A outer s H C8.E0) CT WF (defBody st) (heardC isi ics ecsH ask)
section
variable {X : Cx} {CT : Cfg} {W : WX} {isi : Tag → Tag → Option Bool} {ics : List Str}
theorem de_heard {j k m : Nat} {c P : Addr} {params : Arguments} {body : Expr} {scope : Scope} {ps : List Str} {dfl : Option Int} {cb : C D} {p lpos pos : Pos} (G : Hrd X.prog X.w X.K X.mg X.base CT isi ics k) (hi : ExIsi isi) (hr : Room (m + 2) X.A) (hj : j ≤ m) (hk : k ≤ m + 1)
    (TB : LamX.TabB X.base X.mg c P) (hcode : X.env.code = .ref c) (hmT : (P, X.env.qual ++ "<lambda>") ∈ CT.T) (hu : ∀ p ∈ CT.T, p.1 = P → p.2 = X.env.qual ++ "<lambda>")
    (L : LamS1 X.N ps X.env.scope scope) (hd : DflE params dfl) (hkw : params.kw_defaults = []) (hB : LamB params body scope dfl ps)
    (hbody : ∀ (A : Around) (outer : List Env) (s : Shared) (H : Hp) (E : XK) (f c' : Addr), Room j (A.deeper (LamX.lamEnv X scope s.heap.objs.size f c')) → DEx (LamX.lamCx X A outer s H E scope f c') CT (fun cls d _ H => E cls d H) body cb)
    (hg : Gl X "_law_heard" := by rfl) :
    DEx X CT W (.Call (.Name "_law_heard" p) [.Lambda params body scope lpos] [] pos) (cHeard cb) := by
  obtain ⟨g, st, fd, hm, FF, hb, Sg, hva, hG⟩ := G.ex
  have hkp := FF.kp
  obtain ⟨oc, od, kV, doc0, pm0, an, cdv, ct, osl, rfl, lk, hcg⟩ := FF.ex
  refine ⟨fun pins s σ H Q I h => ?_⟩
  obtain ⟨A, F, mm, S, ρ, sm, h2, h3⟩ := h
  refine wpAny_Call_Name_kw (ld_glob I hg hm ?_ (by decide))
  refine PySem.W.callWith_K (h₀ := X.base) I.ok.mod.kin hkp ?_ (by rfl) (by rfl)
  show wpAny _ _ (spliced ((false, eval (.Lambda params body scope lpos) X.env) :: backTo pos (starEach [] X.env))) _ _ s
  refine Calls.spliced_cons (lam_make3 I TB hcode hmT hu sm.ast hd hkw (L.has I.ok) fun f c' dV doc pm ctv H1 s' its I1 eN T1 hdf hdn hf hfn hfr hco => ?_)
  refine Calls.spliced_nil ⟨I1.kIn, ?_⟩
  have sm1 := sm.lam eN T1
  obtain ⟨F1, eF, sm2, hF1⟩ := sm1.code hco
  have rc : codeAny (model X.prog X.w) X.A (.call (.ref g) ⟨[.ref f], []⟩) (CR C8.CX0 X.stack X.prog X.w H1 s' Q C8.E0) s' := by
    refine LamX.run_ofS (N := Nh) (ps := ["ask"]) (us := [.ref f]) (vs := [.ref f]) lk hcg Sg hr I1.env0 (by have := hb s' [.ref f] I1.kIn rfl; exact this) (.cons rfl .nil) rfl fun hr' => ?_
    refine ⟨_, hG cdv X.A X.stack s' H1 (cAsk 0 f c' (X.env.qual ++ "<lambda>") σ cb) (hr'.mono hk) fun W' pn xe p1 p2 tk => ?_, ?_⟩
    · refine (pe_act3 (i := 0) (tb := fun E => tD X.K CT (fun cls d _ H => E cls d H) cb) I1 L hf hfn hfr hdf hdn hB tk hr' (fun A outer s H E hr2 => hbody A outer s H E f c' (hr2.mono hj)) rfl hva).weak fun σZ HZ Q' h => ?_
      obtain ⟨A2, F2, mm2, S2, ρ2, s2, r2, h4⟩ := h
      unfold cAsk at h4
      split at h4
      case h_2 => exact h4.elim
      rename_i f' c2 q' env σ' e0
      split at h4
      case isFalse => exact h4.elim
      rename_i hh
      obtain ⟨rfl, rfl, rfl, rfl⟩ := hh
      obtain ⟨v, hv, rv⟩ := r2.2 0 _ e0
      obtain ⟨rfl, k1, k2⟩ := rv
      exact ⟨hv, s2.fz _ _ k1, A2, F2, mm2, S2, env, s2, k2.to, h4.wish⟩
    · have rs : RepE X.K CT F1 mm [some (.lam f c' (X.env.qual ++ "<lambda>") ρ σ), none, none, none, none, none] (L2.start Nh [.ref f]) := by
        refine RepN.to ⟨_, _, rfl, ⟨rfl, hF1, (h2.ext eF).toN⟩, ?_⟩
        exact ⟨_, _, rfl, _, _, rfl, _, _, rfl, _, _, rfl, _, _, rfl, rfl⟩
      refine ⟨A, F1, mm, S, _, sm2, rs, ?_⟩
      have ask : ∀ x y, cAsk 0 f c' (X.env.qual ++ "<lambda>") σ cb [some (.lam f c' (X.env.qual ++ "<lambda>") ρ σ), x, y, none, none, none] S = cb ρ S := fun x y => by
        show (if _ then cb ρ S else none) = _
        exact if_pos ⟨rfl, rfl, rfl, rfl⟩
      unfold cHeard at h3
      cases e : cb ρ S with
      | none => rw [e] at h3; exact h3.elim
      | some o =>
        rw [e] at h3
        cases o with
        | ok d S' =>
          rw [heardC_ok ((ask _ _).trans e)]
          exact fun F2 mm2 H2 σ2 e2 s2 r2 v rv => h3 F2 mm2 H2 v (eF.trans e2) s2 rv
        | ex x S' =>
          dsimp only at h3
          split at h3
          case h_2 => exact h3.elim
          rename_i d hx
          obtain ⟨ρ', q⟩ := heardC_ex hi ((ask _ _).trans e) (heardX_mem hx) hx
          rw [q]
          exact fun F2 mm2 H2 σ2 e2 s2 r2 v rv => h3 F2 mm2 H2 v (eF.trans e2) s2 rv
  refine wpAny_call (codeAny_mono rc fun r s2 hq => ?_)
  cases r with
  | error e => exact (show False from hq).elim
  | ok fl =>
    cases fl with
    | ret u => exact I1.after hq
    | next => exact False.elim hq
    | brk => exact False.elim hq
    | cont => exact False.elim hq
end
end DE

set_option Elab.async false
set_option linter.all false
set_option maxRecDepth 100000
set_option maxHeartbeats 4000000
set_option autoImplicit false
namespace DE
open PySem PySem.Spec PyProof.Rows L2

/-! ### own ==: instances, lists of one instance -/
def neK (K : PySem.W.Frag) (C f : Addr) : Bool := match K.lookup C with
  | some ⟨.type "type", _, .cls cd, sl⟩ => (match cd.mro, sl.toList with
    | [.ref C', .type "object"], [_, _, _, _, some (.builtin n), _] => C' == C && !cd.hasDel && PySem.W.nsOkIn K cd.ns && (PySem.W.nsIn K cd.ns "__eq__" == some (some (.ref f))) && (PySem.W.nsIn K cd.ns "__ne__" == some none)
    | _, _ => false)
  | _ => false
theorem ns_some_of {K : PySem.W.Frag} {h : Heap} {N : Addr} {mg : Str → Option Value} {n : Str} {v : Value} (X : K.In h) (G : h.Ns N mg) (e : PySem.W.nsIn K N n = some (some v)) : mg n = some v := by
  obtain ⟨o, es, ep, ho, hd, _, hf⟩ := G
  unfold PySem.W.nsIn at e
  split at e
  · rename_i c d es' n' sl q
    have := X _ _ q
    rw [ho] at this
    cases this
    cases hd
    split at e
    · rename_i en he
      cases e
      rw [← hf]
      unfold nsFind findBy
      rw [← Array.find?_toList, he]
      rfl
    · split at e <;> cases e
  · cases e
theorem ownNe_of {K : PySem.W.Frag} {h : Heap} {C f x : Addr} {o : Obj} (X : K.In h) (q : neK K C f = true) (hf : PySem.W.isFn K (.ref f) = true) (hx : h.get? x = some o) (hc : o.cls = .ref C) : h.OwnEqNoNe x C f "object" [.type "object"] := by
  have hfn : ∃ of, h.get? f = some of ∧ of.cls = .type "function" := by
    unfold PySem.W.isFn PySem.W.typeIn at hf
    have hf := beq_iff_eq.mp hf
    dsimp only at hf
    cases e : K.lookup f with
    | none => rw [e] at hf; cases hf
    | some of => rw [e] at hf; exact ⟨of, X _ _ e, Option.some.inj hf⟩
  obtain ⟨of, hof, hofc⟩ := hfn
  unfold neK at q
  split at q
  · rename_i dd cd sl ho
    split at q
    · rename_i C' k0 k1 k2 k3 n k5 hm hs
      simp only [Bool.and_eq_true, beq_iff_eq, Bool.not_eq_true'] at q
      obtain ⟨⟨⟨⟨rfl, hdel⟩, hok⟩, he⟩, hne⟩ := q
      obtain ⟨nm, bs, mro, ns, qn, hd, sn, sub, ab, col, del⟩ := cd
      dsimp only at hm hdel hok he hne
      subst hm hdel
      have hsl : sl = #[k0, k1, k2, k3, some (.builtin n), k5] := by
        obtain ⟨l⟩ := sl
        simp only at hs
        rw [hs]
      subst hsl
      have hN : h.Ns ns (h.nsMap ns) := .of_isNs (PySem.W.isNs_of_in X hok)
      exact ⟨o, of, nm, qn, ns, bs, hd, sn, sub, ab, col, dd, k0, k1, k2, k3, k5, n, _, some (.builtin "object.__eq__"), hx, hc, X _ _ ho, hN, ns_some_of X hN he, hof, hofc, F.cmp_object.mro, by rw [typeLookup_type, builtinLookup_eq_fast]; kernel_rfl, PySem.W.ns_none_of X hN hne⟩
    · cases q
  · cases q
/-- a class whose == is its own; pe: what it answers, where it is asked -/
structure Eqo (P : Program) (w : World) (K : PySem.W.Frag) (mg : Str → Option Value) (base : Heap) (CT : Cfg) (k : Nat) (cl : Str) (ts : List Tag) (pe : D → D → Option Bool) : Prop where
  ex : ∃ (Ca f : Addr) (fd : FuncData) (ps : List Str) (m : Md), CT cl = some Ca ∧ PySem.W.findIn K (.ref Ca) "__eq__" = some (some (.ref f)) ∧ PySem.W.isFn K (.ref f) = true ∧ neK K Ca f = true ∧ Binds K fd ps [] ∧ ps.length = 2 ∧
    (∀ t ∈ ts, ∀ tv, TagV CT t tv → PySem.W.notFirst K Ca tv = true) ∧ FnOk P w K mg base (L2.CX P w) k f fd ps (spD K CT 2 m) ∧ ∀ x y b S, pe x y = some b → m [x, y] S = some (.ok (.bl b) S)
section
variable {X : Cx} {CT : Cfg} {W : WX} {k : Nat} {cl : Str} {ts : List Tag} {pe : D → D → Option Bool} {isi : Tag → Tag → Option Bool} {ics ecs : List Str}
/-- the two are asked by the own == -/
structure EqI (K : PySem.W.Frag) (CT : Cfg) (cl : Str) (ics ecs : List Str) (ts : List Tag) (pe : D → D → Option Bool) (A : Asd) (F : Hp) (mm : List Addr) (S : Store) (H : Hp) (x y : D) (v u : V) (b : Bool) : Prop where
  sim : Sim K CT A F mm S H
  rx : Rep K CT F mm x v
  ry : Rep K CT F mm y u
  ix : ∃ fs, insAt S x = some (cl, fs)
  ty : ∃ t, tagOf ics ecs S y = some t ∧ t ∈ ts ∧ ∀ C, t = .o C → C ∉ ecs
  pe : pe x y = some b
theorem tag_ins {S : Store} {y : D} {C : Str} (e : tagOf ics ecs S y = some (.o C)) (h : C ∉ ecs) : ∃ fs, insAt S y = some (C, fs) := by
  cases y with
  | ins C' fs =>
    have e : (if C' ∈ ics then some (Tag.o C') else none) = some (Tag.o C) := e
    split at e
    · cases e; exact ⟨fs, rfl⟩
    · cases e
  | exc C' fs =>
    have e : (if C' ∈ ecs then some (Tag.o C') else none) = some (Tag.o C) := e
    split at e
    · rename_i c; cases e; exact absurd c h
    · cases e
  | ref n =>
    unfold tagOf at e
    dsimp only at e
    split at e
    · cases e
    · rename_i C' fs q
      split at e
      · cases e
        refine ⟨fs, ?_⟩
        unfold insAt
        dsimp only
        rw [q]
      · cases e
    · cases e
  | _ => cases e
theorem call_eqo {f : Addr} {fd : FuncData} {ps : List Str} {m : Md} {A0 : Around} {pins : List (Addr × Obj)} {σ : L2.St} {H : Hp} {s : Shared} {A : Asd} {F : Hp} {mm : List Addr} {S : Store} {x y : D} {a : Addr} {v2 : V} {u2 : Value} {b : Bool}
    (FF : FnOk X.prog X.w X.K X.mg X.base (L2.CX X.prog X.w) k f fd ps (spD X.K CT 2 m)) (hb : Binds X.K fd ps []) (hl : ps.length = 2) (hp : m [x, y] S = some (.ok (.bl b) S)) (sb : Sub X k A0) (I : Inv X pins σ H s)
    (sm : Sim X.K CT A F mm S H) (rx : Rep X.K CT F mm x (.ref a)) (ry : Rep X.K CT F mm y v2) (r2 : RelV v2 u2) :
    wpAny (model X.prog X.w) A0 (call (.ref f) [.ref a, u2]) (fun r s' => r = .bool b ∧ ∃ F' mm' H', DE.Ext F mm F' mm' ∧ Sim X.K CT A F' mm' S H' ∧ Inv X pins σ H' s') X.xe s := by
  have e0 : Env0 X.prog X.w X.K X.mg X.base A0 X.stack s H := by
    have e := I.env0
    exact ⟨by rw [sb.fr]; exact e.frames, e.mod, e.bs, e.bsz, e.funs, e.frf, e.hok, e.bare⟩
  have rv : Vals [V.ref a, v2] [Value.ref a, u2] := .cons rfl (.cons r2 .nil)
  have hsp : spD X.K CT 2 m [.ref a, v2] H (fun v H' => v = .bl b ∧ ∃ F' mm', DE.Ext F mm F' mm' ∧ Sim X.K CT A F' mm' S H') (fun _ _ _ => False) := by
    refine ⟨rfl, A, F, mm, S, [x, y], sm, ⟨_, _, rfl, rx, _, _, rfl, ry, rfl⟩, ?_⟩
    rw [hp]
    exact fun F' mm' H' v e s' r => ⟨r, F', mm', e, s'⟩
  refine wpAny_call (codeAny_mono (FF.run A0 X.stack s H ⟨[.ref a, u2], []⟩ [.ref a, u2] [.ref a, v2] _ _ sb.room e0 (by
    have := hb s [.ref a, u2] I.kIn (by simpa using hl.symm)
    simpa using this) rv hsp) fun r s' hq => ?_)
  cases r with
  | error e => exact passL pins σ H s e s' I hq
  | ok fl =>
    cases fl with
    | ret w =>
      obtain ⟨z, H', I', rz, ez, F', mm', e1, e2⟩ := I.after hq
      subst ez
      cases rz
      exact ⟨rfl, F', mm', H', e1, e2, I'⟩
    | next => exact False.elim hq
    | brk => exact False.elim hq
    | cont => exact False.elim hq
theorem rc_eqo (IK : IsK X.K CT isi ics ecs) (G : Eqo X.prog X.w X.K X.mg X.base CT k cl ts pe) {A0 : Around} {pins : List (Addr × Obj)} {σ : L2.St} {H : Hp} {s : Shared} {A : Asd} {F : Hp} {mm : List Addr} {S : Store} {x y : D} {v1 v2 : V} {u1 u2 : Value} {b : Bool}
    (sb : Sub X k A0) (I : Inv X pins σ H s) (h : EqI X.K CT cl ics ecs ts pe A F mm S H x y v1 v2 b) (r1 : RelV v1 u1) (r2 : RelV v2 u2) :
    wpAny (model X.prog X.w) A0 (richCompare .Eq u1 u2) (fun r s' => r = .bool b ∧ ∃ F' mm' H', DE.Ext F mm F' mm' ∧ Sim X.K CT A F' mm' S H' ∧ Inv X pins σ H' s') X.xe s := by
  obtain ⟨Ca, f, fd, ps, m, g1, g2, g3, g4, g5, g6, g7, g8, g9⟩ := G.ex
  obtain ⟨sm, rx, ry, ⟨fs, ix⟩, ⟨t, ty, ht, hx⟩, hp⟩ := h
  obtain ⟨a, Ca', dx, fvs, rfl, k1, k2, k3⟩ := sm.ins ix rx
  rw [g1] at k1; cases k1
  cases r1
  have hT : ∃ tv, TagV CT t tv ∧ TyX X.K H v2 tv := by
    rcases sim_ty IK sm ry ty with z | ⟨C, e, b, Cb, dxx, rfl, q1, q2, _⟩
    · exact z
    · subst e
      obtain ⟨fs', iy⟩ := tag_ins ty (hx C rfl)
      obtain ⟨b', _, _, _, e, _, q3, _⟩ := sm.ins iy ry
      cases e
      rw [q2] at q3; cases q3
  obtain ⟨tv, tt, tx⟩ := hT
  obtain ⟨Pq, Z, p, _⟩ := kit_of I r2 tx
  obtain ⟨mA, J, _⟩ := ins_get I.hok k2
  obtain ⟨od, J, _⟩ := J.look
  obtain ⟨mF, hF⟩ := I.fr
  refine PySem.W.cmp_K (op := .Eq) (tb := tv) sb.room.units0 hF I.ok.mod.kin J (Z.ty _ _ I.kIn p) (g7 t ht tv tt) g2 g3 ?_
  refine wpAny_mono (call_eqo g8 g5 g6 (g9 x y b S hp) sb I sm rx ry r2) (fun r s' q => ?_) fun _ _ z => z
  obtain ⟨rfl, q⟩ := q
  exact ⟨rfl, q⟩
theorem rn_eqo (IK : IsK X.K CT isi ics ecs) (G : Eqo X.prog X.w X.K X.mg X.base CT k cl ts pe) {A0 : Around} {pins : List (Addr × Obj)} {σ : L2.St} {H : Hp} {s : Shared} {A : Asd} {F : Hp} {mm : List Addr} {S : Store} {x y : D} {v1 v2 : V} {u1 u2 : Value} {b : Bool}
    (sb : Sub X (k + 1) A0) (I : Inv X pins σ H s) (h : EqI X.K CT cl ics ecs ts pe A F mm S H x y v1 v2 b) (iy : ∃ fs, insAt S y = some (cl, fs)) (r1 : RelV v1 u1) (r2 : RelV v2 u2) :
    wpAny (model X.prog X.w) A0 (richCompare .NotEq u1 u2) (fun r s' => r = .bool (!b) ∧ ∃ F' mm' H', DE.Ext F mm F' mm' ∧ Sim X.K CT A F' mm' S H' ∧ Inv X pins σ H' s') X.xe s := by
  obtain ⟨Ca, f, fd, ps, m, g1, g2, g3, g4, g5, g6, g7, g8, g9⟩ := G.ex
  obtain ⟨sm, rx, ry, ⟨fs, ix⟩, _, hp⟩ := h
  obtain ⟨a, Ca', dx, fvs, rfl, k1, k2, k3⟩ := sm.ins ix rx
  rw [g1] at k1; cases k1
  cases r1
  obtain ⟨fs', iy⟩ := iy
  obtain ⟨a2, Ca2, dx2, fvs2, rfl, j1, j2, j3⟩ := sm.ins iy ry
  rw [g1] at j1; cases j1
  cases r2
  obtain ⟨mA, J, _⟩ := ins_get I.hok k2
  obtain ⟨od, J, _⟩ := J.look
  obtain ⟨mB, J2, _⟩ := ins_get I.hok j2
  obtain ⟨od2, J2, _⟩ := J2.look
  have hne := ownNe_of I.kIn g4 g3 J.at_ J.cls
  obtain ⟨hp0, g0, d0, t0, os0⟩ := s
  refine richCompare_ne_ownEq PySem.F.cmp_object hne J2.at_ J2.cls (by
    have := sb.room.units
    omega) ?_
  refine wpAny_mono (call_eqo g8 g5 g6 (g9 x y b S hp) sb.in1 I sm rx ry rfl) (fun r s' q => ?_) fun _ _ z => z
  obtain ⟨rfl, q⟩ := q
  exact ⟨b, rfl, rfl, q⟩
end

/-! `==` and `!=` of such, as operators -/
section
variable {X : Cx} {CT : Cfg} {W : WX} {k : Nat} {cl : Str} {ts : List Tag} {pe : D → D → Option Bool} {isi : Tag → Tag → Option Bool} {ics ecs : List Str}
def rEqo (K : PySem.W.Frag) (CT : Cfg) (cl : Str) (ics ecs : List Str) (ts : List Tag) (pe : D → D → Option Bool) : R2 := fun v u H Q => ∃ A F mm S x y b, EqI K CT cl ics ecs ts pe A F mm S H x y v u b ∧ ∀ F' mm' H', DE.Ext F mm F' mm' → Sim K CT A F' mm' S H' → Q (.bl b) H'
def rNeo (K : PySem.W.Frag) (CT : Cfg) (cl : Str) (ics ecs : List Str) (ts : List Tag) (pe : D → D → Option Bool) : R2 := fun v u H Q => ∃ A F mm S x y b, EqI K CT cl ics ecs ts pe A F mm S H x y v u b ∧ (∃ fs, insAt S y = some (cl, fs)) ∧ ∀ F' mm' H', DE.Ext F mm F' mm' → Sim K CT A F' mm' S H' → Q (.bl (!b)) H'
theorem op_eqo (IK : IsK X.K CT isi ics ecs) (G : Eqo X.prog X.w X.K X.mg X.base CT k cl ts pe) (hr : Room k X.A) : OpR X (compareOp .Eq) (rEqo X.K CT cl ics ecs ts pe) := by
  intro pins s σ H x y v u Q I rx ry h
  obtain ⟨A, F, mm, S, dx, dy, b, he, q⟩ := h
  show wpAny (model X.prog X.w) X.A (richCompare .Eq v u) (EP X pins σ Q) X.xe s
  refine wpAny_mono (rc_eqo IK G ⟨hr, rfl⟩ I he rx ry) (fun r s' z => ?_) fun _ _ z => z
  obtain ⟨rfl, F', mm', H', e1, e2, I'⟩ := z
  exact ⟨.bl b, H', I', rfl, q F' mm' H' e1 e2⟩
theorem op_neo (IK : IsK X.K CT isi ics ecs) (G : Eqo X.prog X.w X.K X.mg X.base CT k cl ts pe) (hr : Room (k + 1) X.A) : OpR X (compareOp .NotEq) (rNeo X.K CT cl ics ecs ts pe) := by
  intro pins s σ H x y v u Q I rx ry h
  obtain ⟨A, F, mm, S, dx, dy, b, he, iy, q⟩ := h
  show wpAny (model X.prog X.w) X.A (richCompare .NotEq v u) (EP X pins σ Q) X.xe s
  refine wpAny_mono (rn_eqo IK G ⟨hr, rfl⟩ I he iy rx ry) (fun r s' z => ?_) fun _ _ z => z
  obtain ⟨rfl, F', mm', H', e1, e2, I'⟩ := z
  exact ⟨.bl (!b), H', I', rfl, q F' mm' H' e1 e2⟩
/-- x is an instance of the class cl, y may be asked -/
def eqoB (cl : Str) (ics ecs : List Str) (ts : List Tag) (pe : D → D → Option Bool) (x y : D) (S : Store) : Option Bool := match insAt S x, tagOf ics ecs S y with
  | some (C, _), some t => if C = cl ∧ t ∈ ts ∧ (ecs.all fun C => decide (t ≠ .o C)) = true then pe x y else none
  | _, _ => none
theorem eqoB_ok {K : PySem.W.Frag} {A : Asd} {F : Hp} {mm : List Addr} {S : Store} {H : Hp} {x y : D} {v u : V} {b : Bool} (s : Sim K CT A F mm S H) (r1 : Rep K CT F mm x v) (r2 : Rep K CT F mm y u) (h : eqoB cl ics ecs ts pe x y S = some b) : EqI K CT cl ics ecs ts pe A F mm S H x y v u b := by
  unfold eqoB at h
  split at h
  · rename_i C fs t e1 e2
    split at h
    · rename_i c
      obtain ⟨rfl, c2, c3⟩ := c
      refine ⟨s, r1, r2, ⟨fs, e1⟩, ⟨t, e2, c2, fun C z hC => ?_⟩, h⟩
      have := List.all_eq_true.mp c3 C hC
      simp [z] at this
    · cases h
  · cases h
def insOf (cl : Str) (S : Store) (y : D) : Bool := match insAt S y with
  | some (C, _) => decide (C = cl)
  | none => false
/-- == of own instances, and of data -/
def kEqO (cl : Str) (ics ecs : List Str) (ts : List Tag) (pe : D → D → Option Bool) (x y : D) (S : Store) : Ev D := match eqoB cl ics ecs ts pe x y S with
  | some b => ret (.bl b) S
  | none => kEq false x y S
theorem v_eqo : V2 X.K CT W (fun x y H Q => rEqo X.K CT cl ics ecs ts pe x y H Q ∨ rEqD X.K x y H Q) (kEqO cl ics ecs ts pe) := fun A F mm S H σ Q x y v w s r1 r2 h => by
  unfold kEqO at h
  split at h
  · rename_i b e
    exact .inl ⟨A, F, mm, S, x, y, b, eqoB_ok s r1 r2 e, fun F' mm' H' e s' => h F' mm' H' _ e s' rfl⟩
  · exact .inr (v_eq A F mm S H σ Q x y v w s r1 r2 h)
end
end DE

set_option Elab.async false
set_option linter.all false
set_option maxRecDepth 100000
set_option maxHeartbeats 4000000
/-! list.__ne__ of lists whose items are seen to be equal (the loop of the kit's GQ for ==, turned to !=) -/
namespace GN
open PySem PySem.SeqAt
open AutoSeq1 (wpAny_loadPart')
open MeetsSeq MeetsSeq2 MeetsSeq3 SeqRoads2
open GQ (FinOf ListI)
section
variable {prog : Program} {w : World} {A : Around} {R : Result → Shared → Prop}
theorem ne_loopN (l b : Addr) (N : Nat) (I : Nat → Shared → Prop) (hl : ListI prog w A (fun e s' => R (.error e) s') l b N I)
    (fin : ∀ s, I N s → R (.ok (.ret (.bool false))) s) (k : Nat) :
    ∀ i : Nat, N - i = k → i ≤ N → ∀ s, I i s →
      wpAny (model prog w) A.in1 (Builtin.«list.__eq__.loop» ⟨[.ref l, .ref b, rawInt i, rawInt 3], []⟩) (FinOf prog w A R) (fun e s' => R (.error e) s') s := by
  induction k with
  | zero =>
    intro i hk hi s h
    obtain ⟨items, items2, n, n2, hl1, hb1, hs1, hs2, _⟩ := hl _ _ h
    have hi' : i = N := by omega
    have hR : R (.ok (.ret (.bool false))) s := fin s (hi' ▸ h)
    obtain ⟨hp, g, d, tk, os⟩ := s
    wp_walk using wpAny_loadPart' hl1, wpAny_loadPart' hb1
    have hi1 : items[((i : Nat) : Int).toNat]? = none := by simp; omega
    have hi2 : items2[((i : Nat) : Int).toNat]? = none := by simp; omega
    rw [hi1, hi2]
    wp_walk using wpAny_loadPart' hl1, wpAny_loadPart' hb1
    show R (.ok (.ret (.bool (items.size != items2.size)))) _
    rw [hs1, hs2]
    simpa using hR
  | succ k ih =>
    intro i hk hi s h
    obtain ⟨items, items2, n, n2, hl1, hb1, hs1, hs2, turn⟩ := hl _ _ h
    have hlt : i < items.size := by omega
    have hlt2 : i < items2.size := by omega
    have ht := turn hlt hlt2
    obtain ⟨hp, g, d, tk, os⟩ := s
    wp_walk using wpAny_loadPart' hl1, wpAny_loadPart' hb1
    have hi1 : items[((i : Nat) : Int).toNat]? = some items[i] := by simp [hlt]
    have hi2 : items2[((i : Nat) : Int).toNat]? = some items2[i] := by simp [hlt2]
    have hc : ((i : Int) + 1) = ((i + 1 : Nat) : Int) := by omega
    rw [hi1, hi2]
    refine wpAny_bind (wpAny_mono ht (fun r s2 h2 => ?_) fun _ _ x => x)
    obtain ⟨hr, h2⟩ := h2
    subst hr
    have hrec := ih (i + 1) (by omega) (by omega) s2 h2
    obtain ⟨hp2, g2, d2, tk2, os2⟩ := s2
    wp_walk
    rw [hc]
    exact ⟨plainId_quiet plain_eq_loop _, codeAny_builtin entry_eq_loop (by
      rw [Around.under_plainId plain_eq_loop _]
      exact hrec)⟩

theorem list_neN (l b : Addr) (N : Nat) (I : Nat → Shared → Prop) (hl : ListI prog w A (fun e s' => R (.error e) s') l b N I)
    (fin : ∀ s, I N s → R (.ok (.ret (.bool false))) s) {s : Shared} (h : I 0 s) :
    wpAny (model prog w) A.in1 (Builtin.«list.__ne__» ⟨[.ref l, .ref b], []⟩) (FinOf prog w A R) (fun e s' => R (.error e) s') s := by
  obtain ⟨items, items2, n, n2, hl1, hb1, hs1, hs2, _⟩ := hl _ _ h
  have hrec := ne_loopN (A := A) (R := R) l b N I hl fin _ 0 rfl (Nat.zero_le _) s h
  obtain ⟨hp, g, d, tk, os⟩ := s
  have f3 := AutoSeq1.sub_list_list
  have hne : ¬ (items.size != items2.size) = true := by simp [hs1, hs2]
  wp_walk using wpAny_loadPart' hl1, wpAny_loadPart' hb1
  exact ⟨plainId_quiet plain_eq_loop _, codeAny_builtin entry_eq_loop (by
    rw [Around.under_plainId plain_eq_loop _]
    exact hrec)⟩


end
section
variable {prog : Program} {w : World} {A : Around} {E : Value → Shared → Prop} {s : Shared}
theorem rn_listN {l b : Addr} {N : Nat} {Q : Value → Shared → Prop} (hu : A.units < cLine) (I : Nat → Shared → Prop) (hl : ListI prog w A E l b N I)
    (fin : ∀ s, I N s → Q (.bool false) s) (h : I 0 s) : wpAny (model prog w) A (richCompare .NotEq (.ref l) (.ref b)) Q E s := by
  obtain ⟨items, items2, n, n2, hl1, hb1, _, _, _⟩ := hl _ _ h
  refine wpAny_richCompare_same_room (op := .NotEq) ⟨_, hl1, rfl⟩ ⟨_, hb1, rfl⟩ F.slot_list_ne (GQ.call_here F.slot_list_ne ⟨_, hl1, rfl⟩ F.entry_list_ne (F.args_list_ne_2 _ _) ?_) hu
  exact list_neN (R := wants (fun v s' => v ≠ .notImplemented ∧ Q v s') E) l b N I hl (fun s' q => ⟨(fun x => nomatch x), fin s' q⟩) h
end
end GN
namespace DE
open PySem PySem.Spec PyProof.Rows L2
section
variable {X : Cx} {CT : Cfg} {W : WX} {k : Nat} {cl : Str} {ts : List Tag} {pe : D → D → Option Bool} {isi : Tag → Tag → Option Bool} {ics ecs : List Str}
/-- [x] != [y], x and y own instances that are equal -/
def rNe1 (K : PySem.W.Frag) (CT : Cfg) (cl : Str) (ics ecs : List Str) (ts : List Tag) (pe : D → D → Option Bool) : R2 := fun v u H Q => ∃ (a b : Addr) (v1 u1 : V) (A : Asd) (F : Hp) (mm : List Addr) (S : Store) (x y : D), v = .ref a ∧ u = .ref b ∧ F a = some (.lst [v1]) ∧ F b = some (.lst [u1]) ∧
  EqI K CT cl ics ecs ts pe A F mm S H x y v1 u1 true ∧ (∃ c, v1 = .ref c) ∧ (∃ c, u1 = .ref c) ∧ ∀ F' mm' H', DE.Ext F mm F' mm' → Sim K CT A F' mm' S H' → Q (.bl false) H'
theorem op_ne1 (IK : IsK X.K CT isi ics ecs) (G : Eqo X.prog X.w X.K X.mg X.base CT k cl ts pe) (hr : Room (k + 1) X.A) : OpR X (compareOp .NotEq) (rNe1 X.K CT cl ics ecs ts pe) := by
  intro pins s σ H v u vv uu Q I rv ru h
  obtain ⟨a, b, v1, u1, A, F, mm, S, x, y, rfl, rfl, hFa, hFb, he, ⟨c1, e1⟩, ⟨c2, e2⟩, q⟩ := h
  cases rv
  cases ru
  show wpAny (model X.prog X.w) X.A (richCompare .NotEq (.ref a) (.ref b)) (EP X pins σ Q) X.xe s
  have hl : ∀ (F' : Hp) (mm' : List Addr) (H' : Hp) (s' : Shared), DE.Ext F mm F' mm' → Sim X.K CT A F' mm' S H' → Inv X pins σ H' s' → (∃ n, s'.heap.get? a = some { cls := .type "list", data := .seq #[.ref c1] n }) ∧ ∃ n, s'.heap.get? b = some { cls := .type "list", data := .seq #[.ref c2] n } := fun F' mm' H' s' e sm J => by
    have g : ∀ (p : Addr) (w1 : V) (c : Addr), F p = some (.lst [w1]) → w1 = .ref c → ∃ n, s'.heap.get? p = some { cls := .type "list", data := .seq #[.ref c] n } := fun p w1 c hp hw => by
      obtain ⟨_, its, n, r, h1⟩ := (show ObjOk X.prog X.w H' s'.heap p (.lst [w1]) from J.hok p _ (sm.fz _ _ (e.f _ _ hp)))
      cases r with
      | cons r1 rr =>
        cases rr
        subst hw
        cases r1
        exact ⟨n, h1⟩
    exact ⟨g a v1 c1 hFa e1, g b u1 c2 hFb e2⟩
  subst e1; subst e2
  refine GN.rn_listN (N := 1) hr.units0 (fun _ s' => ∃ F' mm' H', DE.Ext F mm F' mm' ∧ Sim X.K CT A F' mm' S H' ∧ Inv X pins σ H' s') (fun i s' z => ?_) (fun s' z => ?_) ⟨F, mm, H, Ext.refl, he.sim, I⟩
  · obtain ⟨F', mm', H', z1, z2, z3⟩ := z
    obtain ⟨⟨n, g1⟩, n2, g2⟩ := hl F' mm' H' s' z1 z2 z3
    refine ⟨_, _, n, n2, g1, g2, rfl, rfl, fun h1 h2 => ?_⟩
    have hi : i = 0 := by
      have h1 : i < 1 := h1
      omega
    subst hi
    show wpAny _ _ (eqBool (.ref c1) (.ref c2)) _ _ _
    have he' : EqI X.K CT cl ics ecs ts pe A F' mm' S H' x y (.ref c1) (.ref c2) true := ⟨z2, he.rx.ext z1, he.ry.ext z1, he.ix, he.ty, he.pe⟩
    by_cases hc : c1 = c2
    · subst hc
      exact SeqAt.EqAt.same (A := X.A.in1) (s := s') (.ref c1) X.prog X.w X.xe _ ⟨rfl, F', mm', H', z1, z2, z3⟩
    · refine GQ.eqBool_refG hc (wpAny_mono (rc_eqo IK G (v1 := .ref c1) (v2 := .ref c2) (Sub.in1 ⟨hr, rfl⟩) z3 he' rfl rfl) (fun r s2 q2 => ?_) fun _ _ z => z)
      obtain ⟨rfl, F2, mm2, H2, y1, y2, y3⟩ := q2
      exact ⟨true, rfl, rfl, F2, mm2, H2, z1.trans y1, y2, y3⟩
  · obtain ⟨F', mm', H', z1, z2, z3⟩ := z
    exact ⟨.bl false, H', z3, rfl, q F' mm' H' z1 z2⟩
/-- != of own instances, of lists of one that are equal, of data -/
def kNeO (cl : Str) (ics ecs : List Str) (ts : List Tag) (pe : D → D → Option Bool) (x y : D) (S : Store) : Ev D := match x, y with
  | .lst [a], .lst [b] => match eqoB cl ics ecs ts pe a b S with
    | some true => ret (.bl false) S
    | some false => none
    | none => kEq true x y S
  | x, y => match eqoB cl ics ecs ts pe x y S with
    | some b => if insOf cl S y = true then ret (.bl (!b)) S else none
    | none => kEq true x y S
theorem eqoB_ref {K : PySem.W.Frag} {A : Asd} {F : Hp} {mm : List Addr} {S : Store} {H : Hp} {x y : D} {v : V} {b : Bool} (s : Sim K CT A F mm S H) (r1 : Rep K CT F mm x v) (h : eqoB cl ics ecs ts pe x y S = some b) : ∃ c, v = .ref c := by
  unfold eqoB at h
  split at h
  · rename_i C fs t e1 e2
    obtain ⟨a, _, _, _, rfl, _⟩ := s.ins e1 r1
    exact ⟨a, rfl⟩
  · cases h
theorem insOf_ok {S : Store} {y : D} (h : insOf cl S y = true) : ∃ fs, insAt S y = some (cl, fs) := by
  unfold insOf at h
  split at h
  · rename_i C fs e
    rw [← of_decide_eq_true h]
    exact ⟨fs, e⟩
  · cases h
theorem v_neo (hpe : ∀ x y, pe x y = some true → ∀ (S : Store), (∃ fs, insAt S x = some (cl, fs)) → ∃ fs, insAt S y = some (cl, fs)) : V2 X.K CT W (fun x y H Q => rNe1 X.K CT cl ics ecs ts pe x y H Q ∨ rNeo X.K CT cl ics ecs ts pe x y H Q ∨ rNeD X.K x y H Q) (kNeO cl ics ecs ts pe) := fun A F mm S H σ Q x y v w s r1 r2 h => by
  unfold kNeO at h
  split at h
  · rename_i a b
    split at h
    · rename_i e
      obtain ⟨p, vs, rfl, _, g1, v1, r, e1, g2, g3⟩ := r1
      obtain ⟨p2, vs2, rfl, _, k1, v2, r', e2, k2, k3⟩ := r2
      rw [show r = [] from g3] at e1
      rw [show r' = [] from k3] at e2
      subst e1; subst e2
      have E := eqoB_ok s g2 k2 e
      obtain ⟨c1, z1⟩ := eqoB_ref s g2 e
      obtain ⟨fs, iy⟩ := hpe _ _ E.pe S E.ix
      obtain ⟨c2, _, _, _, z2, _⟩ := s.ins iy k2
      exact .inl ⟨p, p2, v1, v2, A, F, mm, S, a, b, rfl, rfl, g1, k1, E, ⟨c1, z1⟩, ⟨c2, z2⟩, fun F' mm' H' e s' => h F' mm' H' _ e s' rfl⟩
    · exact h.elim
    · exact .inr (.inr (v_ne A F mm S H σ Q _ _ v w s r1 r2 h))
  · split at h
    · rename_i b e
      split at h
      · rename_i c
        exact .inr (.inl ⟨A, F, mm, S, x, y, b, eqoB_ok s r1 r2 e, insOf_ok c, fun F' mm' H' e s' => h F' mm' H' _ e s' rfl⟩)
      · exact h.elim
    · exact .inr (.inr (v_ne A F mm S H σ Q _ _ v w s r1 r2 h))
end
end DE

set_option Elab.async false
set_option linter.all false
set_option maxRecDepth 100000
set_option maxHeartbeats 4000000
/-! set(xs) of a list of ints (the kit's walk for tuples, turned to lists); sorted(set(xs)) -/
namespace L2
open PySem PySem.Spec PyProof.Rows
section
variable {P : Program} {w : World} {A : Around} {E : Value → Shared → Prop} {s : Shared}
set_option maxRecDepth 100000 in
set_option maxHeartbeats 3200000 in
theorem call_set_lstI {l : Addr} {items : Array Value} (ns : List Int) {Q : Value → Shared → Prop} (hh : A.handled = none) (hl : s.heap.IsList l items) (hit : IntsAre items.toList ns) (hb : ns.length + 1 < scanBound)
    (h : ∀ (h' : Heap) (tk c : Nat), SetR w h' s.heap.objs.size (fun j => decide (j ∈ ns)) c → c ≤ ns.length → (∀ b o, s.heap.get? b = some o → h'.get? b = some o) → Q (.ref s.heap.objs.size) { s with heap := h', toks := tk }) :
    wpAny (model P w) A (call (.type "set") [.ref l]) Q E s := by
  have hisz : items.size = ns.length := by
    have q := IntsAre.length hit
    rw [Array.length_toList] at q
    exact q
  obtain ⟨c, tl, hmro⟩ := F.called_set.mro
  have hmade := F.called_set.made
  have hsub := F.called_set.sub
  refine wpAny_call (codeAny_of_tree ?_)
  show wpAny _ _ (callAny (.type "set") _) _ _ _
  refine wpAny_pure ⟨Code.quiet_builtin _ (by decide +kernel), codeAny_builtin F.entry_type_call ?_⟩
  rw [Around.under_plain (weight_type_call_type "set" [.ref l] []) rfl]
  have h1 := F.called_set.notType
  have h2 := F.called_set.canCreate
  have hct := F.typeCall_set_1 (.ref l)
  repeat (any_goals (first | assumption | wp_step))

  refine codeAny_mono (code_set_led1 (.ref l) (E := E) (Q₁ := fun obj s₁ => obj = .ref s.heap.objs.size ∧ s₁ = { s with heap := s.heap.push { cls := .type "set", dict := none, data := .set #[] 0 (.fresh 0 0 (!w.params.followText "set-order")) } }) ⟨rfl, rfl⟩) fun r s₁ hr => ?_
  cases r with
  | error e => exact hr
  | ok fl =>
    cases fl with
    | ret obj =>
      obtain ⟨rfl, rfl⟩ := hr
      have hS : (s.heap.push { cls := .type "set", dict := none, data := .set #[] 0 (.fresh 0 0 (!w.params.followText "set-order")) }).get? s.heap.objs.size = some { cls := .type "set", dict := none, data := .set #[] 0 (.fresh 0 0 (!w.params.followText "set-order")) } := Heap.get?_push_size _ rfl
      have hT : Shared.TypeIs { s with heap := s.heap.push { cls := .type "set", dict := none, data := .set #[] 0 (.fresh 0 0 (!w.params.followText "set-order")) } } (.ref s.heap.objs.size) "set" := ⟨_, hS, rfl⟩
      have hli := F.called_set.init.lookup
      have hbi := F.called_set.init.bind (.ref s.heap.objs.size)
      repeat (any_goals (first | assumption | wp_step))

      refine codeAny_mono (codeAny_call_builtin (R := wants (fun r s₂ => r = .none ∧ ∃ h' tk c, s₂ = { s with heap := h', toks := tk } ∧ SetR w h' s.heap.objs.size (fun j => decide (j ∈ ns)) c ∧ c ≤ ns.length ∧
          (∀ b o, s.heap.get? b = some o → h'.get? b = some o)) E) F.called_set.init.plain F.entry_set_init (check_set_init_1 hT ?_)) fun r₂ s₂ hr₂ => ?_
      · obtain ⟨ol, hol, hcl, nl, hdl⟩ := hl
        obtain ⟨ocls, odict, odata, oslots⟩ := ol
        simp only at hcl hdl
        subst hcl; subst hdl
        have hol' : (s.heap.push { cls := .type "set", dict := none, data := .set #[] 0 (.fresh 0 0 (!w.params.followText "set-order")) }).get? l = some { cls := .type "list", dict := odict, data := .seq items nl, slots := oslots } := Heap.get?_push_of_some _ hol
        have hsls := F.sub_list_set
        have hslf := F.sub_list_frozenset
        have hne : (Value.type "list" == Value.type "dict") = false := by decide
        have hl1 : (s.heap.push { cls := .type "set", dict := none, data := .set #[] 0 (.fresh 0 0 (!w.params.followText "set-order")) }).IsList l items := ⟨_, hol', rfl, nl, rfl⟩
        unfold Builtin.«set.__init__» noKeywords Builtin.Frozenset.updateFrom
        generalize hPI : pyIter = PI
        wp_walk
        subst hPI

        refine wpAny_pyIter_list hl1 ?_
        refine wpAny_bind (wpAny_runValue ?_)
        have hlS : l < s.heap.objs.size := Heap.lt_size hol
        have hh3 : A.in1.in1.in1.handled = none := by simp [hh]
        have hz1 : (s.heap.push { cls := .type "set", dict := none, data := .set #[] 0 (.fresh 0 0 (!w.params.followText "set-order")) }).objs.size = s.heap.objs.size + 1 := Heap.size_push ..
        have hneI : l ≠ (s.heap.push { cls := .type "set", dict := none, data := .set #[] 0 (.fresh 0 0 (!w.params.followText "set-order")) }).objs.size := by
          rw [Heap.size_push]; exact Nat.ne_of_lt (Nat.lt_succ_of_lt hlS)
        have hSf : s.heap.objs.size ∉ [(s.heap.push { cls := .type "set", dict := none, data := .set #[] 0 (.fresh 0 0 (!w.params.followText "set-order")) }).objs.size, l] := by
          rw [Heap.size_push]; simp only [List.mem_cons, List.mem_singleton, List.not_mem_nil, or_false, not_or]
          exact ⟨Nat.ne_of_lt (Nat.lt_succ_self _), Nat.ne_of_gt hlS⟩
        have hval : ∀ (i : Nat) (v : Value), items[i]? = some v → ∃ k t, ns[i]? = some k ∧ v = .int k t := fun i v hv => by
          have hi : i < ns.length := by rw [← hisz]; exact (Array.getElem?_eq_some_iff.mp hv).1
          obtain ⟨t, e⟩ := PyProof.Rows.IntsAre.int_at hit i v (by rw [Array.getElem?_toList]; exact hv)
          refine ⟨ns[i], t, List.getElem?_eq_getElem hi, ?_⟩
          rw [e, List.getD_eq_getElem?_getD, List.getElem?_eq_getElem hi] <;> rfl
        refine set_update_ints ((Walks.list hh3 _ l hneI items).toS) s.heap.objs.size
          hSf ns hisz hb hval (items.size - 0) 0 _ (by omega) (Nat.zero_le _)
          ⟨⟨_, Heap.get?_push_size _ rfl, rfl, rfl⟩, (hl1.push _)⟩ ?hS0 ?hR
        case hS0 =>
          have hget : ((s.heap.push { cls := .type "set", dict := none, data := .set #[] 0 (.fresh 0 0 (!w.params.followText "set-order")) }).push { cls := .type "list_iterator", data := .fields #[.ref l, .int 0 0] }).get? s.heap.objs.size
              = some { cls := .type "set", dict := none, data := .set #[] 0 (.fresh 0 0 (!w.params.followText "set-order")) } := Heap.get?_push_of_some _ hS
          exact ⟨0, Nat.le_refl 0, setR_new_at hget⟩
        case hR =>
          intro s' c' hm hc' hS'
          obtain ⟨h', g2, d', tk', os'⟩ := s'
          have eg : g2 = s.gens := hm.gens
          have ed : d' = s.drawn := hm.drawn
          have eo : os' = s.os := hm.os
          subst eg; subst ed; subst eo
          show wpAny _ _ _ _ _ _
          refine wpAny_pure ?_
          show wpAny _ _ (ret Value.none) _ _ _
          rw [hisz] at hc'
          refine wpAny_pure ⟨rfl, h', tk', c', rfl, hS', hc', fun b o e => ?_⟩
          have hb0 : b < s.heap.objs.size := Heap.lt_size e
          have hb1 : b ≠ s.heap.objs.size := Nat.ne_of_lt hb0
          have hb2 : b ≠ (s.heap.push { cls := .type "set", dict := none, data := .set #[] 0 (.fresh 0 0 (!w.params.followText "set-order")) }).objs.size := by
            rw [Heap.size_push]; exact Nat.ne_of_lt (Nat.lt_succ_of_lt hb0)
          exact hm.heap b o (by simp only [List.mem_cons, List.mem_singleton, List.not_mem_nil, or_false, not_or]; exact ⟨hb1, hb2⟩) (Heap.get?_push_of_some _ (Heap.get?_push_of_some _ e))

      · cases r₂ with
        | error e => exact hr₂
        | ok fl₂ =>
          cases fl₂ with
          | ret r =>
            obtain ⟨rfl, h', tk, c', rfl, hS', hc', hk'⟩ := hr₂
            repeat (any_goals (first | assumption | wp_step))
            exact h _ _ _ hS' hc' hk'
          | _ => exact hr₂.elim
    | _ => exact hr.elim

end
end L2
namespace DE
open PySem PySem.Spec PyProof.Rows L2
def rSetL (K : PySem.W.Frag) (w : World) : List V → Hp → VK → Prop := fun xs H Q => ∃ (a : Addr) (ns : List Int), xs = [.ref a] ∧ SqL K H a (ns.map V.int) ∧ ns.length ≤ 1000 ∧ ∀ p c, c ≤ ns.length → H p = none → Q (.ref p) (upd H p (SetO w p (fun k => decide (k ∈ ns)) c))
theorem cr_setL {X : Cx} (hc : X.calm = true) : CallR X (.type "set") (rSetL X.K X.w) := by
  intro pins s σ H xs us Q I r h
  obtain ⟨a, ns, rfl, hs, hl, q⟩ := h
  rw [Vals.ref1 r]
  obtain ⟨its, rv, pl, hz⟩ := I.list hs
  have hi : IntsAre its.toArray.toList ns := by rw [List.toList_toArray]; exact ints_vals rv
  refine L2.call_set_lstI ns (I.ok.hd hc) pl.isList hi (by unfold scanBound; omega) fun h' tk c hS hcl kp => ?_
  refine ⟨.ref s.heap.objs.size, upd H s.heap.objs.size (SetO X.w s.heap.objs.size (fun k => decide (k ∈ ns)) c), I.laid (t' := tk) kp (Nat.le_refl _) (setO_new hS), rfl, q _ c hcl (I.hok.fresh (Nat.le_refl _))⟩

def insU (k : Int) : List Int → List Int
  | [] => [k]
  | x :: xs => if k < x then k :: x :: xs else if k = x then x :: xs else x :: insU k xs
def sortU (ns : List Int) : List Int := ns.foldr insU []
theorem mem_insU {k j : Int} : ∀ {xs : List Int}, j ∈ insU k xs ↔ j = k ∨ j ∈ xs
  | [] => by simp [insU]
  | x :: xs => by
    unfold insU
    split
    · simp
    · split
      · rename_i h; subst h; simp
      · simp only [List.mem_cons, mem_insU (xs := xs)]
        constructor
        · rintro (h | h | h)
          · exact .inr (.inl h)
          · exact .inl h
          · exact .inr (.inr h)
        · rintro (h | h | h)
          · exact .inr (.inl h)
          · exact .inl h
          · exact .inr (.inr h)
theorem mem_sortU {k : Int} : ∀ {ns : List Int}, k ∈ sortU ns ↔ k ∈ ns
  | [] => by simp [sortU]
  | n :: ns => by
    show k ∈ insU n (sortU ns) ↔ _
    rw [mem_insU, mem_sortU (ns := ns), List.mem_cons]
theorem insU_sorted {k : Int} : ∀ {xs : List Int}, xs.Pairwise (· < ·) → (insU k xs).Pairwise (· < ·)
  | [], _ => by simp [insU]
  | x :: xs, h => by
    obtain ⟨h1, h2⟩ := List.pairwise_cons.mp h
    unfold insU
    split
    · rename_i c
      refine List.pairwise_cons.mpr ⟨fun y hy => ?_, h⟩
      rcases List.mem_cons.mp hy with rfl | hy
      · exact c
      · have := h1 y hy; omega
    · split
      · exact h
      · rename_i c1 c2
        refine List.pairwise_cons.mpr ⟨fun y hy => ?_, insU_sorted h2⟩
        rcases mem_insU.mp hy with rfl | hy
        · omega
        · exact h1 y hy
theorem sortU_sorted : ∀ (ns : List Int), (sortU ns).Pairwise (· < ·)
  | [] => List.Pairwise.nil
  | n :: ns => insU_sorted (sortU_sorted ns)
theorem strict_unique : ∀ {xs ys : List Int}, xs.Pairwise (· < ·) → ys.Pairwise (· < ·) → (∀ k, k ∈ xs ↔ k ∈ ys) → xs = ys
  | [], [], _, _, _ => rfl
  | [], y :: ys, _, _, h => absurd ((h y).mpr (by simp)) (by simp)
  | x :: xs, [], _, _, h => absurd ((h x).mp (by simp)) (by simp)
  | x :: xs, y :: ys, h1, h2, h => by
    obtain ⟨a1, a2⟩ := List.pairwise_cons.mp h1
    obtain ⟨b1, b2⟩ := List.pairwise_cons.mp h2
    have e : x = y := by
      rcases List.mem_cons.mp ((h x).mp (by simp)) with z | z
      · exact z
      · rcases List.mem_cons.mp ((h y).mpr (by simp)) with z2 | z2
        · exact z2.symm
        · have := a1 y z2; have := b1 x z; omega
    subst e
    have e2 : xs = ys := strict_unique a2 b2 fun k => by
      constructor
      · intro hk
        rcases List.mem_cons.mp ((h k).mp (by simp [hk])) with z | z
        · have := a1 k hk; omega
        · exact z
      · intro hk
        rcases List.mem_cons.mp ((h k).mpr (by simp [hk])) with z | z
        · have := b1 k hk; omega
        · exact z
    rw [e2]
def cSortSet (a : C D) : C (List D) := thenC a fun _ x S => match (lstD S x).bind intsOf with
  | some ns => if ns.length < 64 then ret ((sortU ns).map D.int) S else none
  | none => none
section
variable {X : Cx} {CT : Cfg} {W : WX}
theorem dn_sortset {e : Expr} {a : C D} {p p2 pos pos2 : Pos} (hc : X.calm = true) (hm1 : X.mg "sorted" = none) (hm2 : X.mg "set" = none) (ha : DEx X CT W e a) (hg1 : Gl X "sorted" := by rfl) (hg2 : Gl X "set" := by rfl)
    (he : starEach [e] X.env = (false, eval e X.env) :: starEach [] X.env := by rfl)
    (he2 : starEach [.Call (.Name "set" p2) [e] [] pos2] X.env = (false, eval (.Call (.Name "set" p2) [e] [] pos2) X.env) :: starEach [] X.env := by rfl) :
    DNx X CT W (.Call (.Name "sorted" p) [.Call (.Name "set" p2) [e] [] pos2] [] pos) (cSortSet a) :=
  (pe_callB (cr_sortedSet hc) hg1 hm1 (by decide +kernel) (pa_cons (pe_callTy (cr_setL hc) hg2 hm2 (by decide +kernel) (pa_cons ha pa_nil he) (by decide) (by decide) he rfl) pa_nil he2) (by decide) (by decide) he2 rfl).weak fun σ H Q h => by
    refine (tG.step (R' := RD X.K CT) h).mono fun v H1 h => ?_
    obtain ⟨A, F, mm, S, ρ, x, s, h2, h3, h4⟩ := h
    split at h4
    case h_2 => exact h4.elim
    rename_i ns e1
    split at h4
    case isFalse => exact h4.elim
    rename_i hl
    obtain ⟨ds, e2, e3⟩ := Option.bind_eq_some_iff.mp e1
    obtain ⟨l, vs, rfl, g1, g2⟩ := s.lstD e2 h3
    rw [intsOf_rep e3 g2] at g1
    refine ⟨l, ns, rfl, .inl (.inl g1), by omega, fun q c hcl hq => ?_⟩
    refine ⟨q, _, c, rfl, upd_same, by omega, fun ns' q2 hp hmem _ hq2 => ?_⟩
    have e : ns' = sortU ns := strict_unique hp (sortU_sorted ns) fun k => by rw [hmem k, mem_sortU]; exact decide_eq_true_iff
    subst e
    have s2 := s.free (o := SetO X.w q (fun k => decide (k ∈ ns)) c) hq
    have hlen : (sortU ns).length ≤ 64 := by
      have : ∀ ns : List Int, (sortU ns).length ≤ ns.length := fun ns => by
        have ins : ∀ (k : Int) (xs : List Int), (insU k xs).length ≤ xs.length + 1 := fun k xs => by
          induction xs with
          | nil => simp [insU]
          | cons x xs ih =>
            unfold insU
            split
            · simp
            · split
              · simp
              · simpa using ih
        induction ns with
        | nil => simp [sortU]
        | cons n ns ih =>
          have := ins n (sortU ns)
          show (insU n (sortU ns)).length ≤ _
          simp only [List.length_cons]
          omega
      have := this ns
      omega
    exact h4.new s2 (by rw [List.length_map, sizeLine_eq]; omega) (reps_ints _) q2 hq2

/-! ### starred items; sum of lists; max, min of a list; tuple(zip(..)); dict displays -/
def seqD' (S : Store) (x : D) : Option (List D) := seqD S x
def cStar (a : C D) (r : C (List D)) : C (List D) := thenC a fun ρ x S => match seqD S x with
  | some xs => bindO (r ρ S) fun ys S => ret (xs ++ ys) S
  | none => none
theorem da_star {e : Expr} {es : List Expr} {p : Pos} {a : C D} {r : C (List D)} (ha : DEx X CT W e a) (hr : DAx X CT W es r) (hs : starEach (.Starred e p :: es) X.env = (true, eval e X.env) :: starEach es X.env := by rfl) : DAx X CT W (.Starred e p :: es) (cStar a r) :=
  (StX.pa_star ha hr hs).weak fun σ H Q h => by
    refine (tG.step (R' := RD X.K CT) h).mono fun v H1 h => ?_
    obtain ⟨A, F, mm, S, ρ, x, s, h2, h3, h4⟩ := h
    split at h4
    case h_2 => exact h4.elim
    rename_i xs e1
    obtain ⟨q, vs, rfl, g1, g2⟩ := s.seqD e1 h3
    refine ⟨q, vs, rfl, g1.elim .inr .inl, A, F, mm, S, ρ, s, h2, ?_⟩
    refine Run.mono (Run.bind (R' := RL X.K CT) h4) fun ws H2 h => ?_
    obtain ⟨F', mm', ys, S', e, s', r, h⟩ := h
    exact h.now s' ((g2.ext e).append r)
def extI (f : Int → Int → Bool) : List Int → Option Int
  | [] => none
  | n :: ns => some (ns.foldl (fun m k => if f m k then k else m) n)
def kMaxL (x : D) (S : Store) : Ev D := match (lstD S x).bind intsOf with
  | some ns => match extI (fun m k => decide (m < k)) ns with
    | some m => ret (.int m) S
    | none => none
  | none => none
def kMinL (x : D) (S : Store) : Ev D := match (lstD S x).bind intsOf with
  | some ns => match extI (fun m k => decide (k < m)) ns with
    | some m => ret (.int m) S
    | none => none
  | none => none
theorem ext_max {n m : Int} : ∀ {ns : List Int}, (ns.foldl (fun m k => if decide (m < k) then k else m) n) = m → m ∈ n :: ns ∧ ∀ y ∈ n :: ns, y ≤ m
  | [], h => by
    have h : n = m := h
    subst h
    exact ⟨by simp, fun y hy => by simp at hy; omega⟩
  | k :: ns, h => by
    rw [List.foldl_cons] at h
    by_cases c : n < k
    · rw [decide_eq_true c, if_pos rfl] at h
      obtain ⟨h1, h2⟩ := ext_max (n := k) h
      refine ⟨by rcases List.mem_cons.mp h1 with z | z <;> simp [z], fun y hy => ?_⟩
      rcases List.mem_cons.mp hy with rfl | hy
      · have := h2 k (by simp); omega
      · exact h2 y hy
    · rw [decide_eq_false c, if_neg Bool.false_ne_true] at h
      obtain ⟨h1, h2⟩ := ext_max (n := n) h
      refine ⟨by rcases List.mem_cons.mp h1 with z | z <;> simp [z], fun y hy => ?_⟩
      rcases List.mem_cons.mp hy with rfl | hy
      · exact h2 y (by simp)
      · rcases List.mem_cons.mp hy with rfl | hy
        · have := h2 n (by simp); omega
        · exact h2 y (by simp [hy])
theorem ext_min {n m : Int} : ∀ {ns : List Int}, (ns.foldl (fun m k => if decide (k < m) then k else m) n) = m → m ∈ n :: ns ∧ ∀ y ∈ n :: ns, m ≤ y
  | [], h => by
    have h : n = m := h
    subst h
    exact ⟨by simp, fun y hy => by simp at hy; omega⟩
  | k :: ns, h => by
    rw [List.foldl_cons] at h
    by_cases c : k < n
    · rw [decide_eq_true c, if_pos rfl] at h
      obtain ⟨h1, h2⟩ := ext_min (n := k) h
      refine ⟨by rcases List.mem_cons.mp h1 with z | z <;> simp [z], fun y hy => ?_⟩
      rcases List.mem_cons.mp hy with rfl | hy
      · have := h2 k (by simp); omega
      · exact h2 y hy
    · rw [decide_eq_false c, if_neg Bool.false_ne_true] at h
      obtain ⟨h1, h2⟩ := ext_min (n := n) h
      refine ⟨by rcases List.mem_cons.mp h1 with z | z <;> simp [z], fun y hy => ?_⟩
      rcases List.mem_cons.mp hy with rfl | hy
      · exact h2 y (by simp)
      · rcases List.mem_cons.mp hy with rfl | hy
        · have := h2 n (by simp); omega
        · exact h2 y (by simp [hy])
theorem vl_maxL : VL X.K CT W (rMax X.K) (k1 kMaxL) := fun A F mm S H σ Q ds vs s r h => by
  obtain ⟨d, v, rfl, r, h⟩ := k1_case h r
  unfold kMaxL at h
  split at h
  case h_2 => exact h.elim
  rename_i ns e1
  split at h
  case h_2 => exact h.elim
  rename_i m e2
  obtain ⟨es, e3, e4⟩ := Option.bind_eq_some_iff.mp e1
  obtain ⟨a, us, rfl, h1, h2⟩ := s.lstD e3 r
  rw [intsOf_rep e4 h2] at h1
  cases ns with
  | nil => cases e2
  | cons n ns =>
    obtain ⟨k1, k2⟩ := ext_max (Option.some.inj e2)
    refine ⟨a, n :: ns, rfl, .inl (.inl h1), by simp, fun m' hm' hy => ?_⟩
    have : m' = m := by have a1 := hy m k1; have a2 := k2 m' hm'; omega
    subst this
    exact h.now s rfl
theorem vl_minL : VL X.K CT W (rMin X.K) (k1 kMinL) := fun A F mm S H σ Q ds vs s r h => by
  obtain ⟨d, v, rfl, r, h⟩ := k1_case h r
  unfold kMinL at h
  split at h
  case h_2 => exact h.elim
  rename_i ns e1
  split at h
  case h_2 => exact h.elim
  rename_i m e2
  obtain ⟨es, e3, e4⟩ := Option.bind_eq_some_iff.mp e1
  obtain ⟨a, us, rfl, h1, h2⟩ := s.lstD e3 r
  rw [intsOf_rep e4 h2] at h1
  cases ns with
  | nil => cases e2
  | cons n ns =>
    obtain ⟨k1, k2⟩ := ext_min (Option.some.inj e2)
    refine ⟨a, n :: ns, rfl, .inl (.inl h1), by simp, fun m' hm' hy => ?_⟩
    have : m' = m := by have a1 := hy m k1; have a2 := k2 m' hm'; omega
    subst this
    exact h.now s rfl
theorem de_dict0 {pos : Pos} : DEx X CT W (.Dict [] [] pos) (cK .dct) := pe_dnewK.weak fun σ H Q h => by
  obtain ⟨A, F, mm, S, ρ, s, h2, h3⟩ := h
  intro p hp
  exact h3 (upd F p (.dK [])) mm (upd H p (.dK [])) (.ref p) (Ext.fix (s.fresh hp).1) ((s.free hp).fix (s.freshA hp) (s.fresh hp).1 (s.fresh hp).2 upd_same) ⟨p, [], rfl, upd_same⟩
end
end DE

set_option Elab.async false
set_option linter.all false
set_option maxRecDepth 100000
set_option maxHeartbeats 4000000
/-! sum(xs, start): lists -/
namespace SL
open PySem PySem.Spec PyProof.Rows
theorem args_sum2 (a b : Value) : argsOk "sum" ⟨[a, b], []⟩ := by unfold argsOk; kernel_rfl
theorem sub_list_str : isSubtype (.type "list") (.type "str") = pure false := by rw [isSubtype_type]; kernel_rfl
theorem sub_list_bytes : isSubtype (.type "list") (.type "bytes") = pure false := by rw [isSubtype_type]; kernel_rfl
theorem sub_list_bytearray : isSubtype (.type "list") (.type "bytearray") = pure false := by rw [isSubtype_type]; kernel_rfl
abbrev lstO (vs : List Value) (n : Nat) : Obj := { cls := .type "list", data := .seq vs.toArray n }
section
variable {prog : Program} {w : World} {A : Around} {R : Result → Shared → Prop} {I : Addr} {fp wr : List Addr} {n : Nat} {P : Nat → Value → Prop} {St : Nat → Heap → Prop}
theorem sum_loop (W : Walks prog w A.in1 I fp wr n P St) (its : Nat → List Value) (ad : Nat → Addr) (hval : ∀ i v, P i v → v = .ref (ad i)) (S : Addr) (hSf : S ∉ fp) (hfS : ∀ b ∈ fp, b < S) :
    ∀ (k i : Nat) (s : Shared) (t : Addr) (c : Nat) (acc : List Value), n - i = k → i ≤ n → St i s.heap → s.heap.get? S = some { cls := .type "list", dict := none, data := .seq #[.ref t] c, slots := #[] } → (∃ m, s.heap.get? t = some (lstO acc m)) → t ∉ S :: wr → t ∉ fp →
    (∀ j, i ≤ j → j < n → ad j ∉ S :: wr ∧ ∃ m, s.heap.get? (ad j) = some (lstO (its j) m)) → acc.length + ((List.range n).drop i).foldr (fun j a => (its j).length + a) 0 ≤ sizeLine →
    (∀ h' tk t', (∀ b o, b ∉ S :: wr → s.heap.get? b = some o → h'.get? b = some o) → ((i = n ∧ t' = t) ∨ (i < n ∧ S < t')) → (∃ m, h'.get? t' = some (lstO (acc ++ ((List.range n).drop i).flatMap its) m)) → R (.ok (.ret (.ref t'))) { s with heap := h', toks := tk }) →
    codeAny (model prog w) A (.builtin "sum.loop" ⟨[.ref I, .ref S, rawInt 2, rawInt 0], []⟩) R s := by
  have hSw : S ∉ wr := fun h => hSf (W.sub _ h)
  intro k
  induction k with
  | zero =>
    intro i s t c acc hk hi hst hS ⟨m, ht⟩ htn htf hj hz hR
    have hin : i = n := by omega
    subst hin
    refine codeAny_builtin F.entry_sum_loop ?_
    rw [Around.under_plainId F.plain_sum_loop _]
    show wpAny _ A.in1 (seqItems? (.ref S) >>= _) _ _ s
    refine wpAny_bind (wpAny_seqItems hS rfl ?_)
    show wpAny _ A.in1 (tryCatch (pyNext (.ref I)) _ >>= _) _ _ s
    refine wpAny_bind (wpAny_tryCatch (W.done s _ _ hst fun h' tk hk' => ?_))
    refine wpAny_pure (hR h' tk t (fun b o hb e => hk' b o (fun z => hb (List.mem_cons_of_mem _ z)) e) (.inl ⟨rfl, rfl⟩) ⟨m, ?_⟩)
    have e : (List.range i).drop i = [] := by simp
    rw [e]
    simp only [List.flatMap_nil, List.append_nil]
    exact hk' t _ (fun z => htn (List.mem_cons_of_mem _ z)) ht
  | succ k ih =>
    intro i s t c acc hk hi hst hS ⟨m, ht⟩ htn htf hj hz hR
    have hlt : i < n := by omega
    refine codeAny_builtin F.entry_sum_loop ?_
    rw [Around.under_plainId F.plain_sum_loop _]
    show wpAny _ A.in1 (seqItems? (.ref S) >>= _) _ _ s
    refine wpAny_bind (wpAny_seqItems hS rfl ?_)
    show wpAny _ A.in1 (tryCatch (pyNext (.ref I)) _ >>= _) _ _ s
    refine wpAny_bind (wpAny_tryCatch (W.item i s _ _ hlt hst fun v h' tk hP hst' hk' => ?_))
    obtain rfl := hval i v hP
    have hS' := hk' S _ hSw hS
    have ht' := hk' t _ (fun z => htn (List.mem_cons_of_mem _ z)) ht
    obtain ⟨hn, m2, hb⟩ := hj i (Nat.le_refl _) hlt
    have hb' := hk' (ad i) _ (fun z => hn (List.mem_cons_of_mem _ z)) hb
    have hdr : (List.range n).drop i = i :: (List.range n).drop (i + 1) := by
      rw [List.drop_eq_getElem_cons (by simpa using hlt)]
      simp
    rw [hdr, List.foldr_cons] at hz
    show wpAny _ A.in1 ((holding [Value.ref (ad i)] (binaryOp .Add (.ref t) (.ref (ad i)))).attempt >>= _) _ _ _
    refine wpAny_bind (wpAny_attempt (wpAny_holding (PySem.P.add_list (s := { s with heap := h', toks := tk }) ht' hb' ?_ (by rw [List.size_toArray, List.size_toArray]; omega))))
    have hpS : (h'.push (lstO (acc ++ its i) 0)).get? S = some { cls := .type "list", dict := none, data := .seq #[.ref t] c, slots := #[] } := Heap.get?_push_of_some _ hS'
    have ea : acc.toArray ++ (its i).toArray = (acc ++ its i).toArray := by simp
    rw [ea]
    show wpAny _ A.in1 (updateSeq S (fun _ => #[.ref h'.objs.size]) >>= _) _ _ _
    refine wpAny_bind (wpAny_updateSeq hpS rfl ?_)
    have hS₂ := Heap.get?_update_self (Obj.mapSeq fun _ => #[Value.ref h'.objs.size]) hpS rfl
    refine wpAny_bind (wpAny_letGo ?_)
    refine wpAny_bind (wpAny_updateSeq hS₂ rfl ?_)
    have up1 : ∀ (hh : Heap) (b : Addr) (o : Obj) (f : Obj → Obj), b ≠ S → hh.get? b = some o → (hh.update S f).get? b = some o := fun hh b o f hne e => (Heap.get?_update_other _ _ (Ne.symm hne)).trans e
    have kp : ∀ b o, b ≠ S → h'.get? b = some o → ((((h'.push (lstO (acc ++ its i) 0)).update S (Obj.mapSeq fun _ => #[Value.ref h'.objs.size]))).update S (Obj.mapSeq fun _ => #[Value.ref h'.objs.size])).get? b = some o := fun b o hne e => up1 _ b o _ hne (up1 _ b o _ hne (Heap.get?_push_of_some _ e))
    have tS : h'.objs.size ≠ S := fun z => by
      have := Heap.lt_size hS'
      rw [← z] at this
      exact Nat.lt_irrefl _ this
    refine wpAny_pure ⟨plainId_quiet F.plain_sum_loop _, ih (i + 1) _ h'.objs.size _ (acc ++ its i) (by omega) hlt (W.frame _ _ _ hst' fun b hb o e => kp b o (fun z => hSf (by rw [← z]; exact hb)) e) (Heap.get?_update_self _ hS₂ rfl) ⟨0, up1 _ _ _ _ tS (up1 _ _ _ _ tS (Heap.get?_push_size _ rfl))⟩ (fun z => ?_) (fun z => ?_) (fun j h1 h2 => ?_) (by rw [List.length_append]; omega) fun h'' tk'' t'' hk'' hnew hfin => ?_⟩
    · rcases List.mem_cons.mp z with z | z
      · exact tS z
      · exact Nat.lt_asymm (hfS _ (W.sub _ z)) (Heap.lt_size hS')
    · exact Nat.lt_asymm (hfS _ z) (Heap.lt_size hS')
    · obtain ⟨q1, m3, q2⟩ := hj j (by omega) h2
      exact ⟨q1, m3, kp _ _ (fun z => q1 (by rw [z]; exact List.mem_cons_self)) (hk' _ _ (fun z => q1 (List.mem_cons_of_mem _ z)) q2)⟩
    · refine hR h'' tk'' t'' (fun b o hb e => hk'' b o hb (kp b o (fun z => hb (by rw [z]; exact List.mem_cons_self)) (hk' b o (fun z => hb (List.mem_cons_of_mem _ z)) e))) (.inr ⟨hlt, ?_⟩) ?_
      · rcases hnew with ⟨_, rfl⟩ | ⟨_, z⟩
        · exact Heap.lt_size hS'
        · exact z
      · rw [hdr, List.flatMap_cons, ← List.append_assoc]
        exact hfin
end
section
variable {prog : Program} {w : World} {A : Around} {E : Value → Shared → Prop} {s : Shared}
theorem call_sumL {x : Value} {t : Addr} {acc : List Value} {mt : Nat} {Q : Value → Shared → Prop} (ht : s.heap.get? t = some (lstO acc mt))
    (h : wpAny (model prog w) A.in1 (pyIter x) (fun it s₂ => ∃ (I : Addr) (fp wr : List Addr) (n : Nat) (P : Nat → Value → Prop) (St : Nat → Heap → Prop) (its : Nat → List Value) (ad : Nat → Addr), it = .ref I ∧ Walks prog w A.in1 I fp wr n P St ∧ St 0 s₂.heap ∧ (∀ b ∈ fp, b < s₂.heap.objs.size) ∧ (∀ i v, P i v → v = .ref (ad i)) ∧
      s₂.heap.get? t = some (lstO acc mt) ∧ t ∉ fp ∧ (∀ j, j < n → ad j ∉ wr ∧ ∃ m, s₂.heap.get? (ad j) = some (lstO (its j) m)) ∧ acc.length + (List.range n).foldr (fun j a => (its j).length + a) 0 ≤ sizeLine ∧
      ∀ h' tk t', (∀ b o, b ∉ wr → s₂.heap.get? b = some o → h'.get? b = some o) → ((n = 0 ∧ t' = t) ∨ (0 < n ∧ s₂.heap.objs.size < t')) → (∃ m, h'.get? t' = some (lstO (acc ++ (List.range n).flatMap its) m)) → Q (.ref t') { s₂ with heap := h', toks := tk }) E s) :
    wpAny (model prog w) A (call (.builtin "sum") [x, .ref t]) Q E s := by
  refine call_function_tree PySem.F.kind_sum PySem.F.plain_sum PySem.F.entry_sum (args_sum2 _ _) ?_
  unfold Builtin.«sum»
  simp only [List.length_cons, List.length_nil]
  rw [if_neg (by decide)]
  refine wpAny_bind (wpAny_of_eq (show Builtin.Builtins.bindParams "sum" ["start"] 0 ⟨[.ref t], []⟩ = pure [some (.ref t)] from rfl) ?_)
  refine wpAny_bind (wpAny_mono h (fun it s₂ h₂ => ?_) fun _ _ e => e)
  obtain ⟨I, fp, wr, n, P, St, its, ad, rfl, W, hst, hfp, hval, ht2, htf, hj, hz, hQ⟩ := h₂
  refine wpAny_bind (wpAny_pure ?_)
  simp only [List.forIn_cons, List.forIn_nil]
  have hT : s₂.TypeIs (.ref t) "list" := ⟨_, ht2, rfl⟩
  refine wpAny_bind (wpAny_bind (wpAny_bind (wpAny_isInstance (T := "list") (b := false) hT sub_list_str ?_)))
  simp only [Bool.false_eq_true, if_false]
  refine wpAny_pure (wpAny_bind (wpAny_bind (wpAny_isInstance (T := "list") (b := false) hT sub_list_bytes ?_)))
  simp only [Bool.false_eq_true, if_false]
  refine wpAny_pure (wpAny_bind (wpAny_bind (wpAny_isInstance (T := "list") (b := false) hT sub_list_bytearray ?_)))
  simp only [Bool.false_eq_true, if_false]
  refine wpAny_pure (wpAny_pure ?_)
  refine wpAny_bind (wpAny_newObj_type ?_)
  have hSf : s₂.heap.objs.size ∉ fp := fun hm => Nat.lt_irrefl _ (hfp _ hm)
  have hd : (List.range n).drop 0 = List.range n := List.drop_zero
  refine wpAny_pure ⟨plainId_quiet PySem.F.plain_sum_loop _, sum_loop W its ad hval s₂.heap.objs.size hSf hfp n 0 _ t 0 acc rfl (Nat.zero_le _)
    (W.frame _ _ _ hst fun b _ o e => Heap.get?_push_of_some _ e) (Heap.get?_push_size _ rfl) ⟨mt, Heap.get?_push_of_some _ ht2⟩ (fun z => ?_) htf (fun j _ h2 => ?_) (by rw [hd]; exact hz) fun h' tk t' hk hnew hfin => ?_⟩
  · rcases List.mem_cons.mp z with z | z
    · rw [z] at ht2
      exact Nat.lt_irrefl _ (Heap.lt_size ht2)
    · exact htf (W.sub _ z)
  · obtain ⟨q1, m, q2⟩ := hj j h2
    refine ⟨fun z => ?_, m, Heap.get?_push_of_some _ q2⟩
    rcases List.mem_cons.mp z with z | z
    · rw [z] at q2
      exact Nat.lt_irrefl _ (Heap.lt_size q2)
    · exact q1 z
  · rw [hd] at hfin
    refine hQ h' tk t' (fun b o hbw e => hk b o (fun z => ?_) (Heap.get?_push_of_some _ e)) (hnew.imp (fun z => ⟨z.1.symm, z.2⟩) id) hfin
    rcases List.mem_cons.mp z with z | z
    · rw [z] at e
      exact Nat.lt_irrefl _ (Heap.lt_size e)
    · exact hbw z
end
end SL
namespace DE
open PySem PySem.Spec PyProof.Rows L2
def rSumL : List V → Hp → VK → Prop := fun vs H Q => ∃ (a t : Addr) (xs ys : List V) (zss : List (List V)), vs = [.ref a, .ref t] ∧ a ≠ t ∧ H a = some (.lst xs) ∧ H t = some (.lst ys) ∧ Paired (fun x zs => ∃ b, x = .ref b ∧ H b = some (.lst zs)) xs zss ∧
  ys.length + (zss.map List.length).sum ≤ sizeLine ∧ (xs = [] → Q (.ref t) H) ∧ (xs ≠ [] → ∀ p, H p = none → Q (.ref p) (upd H p (.lst (ys ++ zss.flatten))))
theorem pairedGet {α β : Type} {R : α → β → Prop} : ∀ {xs : List α} {ys : List β}, Paired R xs ys → xs.length = ys.length ∧ ∀ (i : Nat) x y, xs[i]? = some x → ys[i]? = some y → R x y
  | _, _, .nil => ⟨rfl, fun i x y h _ => by simp at h⟩
  | _, _, .cons r t => by
    obtain ⟨l, g⟩ := pairedGet t
    refine ⟨by simp [l], fun i x y h1 h2 => ?_⟩
    cases i with
    | zero => simp at h1 h2; subst h1; subst h2; exact r
    | succ i => exact g i x y (by simpa using h1) (by simpa using h2)
theorem vals_flat (zs : Nat → List V) (its : Nat → List Value) : ∀ l : List Nat, (∀ j ∈ l, Vals (zs j) (its j)) → Vals (l.flatMap zs) (l.flatMap its)
  | [], _ => .nil
  | j :: l, h => by
    rw [List.flatMap_cons, List.flatMap_cons]
    exact (h j (by simp)).append (vals_flat zs its l fun k hk => h k (by simp [hk]))
theorem cr_sumL {X : Cx} (hc : X.calm = true) : CallR X (.builtin "sum") rSumL := by
  intro pins s σ H vs us Q I r h
  obtain ⟨a, t, xs, ys, zss, rfl, hat, ha, ht, hp, hz, q0, q1⟩ := h
  obtain ⟨u1, u2, rfl, r1, r2⟩ := vals2 r
  cases (show u1 = Value.ref a from r1)
  cases (show u2 = Value.ref t from r2)
  obtain ⟨hl, hg⟩ := pairedGet hp
  obtain ⟨_, itsA, nA, rA, gA⟩ := (show ObjOk X.prog X.w H s.heap a (.lst xs) from I.hok a _ ha)
  obtain ⟨_, itsT, nT, rT, gT⟩ := (show ObjOk X.prog X.w H s.heap t (.lst ys) from I.hok t _ ht)
  have lA := rA.length
  have sel : ∀ j : Nat, ∃ p : Addr × List Value, j < xs.length → itsA[j]? = some (.ref p.1) ∧ (∃ m, s.heap.get? p.1 = some (SL.lstO p.2 m)) ∧ Vals (zss.getD j []) p.2 := fun j => by
    by_cases hj : j < xs.length
    · obtain ⟨b, hb, hH⟩ := hg j _ _ (List.getElem?_eq_getElem hj) (List.getElem?_eq_getElem (by rw [← hl]; exact hj))
      obtain ⟨u, hu, ru⟩ := rA.get (List.getElem?_eq_getElem hj)
      rw [hb] at ru
      cases (show u = Value.ref b from ru)
      obtain ⟨_, its, m, rz, gz⟩ := (show ObjOk X.prog X.w H s.heap b (.lst _) from I.hok b _ hH)
      refine ⟨(b, its), fun _ => ⟨hu, ⟨m, gz⟩, ?_⟩⟩
      rw [List.getD_eq_getElem?_getD, List.getElem?_eq_getElem (by rw [← hl]; exact hj)]
      exact rz
    · exact ⟨(0, []), fun z => absurd z hj⟩
  obtain ⟨f, hf⟩ := Classical.axiomOfChoice sel
  have flat : ∀ (zss : List (List V)), (List.range zss.length).flatMap (fun j => zss.getD j []) = zss.flatten := fun zss => by
    have e : (List.range zss.length).map (fun j => zss.getD j []) = zss := by
      apply List.ext_getElem?
      intro i
      by_cases hi : i < zss.length
      · simp [List.getElem?_eq_getElem hi, List.getElem?_range hi]
      · simp [List.getElem?_eq_none (Nat.le_of_not_lt hi), List.getElem?_eq_none (show (List.range zss.length).length ≤ i by simpa using hi)]
    rw [List.flatMap_def, e]
  have lens : (List.range xs.length).foldr (fun j acc => (f j).2.length + acc) 0 = (zss.map List.length).sum := by
    have e1 : ∀ (l : List Nat), (∀ j ∈ l, j < xs.length) → l.foldr (fun j acc => (f j).2.length + acc) 0 = (l.map fun j => (zss.getD j []).length).sum := fun l => by
      induction l with
      | nil => intro _; rfl
      | cons j l ih =>
        intro hj
        rw [List.foldr_cons, List.map_cons, List.sum_cons, ih fun k hk => hj k (by simp [hk])]
        rw [(hf j (hj j (by simp))).2.2.length]
    rw [e1 _ fun j hj => List.mem_range.mp hj]
    congr 1
    apply List.ext_getElem?
    intro i
    by_cases hi : i < xs.length
    · have hi2 : i < zss.length := by rw [← hl]; exact hi
      simp [List.getElem?_eq_getElem hi2, List.getElem?_range hi]
    · have hi2 : zss.length ≤ i := by rw [← hl]; omega
      simp [List.getElem?_eq_none hi2, List.getElem?_eq_none (show (List.range xs.length).length ≤ i by simpa using hi)]
  refine SL.call_sumL gT (iter_any ⟨_, gA, rfl, nA, rfl⟩ fun s₂ e2 st hne => ?_)
  subst e2
  refine ⟨_, [s.heap.objs.size, a], [s.heap.objs.size], xs.length, fun i v => itsA.toArray[i]? = some v, fun i h => h.IsListIter s.heap.objs.size a i ∧ h.IsList a itsA.toArray, fun j => (f j).2, fun j => (f j).1, rfl, ?_, st, ?_, ?_, Heap.get?_push_of_some _ gT, ?_, ?_, ?_, ?_⟩
  · have W := Walks.list (prog := X.prog) (w := X.w) (A := X.A.in1) (I.ok.hd hc) s.heap.objs.size a hne itsA.toArray
    have e : itsA.toArray.size = xs.length := by rw [lA]; simp
    rw [e] at W
    exact W
  · intro b hb
    rw [Heap.size_push]
    rcases List.mem_cons.mp hb with rfl | hb
    · exact Nat.lt_succ_self _
    · rw [List.mem_singleton.mp hb]
      exact Nat.lt_succ_of_lt (Heap.lt_size gA)
  · intro i v hv
    have hi : i < xs.length := by
      rw [lA]
      have := (Array.getElem?_eq_some_iff.mp hv).1
      simpa using this
    have e := (hf i hi).1
    have hv' : itsA[i]? = some v := by simpa using hv
    rw [hv'] at e
    exact Option.some.inj e
  · intro z
    rcases List.mem_cons.mp z with z | z
    · have := Heap.lt_size gT
      rw [z] at this
      exact Nat.lt_irrefl _ this
    · exact hat (List.mem_singleton.mp z).symm
  · intro j hj
    obtain ⟨_, ⟨m, g⟩, _⟩ := hf j hj
    refine ⟨fun z => ?_, m, Heap.get?_push_of_some _ g⟩
    have h1 := Heap.lt_size g
    have h2 : (f j).1 = s.heap.objs.size := List.mem_singleton.mp z
    rw [h2] at h1
    exact Nat.lt_irrefl _ h1
  · rw [lens, ← rT.length]; exact hz
  · intro h' tk t' hk hnew hfin
    have kp : ∀ b o, s.heap.get? b = some o → h'.get? b = some o := fun b o e => hk b o (fun z => by
      have := Heap.lt_size e
      rw [List.mem_singleton.mp z] at this
      exact Nat.lt_irrefl _ this) (Heap.get?_push_of_some _ e)
    rcases hnew with ⟨hn, rfl⟩ | ⟨hpos, hn⟩
    · exact ⟨.ref t', H, I.kept (t' := tk) kp, rfl, q0 (List.eq_nil_of_length_eq_zero hn)⟩
    · have hs : s.heap.get? t' = none := by
        cases e : s.heap.get? t' with
        | none => rfl
        | some o =>
          have h1 := Heap.lt_size e
          rw [Heap.size_push] at hn
          exact absurd (Nat.lt_trans (Nat.lt_trans (Nat.lt_succ_self _) hn) h1) (Nat.lt_irrefl _)
      have nT := I.hok.gone hs
      by_cases hx : xs = []
      · subst hx
        exact absurd hpos (Nat.lt_irrefl _)
      · obtain ⟨m, g⟩ := hfin
        have vf : Vals (ys ++ zss.flatten) (itsT ++ (List.range xs.length).flatMap fun j => (f j).2) := by
          rw [← flat zss, ← hl]
          exact rT.append (vals_flat _ _ _ fun j hj => (hf j (List.mem_range.mp hj)).2.2)
        refine ⟨.ref t', upd H t' (.lst (ys ++ zss.flatten)), I.laidN (t' := tk) kp hs nT ⟨?_, _, _, vf, g⟩, rfl, q1 hx t' nT⟩
        rw [List.length_append, List.length_flatten]
        exact hz
end DE

set_option Elab.async false
set_option linter.all false
set_option maxRecDepth 100000
set_option maxHeartbeats 4000000
/-! tuple(zip(xs, ys)) of two lists -/
namespace TZ
open PySem
theorem zip_no_len : typeLookup (.type "zip") "__len__" = pure none := am_miss_of_fast (by decide +kernel)
theorem zip_no_hint : typeLookup (.type "zip") "__length_hint__" = pure none := am_miss_of_fast (by decide +kernel)
/-- where the zip stands before turn i: what was given out, and the tuple that was given out last -/
structure At (z TI TO i1 i2 l1 l2 : Addr) (xs ys : Array Value) (i : Nat) (acc : Array Value) (h : Heap) : Prop where
  st : (IsZip h z TI TO .none ∧ ∃ a b, IsPair h TO a b) ∨ ∃ (T : Addr) (f : Bool) (oT : Obj), IsZipHeld h z TI TO T f ∧ h.get? T = some oT ∧ T ≠ z ∧ T ≠ i1 ∧ T ≠ i2
  ti : IsPair h TI (.ref i1) (.ref i2)
  j1 : h.IsListIter i1 l1 i
  j2 : h.IsListIter i2 l2 i
  a1 : h.IsList l1 xs
  a2 : h.IsList l2 ys
  n : acc.size = i
  it : ∀ j, j < i → ∃ (T : Addr) (x y : Value), acc[j]? = some (Value.ref T) ∧ xs[j]? = some x ∧ ys[j]? = some y ∧ IsPair h T x y ∧ T ≠ z ∧ T ≠ TO ∧ T ≠ i1 ∧ T ≠ i2
section
variable {prog : Program} {w : World} {A : Around} {R : Result → Shared → Prop} {z TI TO i1 i2 l1 l2 : Addr} {xs ys : Array Value}
theorem At.move {i : Nat} {acc : Array Value} {h h' : Heap} {S : Addr} (a : At z TI TO i1 i2 l1 l2 xs ys i acc h) (k : ∀ b o, b ≠ S → h.get? b = some o → h'.get? b = some o) (hz : z ≠ S) (hTI : TI ≠ S) (hTO : TO ≠ S) (h1 : i1 ≠ S) (h2 : i2 ≠ S) (e1 : l1 ≠ S) (e2 : l2 ≠ S)
    (hT : ∀ T f, IsZipHeld h z TI TO T f → T ≠ S) (hI : ∀ (j : Nat) (T : Addr), acc[j]? = some (Value.ref T) → T ≠ S) : At z TI TO i1 i2 l1 l2 xs ys i acc h' := by
  refine ⟨?_, k _ _ hTI a.ti, a.j1.at fun o q => k _ o h1 q, a.j2.at fun o q => k _ o h2 q, a.a1.at fun o q => k _ o e1 q, a.a2.at fun o q => k _ o e2 q, a.n, fun j hj => ?_⟩
  · rcases a.st with ⟨q, x, y, q2⟩ | ⟨T, f, oT, q, q2, q3⟩
    · exact .inl ⟨k _ _ hz q, x, y, k _ _ hTO q2⟩
    · exact .inr ⟨T, f, oT, k _ _ hz q, k _ _ (hT T f q) q2, q3⟩
  · obtain ⟨T, x, y, q1, q2, q3, q4, q5⟩ := a.it j hj
    exact ⟨T, x, y, q1, q2, q3, k _ _ (hI j T q1) q4, q5⟩
theorem loop (hh : A.in1.handled = none) (D : ZipApart z TI TO i1 i2 l1 l2) (S : Addr) (hS0 : z < S ∧ TI < S ∧ TO < S ∧ i1 < S ∧ i2 < S ∧ l1 < S ∧ l2 < S) (res : Value) (hn : min xs.size ys.size ≤ sizeLine) (dis : l1 ≠ z ∧ l1 ≠ TO ∧ l1 ≠ i1 ∧ l1 ≠ i2 ∧ l2 ≠ z ∧ l2 ≠ TO ∧ l2 ≠ i1 ∧ l2 ≠ i2 ∧ TI ≠ z ∧ TI ≠ TO ∧ TI ≠ i1 ∧ TI ≠ i2) :
    ∀ (k i : Nat) (s : Shared) (acc : Array Value) (c : Nat), min xs.size ys.size - i = k → i ≤ min xs.size ys.size → At z TI TO i1 i2 l1 l2 xs ys i acc s.heap → s.heap.get? S = some { cls := .type "list", dict := none, data := .seq acc c, slots := #[] } →
    (∀ (j : Nat) (T : Addr), acc[j]? = some (Value.ref T) → S < T) → (∀ T f, IsZipHeld s.heap z TI TO T f → S < T) →
    (∀ (h' : Heap) acc' c', (∀ b o, b ≠ S → b ≠ z → b ≠ TO → b ≠ i1 → b ≠ i2 → s.heap.get? b = some o → h'.get? b = some o) → h'.get? S = some { cls := .type "list", dict := none, data := .seq acc' c', slots := #[] } → acc'.size = min xs.size ys.size →
      (∀ j, j < min xs.size ys.size → ∃ (T : Addr) (x y : Value), acc'[j]? = some (Value.ref T) ∧ xs[j]? = some x ∧ ys[j]? = some y ∧ IsPair h' T x y ∧ S < T) → R (.ok (.ret res)) { s with heap := h' }) →
    codeAny (model prog w) A (.builtin "list.extend.loop" ⟨[.ref S, .ref z, res], []⟩) R s := by
  obtain ⟨sz, sTI, sTO, s1, s2, sl1, sl2⟩ := hS0
  obtain ⟨d1, d2, d3, d4, d5, d6, d7, d8, d9, d10, d11, d12⟩ := dis
  intro k
  induction k with
  | zero =>
    intro i s acc c hk hi a hS hI hT hR
    have hin : i = min xs.size ys.size := by omega
    refine codeAny_builtin F.entry_extend_loop ?_
    rw [Around.under_plainId F.plain_extend_loop _]
    show wpAny _ A.in1 (pyNext (.ref z) >>= _) _ _ s
    have hend : xs[i]? = none ∨ ys[i]? = none := by
      rcases Nat.le_total xs.size ys.size with q | q
      · exact .inl (Array.getElem?_eq_none (by omega))
      · exact .inr (Array.getElem?_eq_none (by omega))
    have fin : ∀ h' : Heap, (∀ b o, b ≠ z → b ≠ TO → b ≠ i1 → b ≠ i2 → s.heap.get? b = some o → h'.get? b = some o) → R (.ok (.ret res)) { s with heap := h' } := fun h' kp => by
      refine hR h' acc c (fun b o _ q1 q2 q3 q4 e => kp b o q1 q2 q3 q4 e) (kp _ _ (Nat.ne_of_gt sz) (Nat.ne_of_gt sTO) (Nat.ne_of_gt s1) (Nat.ne_of_gt s2) hS) (by rw [a.n, hin]) fun j hj => ?_
      obtain ⟨T, x, y, q1, q2, q3, q4, q5, q6, q7, q8⟩ := a.it j (by omega)
      exact ⟨T, x, y, q1, q2, q3, kp _ _ q5 q6 q7 q8 q4, hI j T q1⟩
    rcases a.st with ⟨hz, x, y, hTO⟩ | ⟨T, f, oT, hz, hTg, _⟩
    · exact wpAny_bind (wpAny_pyNext_zip_end hh D hz a.ti hTO a.j1 a.j2 a.a1 a.a2 hend fun h' kp => wpAny_pure (fin h' kp))
    · exact wpAny_bind (wpAny_pyNext_zip_end_held hh D hz hTg a.ti a.j1 a.j2 a.a1 a.a2 hend fun h' kp => wpAny_pure (fin h' fun b o q1 _ q3 q4 e => kp b o q1 q3 q4 e))
  | succ k ih =>
    intro i s acc c hk hi a hS hI hT hR
    have hx : i < xs.size := by omega
    have hy : i < ys.size := by omega
    refine codeAny_builtin F.entry_extend_loop ?_
    rw [Around.under_plainId F.plain_extend_loop _]
    show wpAny _ A.in1 (pyNext (.ref z) >>= _) _ _ s
    have hSl := Heap.lt_size hS
    -- one more was given out: the list takes it
    have go : ∀ (h' : Heap) (T0 : Addr) (f : Bool) (o0 : Obj), IsZipHeld h' z TI TO T0 f → S < T0 → h'.get? T0 = some o0 → T0 ≠ z → T0 ≠ i1 → T0 ≠ i2 → h'.IsListIter i1 l1 (i + 1) → h'.IsListIter i2 l2 (i + 1) → IsPair h' s.heap.objs.size xs[i] ys[i] → (∀ b o, b ≠ z → b ≠ TO → b ≠ i1 → b ≠ i2 → s.heap.get? b = some o → h'.get? b = some o) →
        wpAny (model prog w) A.in1 (updateSeq S (·.push (.ref s.heap.objs.size)) >>= fun _ => again (.builtin "list.extend.loop" ⟨[.ref S, .ref z, res], []⟩)) (fun fin s' => match fin with | .done f => R (.ok f) s' | .again c' => c'.quiet = true ∧ codeAny (model prog w) A c' R s') (fun e s' => R (.error e) s') { s with heap := h' } := by
      intro h' T0 f o0 hz' hST hT0 t1 t2 t3 hj1 hj2 hp kp
      have hS' := kp S _ (Nat.ne_of_gt sz) (Nat.ne_of_gt sTO) (Nat.ne_of_gt s1) (Nat.ne_of_gt s2) hS
      refine wpAny_bind ?_
      have up : ∀ b o, b ≠ S → h'.get? b = some o → (h'.update S (Obj.mapSeq (·.push (Value.ref s.heap.objs.size)))).get? b = some o := fun b o hb e => (Heap.get?_update_other _ _ (Ne.symm hb)).trans e
      have nT : s.heap.objs.size ≠ z ∧ s.heap.objs.size ≠ TO ∧ s.heap.objs.size ≠ i1 ∧ s.heap.objs.size ≠ i2 := ⟨Nat.ne_of_gt (Nat.lt_trans sz hSl), Nat.ne_of_gt (Nat.lt_trans sTO hSl), Nat.ne_of_gt (Nat.lt_trans s1 hSl), Nat.ne_of_gt (Nat.lt_trans s2 hSl)⟩
      have nS : s.heap.objs.size ≠ S := Nat.ne_of_gt hSl
      have nz : z ≠ S := Nat.ne_of_lt sz
      refine wpAny_updateSeq hS' rfl (wpAny_pure ⟨plainId_quiet F.plain_extend_loop _, ih (i + 1) _ (acc.push (.ref s.heap.objs.size)) _ (by omega) (by omega) ?_ (Heap.get?_update_self _ hS' rfl) (fun j T e => ?_) (fun T f' e => ?_) fun h'' acc' c' kp2 hS2 hsz hall => ?_⟩)
        (by rw [a.n]; omega) (by show (acc.push _).size ≤ sizeLine + 1; rw [Array.size_push, a.n]; omega)
      · refine ⟨.inr ⟨T0, f, _, up _ _ nz hz', up _ _ (Nat.ne_of_gt hST) hT0, t1, t2, t3⟩, up _ _ (Nat.ne_of_lt sTI) (kp _ _ d9 d10 d11 d12 a.ti), hj1.at fun o q => up _ o (Nat.ne_of_lt s1) q, hj2.at fun o q => up _ o (Nat.ne_of_lt s2) q,
          a.a1.at fun o q => up _ o (Nat.ne_of_lt sl1) (kp _ o d1 d2 d3 d4 q), a.a2.at fun o q => up _ o (Nat.ne_of_lt sl2) (kp _ o d5 d6 d7 d8 q), by rw [Array.size_push, a.n], fun j hj => ?_⟩
        by_cases hji : j < i
        · obtain ⟨T, x, y, q1, q2, q3, q4, q5, q6, q7, q8⟩ := a.it j hji
          exact ⟨T, x, y, by rw [Array.getElem?_push_lt (by rw [a.n]; exact hji), ← q1, Array.getElem?_eq_getElem (by rw [a.n]; exact hji)], q2, q3, up _ _ (Nat.ne_of_gt (hI j T q1)) (kp _ _ q5 q6 q7 q8 q4), q5, q6, q7, q8⟩
        · have hj' : j = i := by omega
          subst hj'
          refine ⟨s.heap.objs.size, xs[j], ys[j], ?_, Array.getElem?_eq_getElem hx, Array.getElem?_eq_getElem hy, up _ _ nS hp, nT.1, nT.2.1, nT.2.2.1, nT.2.2.2⟩
          have : (acc.push (Value.ref s.heap.objs.size))[acc.size]? = some (Value.ref s.heap.objs.size) := Array.getElem?_push_size
          rw [a.n] at this
          exact this
      · by_cases hj : j < acc.size
        · rw [Array.getElem?_push_lt hj] at e
          exact hI j T (by rw [Array.getElem?_eq_getElem hj]; exact e)
        · by_cases hj2 : j = acc.size
          · subst hj2
            rw [Array.getElem?_push_size] at e
            cases e
            exact hSl
          · rw [Array.getElem?_eq_none (by rw [Array.size_push]; omega)] at e
            cases e
      · have e2 := up _ _ nz hz'
        have e' : (h'.update S (Obj.mapSeq (·.push (Value.ref s.heap.objs.size)))).get? z = _ := e
        rw [e2] at e'
        have e3 := congrArg Obj.data (Option.some.inj e')
        simp [rawInt] at e3
        have e4 : T0 = T := Int.ofNat_inj.mp e3.1
        rw [← e4]
        exact hST
      · refine hR h'' acc' c' (fun b o q1 q2 q3 q4 q5 e => kp2 b o q1 q2 q3 q4 q5 (up _ _ q1 (kp b o q2 q3 q4 q5 e))) hS2 hsz hall
    have ex : xs[i]? = some xs[i] := Array.getElem?_eq_getElem hx
    have ey : ys[i]? = some ys[i] := Array.getElem?_eq_getElem hy
    rcases a.st with ⟨hz, x, y, hTO⟩ | ⟨T, f, oT, hz, hTg, t1, t2, t3⟩
    · exact wpAny_bind (wpAny_pyNext_zip_item D hz a.ti hTO a.j1 a.j2 a.a1 a.a2 ex ey fun h' q1 q2 q3 q4 q5 _ kp => go h' s.heap.objs.size false _ q1 hSl q5 (Nat.ne_of_gt (Nat.lt_trans sz hSl)) (Nat.ne_of_gt (Nat.lt_trans s1 hSl)) (Nat.ne_of_gt (Nat.lt_trans s2 hSl)) q3 q4 q5 kp)
    · exact wpAny_bind (wpAny_pyNext_zip_item_held D hz hTg a.ti a.j1 a.j2 a.a1 a.a2 ex ey fun h' q1 q3 q4 q5 _ kp => go h' T true oT q1 (hT T f hz) (kp T oT t1 t2 t3 hTg) t1 t2 t3 q3 q4 q5 fun b o w1 _ w3 w4 e => kp b o w1 w3 w4 e)
end
section
variable {prog : Program} {w : World} {A : Around} {E : Value → Shared → Prop} {s : Shared} {z TI TO i1 i2 l1 l2 : Addr} {xs ys : Array Value}
/-- what a zip gave out -/
def Out (xs ys : Array Value) (h0 h' : Heap) (acc : Array Value) : Prop := acc.size = min xs.size ys.size ∧ ∀ j, j < min xs.size ys.size → ∃ (T : Addr) (x y : Value), acc[j]? = some (Value.ref T) ∧ xs[j]? = some x ∧ ys[j]? = some y ∧ IsPair h' T x y ∧ h0.objs.size ≤ T
theorem collect_zip {Q : List Value → Shared → Prop} (hh : A.handled = none) (D : ZipApart z TI TO i1 i2 l1 l2) (dis : l1 ≠ z ∧ l1 ≠ TO ∧ l1 ≠ i1 ∧ l1 ≠ i2 ∧ l2 ≠ z ∧ l2 ≠ TO ∧ l2 ≠ i1 ∧ l2 ≠ i2 ∧ TI ≠ z ∧ TI ≠ TO ∧ TI ≠ i1 ∧ TI ≠ i2) (hn : min xs.size ys.size ≤ sizeLine)
    (a : At z TI TO i1 i2 l1 l2 xs ys 0 #[] s.heap) (hz : IsZip s.heap z TI TO .none)
    (hQ : ∀ (h' : Heap) (acc : Array Value), (∀ b o, b ≠ z → b ≠ TO → b ≠ i1 → b ≠ i2 → s.heap.get? b = some o → h'.get? b = some o) → Out xs ys s.heap h' acc → Q acc.toList { s with heap := h' }) : wpAny (model prog w) A (collect (.ref z)) Q E s := by
  obtain ⟨a0, b0, hTO⟩ : ∃ a b, IsPair s.heap TO a b := by
    rcases a.st with q | ⟨T, f, oT, q, _⟩
    · exact q.2
    · have q' := hz.symm.trans q
      have e3 := congrArg Obj.data (Option.some.inj q')
      simp [rawInt] at e3
  have lt : ∀ b, (∃ o, s.heap.get? b = some o) → b < s.heap.objs.size := fun b ⟨o, e⟩ => Heap.lt_size e
  obtain ⟨o1, e1, _⟩ := id a.j1
  obtain ⟨o2, e2, _⟩ := id a.j2
  obtain ⟨o3, e3, _⟩ := id a.a1
  obtain ⟨o4, e4, _⟩ := id a.a2
  have hS0 : z < s.heap.objs.size ∧ TI < s.heap.objs.size ∧ TO < s.heap.objs.size ∧ i1 < s.heap.objs.size ∧ i2 < s.heap.objs.size ∧ l1 < s.heap.objs.size ∧ l2 < s.heap.objs.size := ⟨Heap.lt_size hz, Heap.lt_size a.ti, Heap.lt_size hTO, Heap.lt_size e1, Heap.lt_size e2, Heap.lt_size e3, Heap.lt_size e4⟩
  have hSI : s.heap.objs.size ≠ z := Nat.ne_of_gt hS0.1
  unfold collect
  refine wpAny_bind (wpAny_runValue (codeAny_builtin F.entry_proto_collect ?_))
  rw [Around.under_plainId F.plain_proto_collect _]
  show wpAny _ A.in1 (newList [] >>= fun l => again (.builtin "list.__iadd__" ⟨[l, .ref z], []⟩)) _ _ s
  refine wpAny_bind (wpAny_newObj_type ?_)
  refine wpAny_pure ⟨plainId_quiet F.plain_list_iadd _, codeAny_builtin F.entry_list_iadd ?_⟩
  rw [Around.under_plainId F.plain_list_iadd _]
  have hz₁ : IsZip (s.heap.push { cls := .type "list", data := .seq ([] : List Value).toArray }) z TI TO .none := Heap.get?_push_of_some _ hz
  have hT₁ : Shared.TypeIs { s with heap := s.heap.push { cls := .type "list", data := .seq ([] : List Value).toArray } } (.ref z) "zip" := ⟨_, hz₁, rfl⟩
  show wpAny _ A.in1 (Builtin.List.listExtendWith (.ref s.heap.objs.size) (.ref z) (.ref s.heap.objs.size)) _ _ _
  unfold Builtin.List.listExtendWith
  refine wpAny_bind (wpAny_typeOf hT₁ ?_)
  have h1 : Builtin.List.listSameRef (.ref s.heap.objs.size) (.ref z) = false := by simp [Builtin.List.listSameRef, hSI]
  have h2 : (Value.type "zip" == Value.type "list") = false := by decide
  have h3 : (Value.type "zip" == Value.type "tuple") = false := by decide
  simp only [h1, h2, h3, Bool.or_false, Bool.false_eq_true, if_false]
  refine wpAny_bind (wpAny_pyIter_zip hz₁ ?_)
  refine wpAny_bind (wpAny_holding ?_)
  unfold Builtin.List.listLengthHint
  refine wpAny_bind (wpAny_specialOf hT₁ zip_no_len ?_)
  show wpAny _ A.in1 (specialOf (Value.ref z) (Str.ofString "__length_hint__") >>= _) _ _ _
  refine wpAny_bind (wpAny_specialOf hT₁ zip_no_hint ?_)
  refine wpAny_pure ?_
  show wpAny _ A.in1 (rule "list.extend.makes-room" >>= fun _ => Builtin.List.listTouch (.ref s.heap.objs.size) >>= fun _ =>
    again (.builtin "list.extend.loop" ⟨[.ref s.heap.objs.size, .ref z, .ref s.heap.objs.size], []⟩)) _ _ _
  refine wpAny_bind (wpAny_rule ?_)
  have hS₁ : (s.heap.push { cls := .type "list", data := .seq ([] : List Value).toArray }).get? s.heap.objs.size = some { cls := .type "list", data := .seq ([] : List Value).toArray } := Heap.get?_push_size _ rfl
  refine wpAny_bind ?_
  show wpAny _ A.in1 (updateSeq s.heap.objs.size (·.push .none) >>= fun _ => updateSeq s.heap.objs.size (·.pop)) _ _ _
  refine wpAny_bind (wpAny_updateSeq hS₁ rfl ?_)
  have hS₂ := Heap.get?_update_self (Obj.mapSeq (·.push Value.none)) hS₁ rfl
  refine wpAny_updateSeq hS₂ rfl ?_
  have hS₃ := Heap.get?_update_self (Obj.mapSeq (·.pop)) hS₂ rfl
  have oth : ∀ b o, b ≠ s.heap.objs.size → (s.heap.push { cls := .type "list", data := .seq ([] : List Value).toArray }).get? b = some o →
      (((s.heap.push { cls := .type "list", data := .seq ([] : List Value).toArray }).update s.heap.objs.size (Obj.mapSeq (·.push Value.none))).update s.heap.objs.size (Obj.mapSeq (·.pop))).get? b = some o :=
    fun b o hb e => (Heap.get?_update_other _ _ (Ne.symm hb)).trans ((Heap.get?_update_other _ _ (Ne.symm hb)).trans e)
  have kp0 : ∀ b o, s.heap.get? b = some o → (((s.heap.push { cls := .type "list", data := .seq ([] : List Value).toArray }).update s.heap.objs.size (Obj.mapSeq (·.push Value.none))).update s.heap.objs.size (Obj.mapSeq (·.pop))).get? b = some o := fun b o e => oth b o (Nat.ne_of_lt (Heap.lt_size e)) (Heap.get?_push_of_some _ e)
  refine wpAny_pure ⟨plainId_quiet F.plain_extend_loop _, loop hh D s.heap.objs.size hS0 (.ref s.heap.objs.size) hn dis _ 0 _ #[] _ rfl (Nat.zero_le _) ⟨.inl ⟨kp0 _ _ hz, a0, b0, kp0 _ _ hTO⟩, kp0 _ _ a.ti, a.j1.at fun o q => kp0 _ o q, a.j2.at fun o q => kp0 _ o q, a.a1.at fun o q => kp0 _ o q, a.a2.at fun o q => kp0 _ o q, rfl, fun j hj => absurd hj (Nat.not_lt_zero _)⟩ hS₃ (fun j T e => by simp at e) (fun T f e => ?_) fun h' acc' c' kp hS' hsz hall => ?_⟩
  · have e' := (show (((s.heap.push { cls := .type "list", data := .seq ([] : List Value).toArray }).update s.heap.objs.size (Obj.mapSeq (·.push Value.none))).update s.heap.objs.size (Obj.mapSeq (·.pop))).get? z = _ from kp0 _ _ hz).symm.trans e
    have e3 := congrArg Obj.data (Option.some.inj e')
    simp [rawInt] at e3
  · show wpAny _ A (load s.heap.objs.size >>= _) _ _ _
    refine wpAny_bind (wpAny_load hS' ?_)
    refine wpAny_pure (hQ h' acc' (fun b o q1 q2 q3 q4 e => kp b o (Nat.ne_of_lt (Heap.lt_size e)) q1 q2 q3 q4 (kp0 b o e)) ⟨hsz, fun j hj => ?_⟩)
    obtain ⟨T, x, y, q1, q2, q3, q4, q5⟩ := hall j hj
    exact ⟨T, x, y, q1, q2, q3, q4, Nat.le_of_lt q5⟩
theorem code_new {Q₁ : Value → Shared → Prop} (hh : A.handled = none) (D : ZipApart z TI TO i1 i2 l1 l2) (dis : l1 ≠ z ∧ l1 ≠ TO ∧ l1 ≠ i1 ∧ l1 ≠ i2 ∧ l2 ≠ z ∧ l2 ≠ TO ∧ l2 ≠ i1 ∧ l2 ≠ i2 ∧ TI ≠ z ∧ TI ≠ TO ∧ TI ≠ i1 ∧ TI ≠ i2) (hn : min xs.size ys.size ≤ sizeLine)
    (a : At z TI TO i1 i2 l1 l2 xs ys 0 #[] s.heap) (hz : IsZip s.heap z TI TO .none)
    (h : ∀ (h' : Heap) (acc : Array Value), (∀ b o, b ≠ z → b ≠ TO → b ≠ i1 → b ≠ i2 → s.heap.get? b = some o → h'.get? b = some o) → Out xs ys s.heap h' acc → Q₁ (.ref h'.objs.size) { s with heap := h'.push { cls := .type "tuple", data := .seq acc } }) :
    codeAny (model prog w) A (.call (.builtin "tuple.__new__") ⟨[.type "tuple", .ref z], []⟩) (wants Q₁ E) s := by
  refine codeAny_of_tree ?_
  show wpAny _ A.in1 (do checkBuiltinCall "tuple.__new__" ⟨[.type "tuple", .ref z], []⟩; again (.builtin "tuple.__new__" ⟨[.type "tuple", .ref z], []⟩)) _ _ s
  refine wpAny_bind (wpAny_of_eq (F.newCall_tuple_1 _) (wpAny_pure ⟨plainId_quiet F.plain_tuple_new _, codeAny_builtin F.entry_tuple_new ?_⟩))
  rw [Around.under_plainId F.plain_tuple_new _]
  have hsub := sub_tuple_self
  have hinit := init_tuple_lookup
  have hmh := madeHere_tuple
  have hTI : s.TypeIs (.ref z) "zip" := ⟨_, hz, rfl⟩
  have hh1 : A.in1.handled = none := hh
  wp_walk using wpAny_typeOf hTI, collect_zip (A := A.in1) hh1 D dis hn a hz
  intro h' acc hk hacc
  show wpAny _ _ (Builtin.Tuple.tupleExact acc.toList.toArray >>= fun v => ret v) _ _ _
  unfold Builtin.Tuple.tupleExact
  refine wpAny_bind (wpAny_newObj_type ?_ (by show acc.toList.toArray.size ≤ sizeLine; simp only [Array.toArray_toList]; rw [hacc.1]; exact hn))
  refine wpAny_pure ?_
  have e : acc.toList.toArray = acc := by simp
  rw [e]
  exact h h' acc hk hacc
theorem call_tuple_zip {Q : Value → Shared → Prop} (hh : A.handled = none) (D : ZipApart z TI TO i1 i2 l1 l2) (dis : l1 ≠ z ∧ l1 ≠ TO ∧ l1 ≠ i1 ∧ l1 ≠ i2 ∧ l2 ≠ z ∧ l2 ≠ TO ∧ l2 ≠ i1 ∧ l2 ≠ i2 ∧ TI ≠ z ∧ TI ≠ TO ∧ TI ≠ i1 ∧ TI ≠ i2) (hn : min xs.size ys.size ≤ sizeLine)
    (a : At z TI TO i1 i2 l1 l2 xs ys 0 #[] s.heap) (hz : IsZip s.heap z TI TO .none)
    (hQ : ∀ (h' : Heap) (acc : Array Value), (∀ b o, b ≠ z → b ≠ TO → b ≠ i1 → b ≠ i2 → s.heap.get? b = some o → h'.get? b = some o) → Out xs ys s.heap h' acc → Q (.ref h'.objs.size) { s with heap := h'.push { cls := .type "tuple", data := .seq acc } }) :
    wpAny (model prog w) A (call (.type "tuple") [.ref z]) Q E s := by
  refine callType_codes (Q₁ := fun obj s₁ => s₁.TypeIs obj "tuple" ∧ Q obj s₁) F.called_tuple (F.typeCall_tuple_1 _) F.entry_object_init
    (code_new (A := A.in1) hh D dis hn a hz fun h' acc hk hacc => ⟨⟨_, Heap.get?_push_size _ rfl, rfl⟩, hQ h' acc hk hacc⟩) fun obj s₁ h₁ => ?_
  exact ⟨h₁.1, F.args_object_init_2 obj _, object_init_meets F.called_tuple.init.lookup F.called_tuple.made (by decide) prog w A.in1 _ s₁ ⟨h₁.1, rfl, h₁.2⟩⟩
end
end TZ

set_option Elab.async false
set_option linter.all false
set_option maxRecDepth 100000
set_option maxHeartbeats 4000000
set_option autoImplicit false
namespace DE
open PySem PySem.Spec PyProof.Rows L2
/-! ### many objects laid at once -/
theorem laidMany {X : Cx} {pins : List (Addr × Obj)} {σ : L2.St} {H H2 : Hp} {s : Shared} {h' : Heap} {t' : Nat} (I : Inv X pins σ H s) (k : ∀ b u, s.heap.get? b = some u → h'.get? b = some u) (hold : ∀ b, (∃ u, s.heap.get? b = some u) ∨ (∃ o, H b = some o) → H2 b = H b)
    (hnew : ∀ b o, H2 b = some o → H b = some o ∨ ObjOk X.prog X.w H2 h' b o) : Inv X pins σ H2 { s with heap := h', toks := t' } := by
  refine I.un (⟨fun b u q _ _ _ => k b u q, fun b u q _ _ _ => ⟨u.slots, k b u q⟩, fun b u q n _ => by rw [hold b (.inl ⟨u, q⟩)]; exact n, fun b u q _ => ⟨u, k b u q⟩, fun b xs q => by rw [hold b (.inr ⟨_, q⟩)]; exact q, fun b u xs q => by rw [hold b (.inr ⟨_, q⟩)]; exact q, fun b ps q => ⟨#[], by rw [hold b (.inr ⟨_, q⟩), q]; simp⟩⟩) fun b o e => ?_
  rcases hnew b o e with h | h
  · exact (I.hok b o h).stay (fun c v _ q => k c v q) (fun c q => by rw [hold c (.inr ⟨_, q⟩)]; exact q) fun c xs q => by rw [hold c (.inr ⟨_, q⟩)]; exact q
  · exact h
def absAt (h : Heap) (b : Addr) : HO := match h.get? b with
  | some o => (match o.data with
    | .seq vs _ => .tup (vs.toList.filterMap absV)
    | _ => .tup [])
  | none => .tup []
/-- the new tuples of pairs at Ts, the tuple of them at p -/
structure Pairs (H1 H2 : Hp) (xs ys : List V) (Ts : List Addr) (p : Addr) : Prop where
  len : Ts.length = min xs.length ys.length
  it : ∀ (j : Nat) (T : Addr), Ts[j]? = some T → H1 T = none ∧ ∃ x y, xs[j]? = some x ∧ ys[j]? = some y ∧ H2 T = some (.tup [x, y])
  np : H1 p = none
  at_ : H2 p = some (.tup (Ts.map V.ref))
  old : ∀ b o, H1 b = some o → H2 b = some o
  new : ∀ b o, H2 b = some o → H1 b = some o ∨ b = p ∨ b ∈ Ts
def tTupZip (K : PySem.W.Frag) (ta : TA) : TE := fun σ H Q => ta σ H fun vs H1 => ∃ a b xs ys, vs = [.ref a, .ref b] ∧ SqL K H1 a xs ∧ SqL K H1 b ys ∧ ∀ (Ts : List Addr) (p : Addr) (H2 : Hp), Pairs H1 H2 xs ys Ts p → Q (.ref p) H2
theorem boot_tuple : bootBuiltins "tuple" = some (.type "tuple") := by decide +kernel
theorem boot_zip : bootBuiltins "zip" = some (.type "zip") := by decide +kernel
theorem pe_tupZip {X : Cx} {e1 e2 : Expr} {ta : TA} {p p2 pos pos2 : Pos} (hc : X.calm = true) (hg : Gl X "tuple") (hm : X.mg "tuple" = none) (hg2 : Gl X "zip") (hm2 : X.mg "zip" = none) (ha : PA X [e1, e2] ta)
    (hs1 : starEach [.Call (.Name "zip" p2) [e1, e2] [] pos2] X.env = (false, eval (.Call (.Name "zip" p2) [e1, e2] [] pos2) X.env) :: starEach [] X.env := by rfl) (hs : starEach [e1, e2] X.env = (false, eval e1 X.env) :: starEach [e2] X.env := by rfl) (hpl : (backTo pos2 (starEach [e2] X.env)).any (·.1) = false := by rfl) :
    PE X (.Call (.Name "tuple" p) [.Call (.Name "zip" p2) [e1, e2] [] pos2] [] pos) (tTupZip X.K ta) := by
  refine ⟨fun pins s σ H Q I h => ?_⟩
  refine wpAny_Call_Name_kw (ld_blt I hg hm boot_tuple ?_ (by decide) (by decide))
  refine PyProof.Rows.callWith_type1 ?_ hs1 rfl
  rw [hs1]
  show wpAny _ _ (spliced ((false, eval (.Call (.Name "zip" p2) [e1, e2] [] pos2) X.env) :: backTo pos (starEach [] X.env))) _ _ s
  refine Calls.spliced_cons ?_
  refine wpAny_Call_Name_kw (ld_blt I hg2 hm2 boot_zip ?_ (by decide) (by decide))
  refine PyProof.Rows.callWith_type1 (thn (ha.run pos2 pins s σ H _ I h) fun us s1 ⟨vs, H1, I1, r, a, b, xs, ys, ev, hx, hy, q⟩ => ?_) hs hpl
  subst ev
  obtain ⟨u1, u2, rfl, r1, r2⟩ := vals2 r
  cases (show u1 = Value.ref a from r1)
  cases (show u2 = Value.ref b from r2)
  obtain ⟨its, rv, pl, hz⟩ := I1.list hx
  obtain ⟨its2, rv2, pl2, hz2⟩ := I1.list hy
  have la := rv.length
  have lb := rv2.length
  refine call_zip_2 pl.isList pl2.isList fun h1 z1 z2 z3 z4 z5 hsz kp => ?_
  refine Calls.spliced_nil ?_
  have e : ∀ m n : Nat, m ≠ n → s1.heap.objs.size + m ≠ s1.heap.objs.size + n := fun m n h => by omega
  have al : ∀ (c : Addr) (m : Nat), (∃ o, s1.heap.get? c = some o) → c ≠ s1.heap.objs.size + m := fun c m ⟨o, ho⟩ => Nat.ne_of_lt (Nat.lt_of_lt_of_le (Heap.lt_size ho) (Nat.le_add_right _ _))
  obtain ⟨oa, ea, _⟩ := id pl.isList
  obtain ⟨ob, eb, _⟩ := id pl2.isList
  have D : ZipApart (s1.heap.objs.size + 4) (s1.heap.objs.size + 2) (s1.heap.objs.size + 3) s1.heap.objs.size (s1.heap.objs.size + 1) a b :=
    { TIz := e 2 4 (by decide), TOz := e 3 4 (by decide), i1z := e 0 4 (by decide), i2z := e 1 4 (by decide), TITO := e 2 3 (by decide), TIi1 := e 2 0 (by decide), TIi2 := e 2 1 (by decide), TOi1 := e 3 0 (by decide), TOi2 := e 3 1 (by decide), i12 := e 0 1 (by decide),
      l1z := al a 4 ⟨_, ea⟩, l1TO := al a 3 ⟨_, ea⟩, l1i1 := al a 0 ⟨_, ea⟩, l1i2 := al a 1 ⟨_, ea⟩, l2z := al b 4 ⟨_, eb⟩, l2TO := al b 3 ⟨_, eb⟩, l2i1 := al b 0 ⟨_, eb⟩, l2i2 := al b 1 ⟨_, eb⟩ }
  refine TZ.call_tuple_zip (xs := its.toArray) (ys := its2.toArray) (I1.ok.hd hc) D ⟨al a 4 ⟨_, ea⟩, al a 3 ⟨_, ea⟩, al a 0 ⟨_, ea⟩, al a 1 ⟨_, ea⟩, al b 4 ⟨_, eb⟩, al b 3 ⟨_, eb⟩, al b 0 ⟨_, eb⟩, al b 1 ⟨_, eb⟩, e 2 4 (by decide), e 2 3 (by decide), e 2 0 (by decide), e 2 1 (by decide)⟩
    (by rw [List.size_toArray]; omega) ⟨.inl ⟨z1, _, _, z3⟩, z2, z4, z5, pl.isList.at fun o q => kp _ o q, pl2.isList.at fun o q => kp _ o q, rfl, fun j hj => absurd hj (Nat.not_lt_zero _)⟩ z1 fun h2 acc kp2 ⟨hn, hall⟩ => ?_
  have kA : ∀ c o, s1.heap.get? c = some o → h2.get? c = some o := fun c o q => kp2 c o (al c 4 ⟨_, q⟩) (al c 3 ⟨_, q⟩) (al c 0 ⟨_, q⟩) (al c 1 ⟨_, q⟩) (kp c o q)
  rw [List.size_toArray, List.size_toArray] at hn hall
  -- the new tuples' places
  have sel : ∀ j : Nat, ∃ T : Addr, j < min its.length its2.length → acc[j]? = some (Value.ref T) ∧ (∃ x y, its[j]? = some x ∧ its2[j]? = some y ∧ IsPair h2 T x y) ∧ s1.heap.objs.size ≤ T ∧ T < h2.objs.size := fun j => by
    by_cases hj : j < min its.length its2.length
    · obtain ⟨T, x, y, q1, q2, q3, q4, q5⟩ := hall j hj
      have q5 : h1.objs.size ≤ T := q5
      exact ⟨T, fun _ => ⟨q1, ⟨x, y, by simpa using q2, by simpa using q3, q4⟩, by rw [hsz] at q5; exact Nat.le_trans (Nat.le_add_right _ _) q5, Heap.lt_size q4⟩⟩
    · exact ⟨0, fun z => absurd z hj⟩
  obtain ⟨f, hf⟩ := Classical.axiomOfChoice sel
  have fresh : ∀ T : Addr, s1.heap.objs.size ≤ T → H1 T = none := fun T hT => I1.hok.fresh hT
  -- the heap with them
  have hn' : acc.size = min its.length its2.length := by simpa using hn
  have accE : acc.toList = ((List.range (min its.length its2.length)).map f).map Value.ref := by
    apply List.ext_getElem?
    intro j
    by_cases hj : j < min its.length its2.length
    · rw [Array.getElem?_toList, (hf j hj).1]
      simp [List.getElem?_range hj]
    · rw [Array.getElem?_toList, Array.getElem?_eq_none (by omega)]
      simp [List.getElem?_eq_none (show (List.range (min its.length its2.length)).length ≤ j by simpa using hj)]
  generalize hTs : (List.range (min its.length its2.length)).map f = Ts at accE
  have mTs : ∀ T ∈ Ts, ∃ j, j < min its.length its2.length ∧ f j = T := fun T hT => by
    rw [← hTs] at hT
    obtain ⟨j, hj, rfl⟩ := List.mem_map.mp hT
    exact ⟨j, List.mem_range.mp hj, rfl⟩
  have tT : ∀ T ∈ Ts, s1.heap.objs.size ≤ T ∧ T < h2.objs.size := fun T hT => by
    obtain ⟨j, hj, rfl⟩ := mTs T hT
    exact (hf j hj).2.2
  have pr : ∀ j, j < min its.length its2.length → ∃ x y, xs[j]? = some x ∧ ys[j]? = some y ∧ absAt h2 (f j) = .tup [x, y] ∧ ∃ u v, IsPair h2 (f j) u v ∧ RelV x u ∧ RelV y v := fun j hj => by
    obtain ⟨_, ⟨u, v, g1, g2, g3⟩, _⟩ := hf j hj
    have hx' : j < xs.length := by omega
    have hy' : j < ys.length := by omega
    obtain ⟨u', k1, k2⟩ := rv.get (List.getElem?_eq_getElem hx')
    obtain ⟨v', k3, k4⟩ := rv2.get (List.getElem?_eq_getElem hy')
    rw [g1] at k1; cases k1
    rw [g2] at k3; cases k3
    refine ⟨_, _, List.getElem?_eq_getElem hx', List.getElem?_eq_getElem hy', ?_, u, v, g3, k2, k4⟩
    unfold absAt
    rw [g3]
    show HO.tup (List.filterMap absV [u, v]) = _
    simp [List.filterMap, k2.abs, k4.abs]
  have lTs : Ts.length = min its.length its2.length := by rw [← hTs]; simp
  have szp : s1.heap.objs.size ≤ h2.objs.size := by
    have h3 : (h2.get? (s1.heap.objs.size + 2)).isSome = true := by rw [kp2 _ _ (e 2 4 (by decide)) (e 2 3 (by decide)) (e 2 0 (by decide)) (e 2 1 (by decide)) z2]; rfl
    obtain ⟨o, ho⟩ := Option.isSome_iff_exists.mp h3
    exact Nat.le_trans (Nat.le_add_right _ _) (Nat.le_of_lt (Heap.lt_size ho))
  have pT : h2.objs.size ∉ Ts := fun hT => Nat.lt_irrefl _ (tT _ hT).2
  refine ⟨.ref h2.objs.size, fun b => if b = h2.objs.size then some (.tup (Ts.map V.ref)) else if b ∈ Ts then some (absAt h2 b) else H1 b, ?_, rfl, q Ts h2.objs.size _ ⟨by rw [lTs, la, lb], fun j T hj => ?_, fresh _ szp, if_pos rfl, fun b o hb => ?_, fun b o hb => ?_⟩⟩
  · refine laidMany (s := s1) (t' := s1.toks) I1 (fun b u e => Heap.get?_push_of_some _ (kA b u e)) (fun b hb => ?_) (fun b o hb => ?_)
    · have hlt : b < s1.heap.objs.size := by
        rcases hb with ⟨u, e⟩ | ⟨o, e⟩
        · exact Heap.lt_size e
        · exact Nat.lt_of_not_le fun z => by rw [fresh b z] at e; cases e
      rw [if_neg (Nat.ne_of_lt (Nat.lt_of_lt_of_le hlt szp)), if_neg fun hT => Nat.lt_irrefl _ (Nat.lt_of_lt_of_le hlt (tT b hT).1)]
    · by_cases h1' : b = h2.objs.size
      · subst h1'
        rw [if_pos rfl] at hb
        cases hb
        have rT : Vals (Ts.map V.ref) (Ts.map Value.ref) := by
          have : ∀ l : List Addr, Vals (l.map V.ref) (l.map Value.ref) := fun l => by
            induction l with
            | nil => exact .nil
            | cons c l ih => exact .cons rfl ih
          exact this Ts
        refine .inr ⟨by rw [List.length_map, lTs]; omega, _, rT, ⟨_, Heap.get?_push_size _ rfl, rfl, 0, ?_⟩⟩
        show Data.seq acc 0 = _
        rw [← accE]
      · rw [if_neg h1'] at hb
        by_cases hT : b ∈ Ts
        · rw [if_pos hT] at hb
          cases hb
          obtain ⟨j, hj, rfl⟩ := mTs b hT
          obtain ⟨x, y, _, _, g3, u, v, g4, g5, g6⟩ := pr j hj
          rw [g3]
          exact .inr ⟨line2, [u, v], .cons g5 (.cons g6 .nil), ⟨_, Heap.get?_push_of_some _ g4, rfl, 0, rfl⟩⟩
        · rw [if_neg hT] at hb
          exact .inl hb
  · have hjl : j < min its.length its2.length := by rw [← lTs]; exact (List.getElem?_eq_some_iff.mp hj).1
    have ej : T = f j := by
      rw [← hTs, List.getElem?_map, List.getElem?_range hjl] at hj
      exact (Option.some.inj hj).symm
    have hm : T ∈ Ts := List.mem_of_getElem? hj
    refine ⟨fresh _ (tT T hm).1, ?_⟩
    obtain ⟨x, y, g1, g2, g3, _⟩ := pr j hjl
    refine ⟨x, y, g1, g2, ?_⟩
    have nz : ¬ T = h2.objs.size := fun z => pT (by rw [← z]; exact hm)
    show (if T = h2.objs.size then _ else if T ∈ Ts then some (absAt h2 T) else H1 T) = _
    rw [if_neg nz, if_pos hm, ej, g3]
  · have hlt : b < s1.heap.objs.size := Nat.lt_of_not_le fun z => by rw [fresh b z] at hb; cases hb
    rw [if_neg (Nat.ne_of_lt (Nat.lt_of_lt_of_le hlt szp)), if_neg fun hT => Nat.lt_irrefl _ (Nat.lt_of_lt_of_le hlt (tT b hT).1)]
    exact hb
  · by_cases h1' : b = h2.objs.size
    · exact .inr (.inl h1')
    · by_cases hT : b ∈ Ts
      · exact .inr (.inr hT)
      · rw [if_neg h1', if_neg hT] at hb
        exact .inl hb
end DE

set_option Elab.async false
set_option linter.all false
set_option maxRecDepth 100000
set_option maxHeartbeats 4000000
set_option autoImplicit false
namespace DE
open PySem PySem.Spec PyProof.Rows L2
/-! ### tuple(zip(a, b)) -/
theorem Sim.pairs {K : PySem.W.Frag} {CT : Cfg} {A : Asd} {F : Hp} {mm : List Addr} {S : Store} {H1 H2 : Hp} {xs ys : List V} {Ts : List Addr} {p : Addr} (s : Sim K CT A F mm S H1) (P : Pairs H1 H2 xs ys Ts p) :
    ∃ F', DE.Ext F mm F' mm ∧ Sim K CT A F' mm S H2 ∧ (∀ b, b = p ∨ b ∈ Ts → F' b = H2 b) := by
  have nw : ∀ b, (b = p ∨ b ∈ Ts) → H1 b = none := fun b hb => by
    rcases hb with rfl | hb
    · exact P.np
    · obtain ⟨j, hj⟩ := List.mem_iff_getElem?.mp hb
      exact (P.it j b hj).1
  have nwF : ∀ b, (b = p ∨ b ∈ Ts) → F b = none := fun b hb => (s.fresh (nw b hb)).1
  have nt2 : ∀ b o, (b = p ∨ b ∈ Ts) → H2 b = some o → NoTbl o := fun b o hb e => by
    rcases hb with rfl | hb
    · rw [P.at_] at e; cases e; exact fun _ z => nomatch z
    · obtain ⟨j, hj⟩ := List.mem_iff_getElem?.mp hb
      obtain ⟨_, x, y, _, _, h⟩ := P.it j b hj
      rw [h] at e; cases e; exact fun _ z => nomatch z
  have key : ∀ b o, H1 b = some o → ¬ (b = p ∨ b ∈ Ts) := fun b o e h => by rw [nw b h] at e; cases e
  refine ⟨fun b => if b = p ∨ b ∈ Ts then H2 b else F b, ⟨fun b o e => ?_, fun _ _ h => h⟩, ⟨fun b o e => ?_, fun b o e => ?_, s.len, s.nd, fun b m => ?_, fun n c e => ?_, tabs_keep s.ast fun b u e _ _ => P.old b u e, s.ntx, fun b o e => ?_⟩, fun b h => if_pos h⟩
  · show (if b = p ∨ b ∈ Ts then H2 b else F b) = _
    rw [if_neg (key b o (s.fz b o e))]; exact e
  · obtain ⟨h1, h2, h3⟩ := s.asd b o e
    exact ⟨P.old b o h1, (if_neg (key b o h1)).trans h2, h3⟩
  · by_cases h : b = p ∨ b ∈ Ts
    · exact (if_pos h).symm.trans e
    · exact P.old b o (s.fz b o ((if_neg h).symm.trans e))
  · obtain ⟨o, h1, h2⟩ := s.trk b m
    exact ⟨o, P.old b o h1, h2⟩
  · obtain ⟨b, h1, h2, o, h3, h4⟩ := s.live n c e
    refine ⟨b, h1, (if_neg (key b o h3)).trans h2, o, P.old b o h3, h4.ext ⟨fun b o e => ?_, fun _ _ h => h⟩⟩
    show (if b = p ∨ b ∈ Ts then H2 b else F b) = _
    rw [if_neg (key b o (s.fz b o e))]; exact e
  · by_cases h : b = p ∨ b ∈ Ts
    · exact nt2 b o h ((if_pos h).symm.trans e)
    · exact s.nt b o ((if_neg h).symm.trans e)
def cTupZip (c : C (List D)) : C D := thenC c fun _ ds S => match ds with
  | [x, y] => match lstD S x, lstD S y with
    | some xs, some ys => if xs.length ≤ 1000 then ret (.tup (pairsD xs ys)) S else none
    | _, _ => none
  | _ => none
theorem reps_of {K : PySem.W.Frag} {CT : Cfg} {F : Hp} {mm : List Addr} : ∀ {ds : List D} {vs : List V}, ds.length = vs.length → (∀ (i : Nat) d v, ds[i]? = some d → vs[i]? = some v → Rep K CT F mm d v) → Reps K CT F mm ds vs
  | [], [], _, _ => rfl
  | [], _ :: _, h, _ => by simp at h
  | _ :: _, [], h, _ => by simp at h
  | d :: ds, v :: vs, h, g => ⟨v, vs, rfl, g 0 d v rfl rfl, reps_of (by simpa using h) fun i d v h1 h2 => g (i + 1) d v (by simpa using h1) (by simpa using h2)⟩
section
variable {X : Cx} {CT : Cfg} {W : WX} {e1 e2 : Expr} {c : C (List D)} {p p2 pos pos2 : Pos}
theorem de_tupZip (hc : X.calm = true) (hm : X.mg "tuple" = none) (hm2 : X.mg "zip" = none) (ha : DAx X CT W [e1, e2] c) (hg : Gl X "tuple" := by rfl) (hg2 : Gl X "zip" := by rfl)
    (hs1 : starEach [.Call (.Name "zip" p2) [e1, e2] [] pos2] X.env = (false, eval (.Call (.Name "zip" p2) [e1, e2] [] pos2) X.env) :: starEach [] X.env := by rfl) (hs : starEach [e1, e2] X.env = (false, eval e1 X.env) :: starEach [e2] X.env := by rfl) (hpl : (backTo pos2 (starEach [e2] X.env)).any (·.1) = false := by rfl) :
    DEx X CT W (.Call (.Name "tuple" p) [.Call (.Name "zip" p2) [e1, e2] [] pos2] [] pos) (cTupZip c) := (pe_tupZip hc hg hm hg2 hm2 ha hs1 hs hpl).weak fun σ H Q h => by
  refine (tG.step (R' := RL X.K CT) h).mono fun vs H1 h => ?_
  obtain ⟨A, F, mm, S, ρ, ds, s, h2, h3, h4⟩ := h
  split at h4
  case h_2 => exact h4.elim
  rename_i x y
  obtain ⟨v, r, rfl, r1, w, r', rfl, r2, r3⟩ := h3
  rw [show r' = [] from r3]
  split at h4
  case h_2 => exact h4.elim
  rename_i xs ys q1 q2
  split at h4
  case isFalse => exact h4.elim
  rename_i hl
  obtain ⟨a, us, rfl, g1, g2⟩ := s.lstD q1 r1
  obtain ⟨b, ws, rfl, g3, g4⟩ := s.lstD q2 r2
  have l1 := g2.length
  have l2 := g4.length
  refine ⟨a, b, us, ws, rfl, .inl (.inl g1), .inl (.inl g3), fun Ts p H2 P => ?_⟩
  obtain ⟨F', eF, s', hF⟩ := s.pairs P
  have lp : (pairsD xs ys).length = Ts.length := by
    unfold pairsD
    rw [List.length_map, List.length_zip, l1, l2, P.len]
  refine h4 F' mm H2 (.ref p) eF s' ⟨p, Ts.map V.ref, rfl, by rw [lp, P.len, sizeLine_eq]; omega, .inl (.inl ((hF p (.inl rfl)).trans P.at_)), reps_of (by rw [lp, List.length_map]) fun i d v e1 e2 => ?_⟩
  obtain ⟨x, y, k1, k2, rfl⟩ := pairsD_get e1
  rw [List.getElem?_map] at e2
  obtain ⟨T, e3, rfl⟩ := Option.map_eq_some_iff.mp e2
  obtain ⟨_, vx, vy, j1, j2, j3⟩ := P.it i T e3
  obtain ⟨vx', m1, m2⟩ := g2.get k1
  obtain ⟨vy', m3, m4⟩ := g4.get k2
  rw [j1] at m1; cases m1
  rw [j2] at m3; cases m3
  exact ⟨T, [vx, vy], rfl, line2, .inl (.inl ((hF T (.inr (List.mem_of_getElem? e3))).trans j3)), vx, [vy], rfl, m2.ext eF, vy, [], rfl, m4.ext eF, rfl⟩

/-! ### zip as an iterable -/
def cZip (c : C (List D)) : C (List D) := thenC c fun _ ds S => match ds with
  | [.lst xs, .lst ys] => ret (pairsD xs ys) S
  | [.tup xs, .tup ys] => ret (pairsD xs ys) S
  | _ => none
theorem di_zip {elts : List Expr} {kk : Nat} {tpos : Pos} (hm : X.mg "zip" = none) (ha : DAx X CT W [e1, e2] c) (hg : Gl X "zip" := by rfl) (hs : starEach [e1, e2] X.env = (false, eval e1 X.env) :: starEach [e2] X.env := by rfl) (hs2 : (backTo pos (starEach [e2] X.env)).any (·.1) = false := by rfl) :
    DIx X CT W (.Tuple elts kk tpos) (.Call (.Name "zip" p) [e1, e2] [] pos) (cZip c) := (RZ.pi_zipA hg hm ha hs hs2).weak fun σ H Q h => by
  refine (tG.step (R' := RL X.K CT) h).mono fun vs H1 h => ?_
  obtain ⟨A, F, mm, S, ρ, ds, s, h2, h3, h4⟩ := h
  split at h4
  · rename_i xs ys
    obtain ⟨v, r, rfl, ⟨a, us, rfl, _, g1, g2⟩, w, r', rfl, ⟨b, ws, rfl, _, g3, g4⟩, r3⟩ := h3
    rw [show r' = [] from r3]
    exact ⟨a, b, us, ws, rfl, .inl ⟨.inl (.inl (s.fz _ _ g1)), .inl (.inl (s.fz _ _ g3)), h4.now s (it_zipL (.inl (.inl g1)) (.inl (.inl g3)) g2 g4)⟩⟩
  · rename_i xs ys
    obtain ⟨v, r, rfl, ⟨a, us, rfl, _, g1, g2⟩, w, r', rfl, ⟨b, ws, rfl, _, g3, g4⟩, r3⟩ := h3
    rw [show r' = [] from r3]
    exact ⟨a, b, us, ws, rfl, .inr ⟨s.sqt g1, s.sqt g3, h4.now s (it_zipT g1 g3 g2 g4)⟩⟩
  · exact h4.elim

/-! ### sum(xs, start) -/
def lstsD (S : Store) : List D → Option (List (List D))
  | [] => some []
  | d :: ds => match lstD S d, lstsD S ds with
    | some x, some xs => some (x :: xs)
    | _, _ => none
def kSumL (x y : D) (S : Store) : Ev D := match y with
  | .lst (.int n :: es) => match (lstD S x).bind (lstsD S) with
    | some xss => if es.length + 1 + (xss.map List.length).sum ≤ 1000 then ret (.lst (.int n :: es ++ xss.flatten)) S else none
    | none => none
  | _ => none
theorem lstsD_rep {K : PySem.W.Frag} {A : Asd} {F : Hp} {mm : List Addr} {S : Store} {H : Hp} (s : Sim K CT A F mm S H) : ∀ {ds : List D} {vs : List V} {xss : List (List D)}, lstsD S ds = some xss → Reps K CT F mm ds vs →
    ∃ zss, Paired (fun x zs => ∃ b, x = V.ref b ∧ H b = some (.lst zs)) vs zss ∧ zss.map List.length = xss.map List.length ∧ Reps K CT F mm xss.flatten zss.flatten
  | [], vs, xss, e, r => by cases e; rw [show vs = [] from r]; exact ⟨[], .nil, rfl, rfl⟩
  | d :: ds, vs, xss, e, ⟨v, r, h1, h2, h3⟩ => by
    unfold lstsD at e
    split at e
    · rename_i x xs e1 e2
      cases e
      obtain ⟨zss, g1, g2, g3⟩ := lstsD_rep s e2 h3
      obtain ⟨b, us, rfl, g4, g5⟩ := s.lstD e1 h2
      rw [h1]
      exact ⟨us :: zss, .cons ⟨b, rfl, g4⟩ g1, by simp [g2, g5.length], g5.append g3⟩
    · cases e
theorem vl_sumL : VL X.K CT W rSumL (k2 kSumL) := fun A F mm S H σ Q ds vs s r h => by
  obtain ⟨x, v, y, w, rfl, r1, r2, h⟩ := k2_case h r
  unfold kSumL at h
  split at h
  case h_2 => exact h.elim
  rename_i n es
  split at h
  case h_2 => exact h.elim
  rename_i xss e1
  split at h
  case isFalse => exact h.elim
  rename_i hl
  obtain ⟨ds, e2, e3⟩ := Option.bind_eq_some_iff.mp e1
  obtain ⟨a, us, rfl, g1, g2⟩ := s.lstD e2 r1
  obtain ⟨t, ws, rfl, hz, g3, g4⟩ := id r2
  obtain ⟨zss, k1, k2, k3⟩ := lstsD_rep s e3 g2
  have g3' := s.fz _ _ g3
  have hw := g4.length
  have nat : a ≠ t := fun z => by
    subst z
    rw [g1] at g3'
    cases g3'
    obtain ⟨v0, r0, hv, hv2, _⟩ := g4
    subst hv
    cases k1 with
    | cons h0 _ =>
      obtain ⟨b, e, _⟩ := h0
      rw [show v0 = .int n from hv2] at e
      cases e
  refine ⟨a, t, us, ws, zss, rfl, nat, g1, g3', k1, by rw [← hw, k2, sizeLine_eq]; simp at hl ⊢; omega, fun hu => ?_, fun hu q hq => ?_⟩
  · subst hu
    cases k1
    have hx : xss = [] := by
      have := congrArg List.length k2
      simp at this
      exact List.eq_nil_of_length_eq_zero this.symm
    subst hx
    simp only [List.flatten_nil, List.append_nil] at h
    exact h.now s r2
  · have hn := (s.fresh hq).1
    have eF : DE.Ext F mm (upd F q (.lst (ws ++ zss.flatten))) mm := Ext.fix hn
    exact h (upd F q (.lst (ws ++ zss.flatten))) mm _ (.ref q) eF ((s.free hq).fix (s.freshA hq) hn (s.fresh hq).2 upd_same) ⟨q, _, rfl, by rw [List.length_append, List.length_flatten, sizeLine_eq]; simp at hl ⊢; omega, upd_same, (g4.append k3).ext eF⟩
end
end DE

set_option Elab.async false
set_option linter.all false
set_option maxRecDepth 100000
set_option maxHeartbeats 4000000
set_option autoImplicit false
namespace DE
open PySem PySem.Spec PyProof.Rows L2
/-! ### defs with defaults; calls with keywords alone -/
section
variable {P : Program} {w : World} {K : PySem.W.Frag} {mg : Str → Option Value} {base : Heap} {CT : Cfg}
theorem fn_bodyD {x qual : Str} {params : Arguments} {body : List Stmt} {scope : Scope} {dvs : List V} {kws : List (Str × V)} {f : Addr} {fd : FuncData} {N ps : List Str} {k n : Nat} {c : CS} (FF : FunD K x qual params body scope dvs kws f fd) (SS : FnScope N ps scope) (hn : ps.length = n)
    (hbody : ∀ (cdv : Value) (A : Around) (outer : List Env) (s : Shared) (H : Hp) (E : XK), Room k (A.deeper (envOfC qual scope s.heap.objs.size f cdv)) →
      DBx (cxOf (L2.CX P w) P w K mg base N qual scope f cdv A outer s H E) CT (fun cls d _ H => E cls d H) body c) :
    FnOk P w K mg base (L2.CX P w) (k + 1) f fd ps (spD K CT n (runDef N n c)) := by
  refine FF.ok SS (fun vs H Q E h => ?_) (fun cdv A outer s H vs Q E hr h => ⟨_, hbody cdv A outer s H E hr, ?_⟩)
  · rw [hn]; exact h.1
  · obtain ⟨hl, A, F, mm, S, ds, s, r, h⟩ := h
    unfold runDef at h
    have e := r.length
    rw [if_pos (by rw [e]; exact hl)] at h
    refine ⟨A, F, mm, S, startD N ds, s, start_rep r, ?_⟩
    generalize c (startD N ds) S = o at h
    match o, h with
    | some (.go (.rt d) ρ S'), h => exact fun F' mm' H' σ' e s r v rv => h F' mm' H' v e s rv
    | some (.go .nx ρ S'), h => exact fun F' mm' H' σ' e s r => h F' mm' H' .non e s rfl
    | some (.ex x ρ S'), h => exact fun F' mm' H' σ' cls d e s r xr => h F' mm' H' cls d e s xr
end
/-- the keywords' values in the parameters' order -/
def arD (ar : List Nat) (ds : List D) : List D := ar.map fun i => ds.getD i .non
def arV (ar : List Nat) (vs : List V) : List V := ar.map fun i => vs.getD i .non
theorem Reps.ar {K : PySem.W.Frag} {CT : Cfg} {F : Hp} {mm : List Addr} {ds : List D} {vs : List V} (r : Reps K CT F mm ds vs) (ar : List Nat) : Reps K CT F mm (arD ar ds) (arV ar vs) := by
  have hl := r.length
  induction ar with
  | nil => rfl
  | cons i ar ih =>
    refine ⟨_, _, rfl, ?_, ih⟩
    show Rep K CT F mm (ds.getD i D.non) (vs.getD i V.non)
    by_cases hi : i < ds.length
    · obtain ⟨v, q, g⟩ := r.get (List.getElem?_eq_getElem hi)
      rw [List.getD_eq_getElem?_getD, List.getElem?_eq_getElem hi, List.getD_eq_getElem?_getD, q]
      exact g
    · rw [List.getD_eq_getElem?_getD, List.getElem?_eq_none (Nat.le_of_not_lt hi), List.getD_eq_getElem?_getD, List.getElem?_eq_none (by omega)]
      rfl
/-- how keywords ks bind behind n given values -/
def KwB (K : PySem.W.Frag) (fd : FuncData) (ps : List Str) (n : Nat) (ks : List Str) (ar : List Nat) : Prop := ∃ g gV, KBn K fd ps n ks g gV ∧ ∀ vs zs : List V, vs.length = n → zs.length = ks.length → gV vs zs = vs ++ arV ar zs
theorem kwb_plain {K : PySem.W.Frag} {fd : FuncData} {ps ks : List Str} {n : Nat} (ar : List Nat) (h : ∀ us ws : List Value, us.length = n → ws.length = ks.length → bindArgs fd ⟨us, ks.zip ws⟩ = pure (ps.zip (us ++ ar.map fun i => ws.getD i .none))) : KwB K fd ps n ks ar := by
  refine ⟨fun us ws => us ++ ar.map fun i => ws.getD i .none, fun vs zs => vs ++ arV ar zs, ⟨fun s us ws _ l1 l2 => BindsTo.of_eq (h us ws l1 l2), fun {vs us zs ws} r1 r2 => r1.append ?_⟩, fun _ _ _ _ => rfl⟩
  have hl := r2.length
  unfold arV
  clear h
  induction ar with
  | nil => exact .nil
  | cons i ar ih =>
    refine .cons ?_ ih
    show L2.RelV (zs.getD i V.non) (ws.getD i Value.none)
    by_cases hi : i < zs.length
    · obtain ⟨u, q, g⟩ := r2.get (List.getElem?_eq_getElem hi)
      rw [List.getD_eq_getElem?_getD, List.getElem?_eq_getElem hi, List.getD_eq_getElem?_getD, q]
      exact g
    · rw [List.getD_eq_getElem?_getD, List.getElem?_eq_none (Nat.le_of_not_lt hi), List.getD_eq_getElem?_getD, List.getElem?_eq_none (by omega)]
      rfl
theorem _root_.L2.PK.weak {X : Cx} {e : List Keyword} {t t' : TA} (h : PK X e t) (f : ∀ σ H Q, t' σ H Q → t σ H Q) : PK X e t' := ⟨fun p pins s σ H Q I hw => h.run p pins s σ H Q I (f σ H Q hw)⟩
section
variable {X : Cx} {CT : Cfg} {W : WX} {x : Str} {p pos apos : Pos} {e o : Expr} {es : List Expr} {kws : List Keyword} {k n : Nat} {m : Md} {c : C (List D)} {nm : Option Str} {kpos : Pos}
abbrev DKx (X : Cx) (CT : Cfg) (W : WX) (kws : List Keyword) (c : C (List D)) : Prop := PK X kws (tL X.K CT W c)
theorem dk_nil : DKx X CT W [] cNil := pk_nil.weak fun σ H Q h => by
  obtain ⟨A, F, mm, S, ρ, s, h2, h3⟩ := h
  exact h3.now s rfl
theorem dk_cons {a : C D} {r : C (List D)} (ha : DEx X CT W e a) (hr : DKx X CT W kws r) : DKx X CT W (⟨nm, e, kpos⟩ :: kws) (cCons a r) :=
  (pk_cons ha hr).weak fun σ H Q h => by
    refine (tG.step (R' := RD X.K CT) h).mono fun v H1 h => ?_
    obtain ⟨A, F, mm, S, ρ, d, s, h2, h3, h4⟩ := h
    refine ⟨A, F, mm, S, ρ, s, h2, ?_⟩
    refine Run.mono (Run.bind (R' := RL X.K CT) h4) fun vs H2 h => ?_
    obtain ⟨F', mm', ds, S', e, s', r, h⟩ := h
    exact h.now s' ⟨v, vs, rfl, Rep.ext e h3, r⟩
theorem run_fnSK {f : Addr} {fd : FuncData} {ps ks : List Str} {sp : Sp} {E : L2.St → XK} {g : List Value → List Value → List Value} {gV : List V → List V → List V} {pins : List (Addr × Obj)} {σ : L2.St} {H : Hp} {s : Shared} {Q : VK} {us ws : List Value} {vs zs : List V} (F : FnOk X.prog X.w X.K X.mg X.base (L2.CX X.prog X.w) k f fd ps sp) (hr : Room k X.A) (hb : KBn X.K fd ps n ks g gV)
    (hx : PassesAt (L2.CX X.prog X.w) X σ (E σ)) (I : Inv X pins σ H s) (r : Vals vs us) (rz : Vals zs ws) (l1 : vs.length = n) (l2 : zs.length = ks.length) (h : sp (gV vs zs) H Q (E σ)) : wpAny (model X.prog X.w) X.A (call (.ref f) us (ks.zip ws)) (EP X pins σ Q) X.xe s := by
  have r2 := hb.rel r rz
  refine wpAny_call (codeAny_mono (F.run X.A X.stack s H ⟨us, ks.zip ws⟩ (g us ws) (gV vs zs) Q (E σ) hr I.env0 (hb.to s us ws I.kIn (r.length.symm.trans l1) (rz.length.symm.trans l2)) r2 h) fun r s' hq => ?_)
  cases r with
  | error e => exact hx pins H s e s' I hq
  | ok fl =>
    cases fl with
    | ret u => exact I.after hq
    | next => exact False.elim hq
    | brk => exact False.elim hq
    | cont => exact False.elim hq
/-- o.m(k = v, ..) -/
structure MtK (P : Program) (w : World) (K : PySem.W.Frag) (mg : Str → Option Value) (base : Heap) (CT : Cfg) (k : Nat) (cl nm : Str) (ks : List Str) (ar : List Nat) (m : Md) : Prop where
  ex : ∃ (Ca f : Addr) (fd : FuncData) (ps : List Str), CT cl = some Ca ∧ Cls K Ca ∧ Meth K Ca nm f ∧ KwB K fd ps 1 ks ar ∧ FnOk P w K mg base (L2.CX P w) k f fd ps (spD K CT (ar.length + 1) m)
def cMethK (cl nm : Str) (n : Nat) (ar : List Nat) (m : Md) (o : C D) (c : C (List D)) : C D := thenC o fun ρ x S => match insAt S x with
  | some (C', fs) => if C' = cl ∧ fs.lookup nm = none then bindO (c ρ S) fun ds S => if ds.length = n then m (x :: arD ar ds) S else none else none
  | none => none
theorem de_methK {cl nm : Str} {ks : List Str} {ar : List Nat} {a : C D} {pl : Sem Bool} (G : MtK X.prog X.w X.K X.mg X.base CT k cl nm ks ar m) (hr : Room k X.A) (tk : Takes X W) (ho : DEx X CT W o a) (ha : DKx X CT W kws c)
    (hall : (backToKw pos (keywordEach kws X.env)).all (·.1.isSome) = true := by rfl) (hks : (backToKw pos (keywordEach kws X.env)).filterMap (·.1) = ks := by rfl) (hpl : ((backTo pos (starEach [] X.env)).any (·.1) || (backToKw pos (keywordEach kws X.env)).any (·.1.isNone)) = false := by rfl)
    (ht : eval (.Call (.Attribute o nm apos) [] kws pos) X.env = (do
      let ov ← eval o X.env
      standAt apos.atName
      let (f, first) ← holding [ov] (getMethod ov nm pl)
      callWith pos f first (backTo pos (starEach [] X.env)) (backToKw pos (keywordEach kws X.env))) := by rfl) :
    DEx X CT W (.Call (.Attribute o nm apos) [] kws pos) (cMethK cl nm ks.length ar m a c) := by
  obtain ⟨Ca, f, fd, ps, g1, g2, M, ⟨g, gV, hb, hgV⟩, g6⟩ := G.ex
  refine ⟨fun pins s σ H Q I h => ?_⟩
  have h := tG.step (R' := RD X.K CT) h
  refine PySem.W.methodCall_KW (pl := pl) (thn (ho.run pins s σ H _ I h) fun u s1 ⟨x, H1, I1, rx, A, F, mm, S, ρ, d, sm, h2, h3, h4⟩ => ?_) ht
  split at h4
  case h_2 => exact h4.elim
  rename_i C' fs e1
  split at h4
  case isFalse => exact h4.elim
  rename_i c'
  obtain ⟨rfl, c2⟩ := c'
  obtain ⟨b, Ca', dx, fvs, rfl, k1, k2, k3⟩ := sm.ins e1 h3
  rw [g1] at k1; cases k1
  obtain rfl : u = Value.ref b := rx
  refine getmeth_ok I1 k2 g2 M (k3.lookup_none c2) ?_
  refine PySem.W.callWith_KW0 (first := [.ref b]) (h₀ := X.base) I.ok.mod.kin M.kp hall ?_ hpl
  have hA : tL X.K CT W c σ H1 (fun zs H2 => zs.length = ks.length ∧ spD X.K CT (ar.length + 1) m (.ref b :: arV ar zs) H2 Q (WE W σ)) := by
    refine ⟨A, F, mm, S, ρ, sm, h2, ?_⟩
    refine Run.mono (Run.bind (R' := RL X.K CT) h4) fun vs H2 h => ?_
    obtain ⟨F', mm', ds, S', e, s', r, h⟩ := h
    have l := r.length
    split at h
    · rename_i hl
      exact ⟨by rw [← l]; exact hl, by simp [arV], A, F', mm', S', d :: arD ar ds, s', ⟨_, _, rfl, Rep.ext e h3, r.ar ar⟩, h.wish⟩
    · exact h.elim
  refine thn (ha.run pos pins s1 σ H1 _ I1 hA) fun ws s2 ⟨zs, H2, I2, rz, l2, q2⟩ => ⟨I2.kIn, ?_⟩
  rw [hks]
  exact run_fnSK (us := [.ref b]) (vs := [.ref b]) g6 hr hb (passAt tk σ) I2 (.cons rfl .nil) rz rfl l2 (by rw [hgV _ _ rfl l2]; exact q2)
/-- C(k = v, ..) -/
structure MkrK (P : Program) (w : World) (K : PySem.W.Frag) (mg : Str → Option Value) (base : Heap) (CT : Cfg) (k : Nat) (x : Str) (ks : List Str) (ar : List Nat) (m : Md) : Prop where
  ex : ∃ (Ca f : Addr) (fd : FuncData) (ps : List Str), mg x = some (.ref Ca) ∧ CT x = some Ca ∧ Mk K Ca f ∧ KwB K fd ps 1 ks ar ∧ FnOk P w K mg base (L2.CX P w) k f fd ps (spD K CT (ar.length + 1) m)
theorem run_makeSK {pins : List (Addr × Obj)} {σ : L2.St} {H : Hp} {s : Shared} {Q : VK} {ws : List Value} {zs : List V} {Ca f : Addr} {fd : FuncData} {ps ks : List Str} {sp : Sp} {E : XK} {g : List Value → List Value → List Value} {gV : List V → List V → List V} (M : Mk X.K Ca f) (FF : FnOk X.prog X.w X.K X.mg X.base (L2.CX X.prog X.w) k f fd ps sp) (hr : Room (k + 1) X.A) (hb : KBn X.K fd ps 1 ks g gV)
    (hx : ∀ (pins : List (Addr × Obj)) (H : Hp) (s : Shared) (e : Value) (s' : Shared), Inv X pins σ H s → L2.CX X.prog X.w X.stack H s E e s' → X.xe e s') (I : Inv X pins σ H s) (rz : Vals zs ws) (l2 : zs.length = ks.length)
    (h : ∀ x dx, H x = none → H dx = none → dx ≠ x → sp (gV [.ref x] zs) (upd (upd H dx (.own x)) x (.ins Ca dx [])) (fun v H2 => v = .non ∧ Q (.ref x) H2) E) :
    wpAny (model X.prog X.w) X.A (PySem.call (.ref Ca) [] (ks.zip ws)) (EP X pins σ Q) X.xe s := by
  have hq := h (s.heap.objs.size + 1) s.heap.objs.size (I.hok.fresh (Nat.le_succ _)) (I.hok.fresh (Nat.le_refl _)) (Nat.ne_of_lt (Nat.lt_succ_self _))
  have I2 := Inv.made (C := Ca) I
  have r1 : Vals [V.ref (s.heap.objs.size + 1)] [Value.ref (s.heap.objs.size + 1)] := .cons rfl .nil
  have r2 := hb.rel r1 rz
  refine wpAny_call (make_map (f := f) I.kIn M.makes M.init (beq_iff_eq.mp M.fn) (codeAny_mono (FF.run _ X.stack _ _ ⟨[Value.ref (s.heap.objs.size + 1)], ks.zip ws⟩ (g [Value.ref (s.heap.objs.size + 1)] ws) _ _ E (hr.make Ca [] (ks.zip ws))
    (I2.env0.make Ca [] (ks.zip ws)) (hb.to _ [Value.ref (s.heap.objs.size + 1)] ws I2.kIn rfl (rz.length.symm.trans l2)) r2 hq) fun r s' hq' => ?_))
  cases r with
  | error e => exact hx pins _ _ e s' I2 hq'
  | ok fl =>
    cases fl with
    | ret u =>
      obtain ⟨v, H', I3, rv, ev, q3⟩ := I2.after hq'
      subst ev
      exact ⟨rv, ⟨V.ref (s.heap.objs.size + 1), H', I3, rfl, q3⟩⟩
    | next => exact False.elim hq'
    | brk => exact False.elim hq'
    | cont => exact False.elim hq'
theorem de_makeK {ks : List Str} {ar : List Nat} (G : MkrK X.prog X.w X.K X.mg X.base CT k x ks ar m) (hr : Room (k + 1) X.A) (tk : Takes X W) (ha : DKx X CT W kws c) (hg : Gl X x := by rfl) (hdb : (x == ("__debug__" : Str)) = false := by decide)
    (hall : (backToKw pos (keywordEach kws X.env)).all (·.1.isSome) = true := by rfl) (hks : (backToKw pos (keywordEach kws X.env)).filterMap (·.1) = ks := by rfl) (hpl : ((backTo pos (starEach [] X.env)).any (·.1) || (backToKw pos (keywordEach kws X.env)).any (·.1.isNone)) = false := by rfl) :
    DEx X CT W (.Call (.Name x p) [] kws pos) (cCall (fun ds S => if ds.length = ks.length then kMake x m (arD ar ds) S else none) c) := by
  obtain ⟨Ca, f, fd, ps, g1, g2, M, ⟨g, gV, hb, hgV⟩, g6⟩ := G.ex
  refine ⟨fun pins s σ H Q I h => ?_⟩
  refine wpAny_Call_Name_kw (ld_glob I hg g1 ?_ hdb)
  have h := tG.step (R' := RL X.K CT) h
  refine PySem.W.callWith_KW0 (h₀ := X.base) I.ok.mod.kin M.kp hall ?_ hpl
  refine thn (ha.run pos pins s σ H _ I h) fun ws s2 ⟨zs, H2, I2, rz, A, F, mm, S, ρ, ds, sm, h2, h3, h4⟩ => ⟨I2.kIn, ?_⟩
  rw [hks]
  have l := h3.length
  dsimp only at h4
  split at h4
  · rename_i hl
    have l2 : zs.length = ks.length := by rw [← l]; exact hl
    refine run_makeSK M g6 hr hb (fun pins H s e s' I c => passAt tk σ pins H s e s' I c) I2 rz l2 fun y dy hy hdy hne => ?_
    have q := make_data sm (h3.ar ar) g2 h4 y dy hy hdy hne
    rw [hgV _ _ rfl l2]
    rw [show (arV ar zs).length = ar.length by simp [arV]] at q
    exact q
  · exact h4.elim

/-! ### repr of data -/
def isSeqP : PyData → Bool
  | .list _ => true
  | .tuple _ => true
  | _ => false
def kRepr (x : D) (S : Store) : Ev D := match toPDr S x with
  | some d => if isSeqP d && d.showable && !d.hasDict && decide (d.depth ≤ 40) && decide (d.shown.length ≤ sizeLine) then ret (.str d.shown) S else none
  | none => none
def rRepr (K : PySem.W.Frag) : List V → Hp → VK → Prop := fun vs H Q => ∃ (a : Addr) (d : PyData), vs = [.ref a] ∧ Dp K H (.ref a) d ∧ d.showable = true ∧ d.hasDict = false ∧ d.depth ≤ 40 ∧ d.shown.length ≤ sizeLine ∧ Q (.str d.shown) H
theorem cr_repr (hg : X.A.guards = some []) (hu : X.A.units + 64 < cLine) : CallR X (.builtin "repr") (rRepr X.K) := by
  intro pins s σ H vs us Q I r h
  obtain ⟨a, d, rfl, hd, h1, h2, h3, h4, q⟩ := h
  rw [Vals.ref1 r]
  obtain ⟨as, rd⟩ := Dp.reads I d (.ref a) (.ref a) hd rfl
  exact repr_of_reads' rd h1 (fun z => by rw [h2] at z; cases z) hg (by omega) (fun _ _ e => e) (fun h' u tk kp => ⟨.str d.shown, H, I.kept (t' := tk) kp, ⟨u, rfl⟩, q⟩) h4
theorem vl_repr : VL X.K CT W (rRepr X.K) (k1 kRepr) := fun A F mm S H σ Q ds vs s r h => by
  obtain ⟨d, v, rfl, r, h⟩ := k1_case h r
  unfold kRepr at h
  split at h
  case h_2 => exact h.elim
  rename_i pd e
  split at h
  case isFalse => exact h.elim
  rename_i cnd
  simp only [Bool.and_eq_true, decide_eq_true_eq, Bool.not_eq_true'] at cnd
  obtain ⟨⟨⟨⟨c1, c2⟩, c3⟩, c4⟩, c5⟩ := cnd
  have hd := toPDr_Dp s r e
  have hv : ∃ a, v = .ref a := by
    cases pd with
    | list l => cases hd with | lst _ _ => exact ⟨_, rfl⟩
    | tuple l => cases hd with | tup _ _ => exact ⟨_, rfl⟩
    | _ => cases c1
  obtain ⟨a, rfl⟩ := hv
  exact ⟨a, pd, rfl, hd, c2, c3, c4, c5, h.now s rfl⟩
/-! ### a dict of one constant -/
theorem de_dict1 {i : Int} {y : Int} {j1 j2 : Nat} {q1 q2 : Pos} : DEx X CT W (.Dict [some (.Constant (.int i) j1 q1)] [.Constant (.int y) j2 q2] pos) (cK .dct) :=
  (pe_disp (pps_cons pe_int pe_int pps_nil) rfl rfl (by simp) (by simp)).weak fun σ H Q h => by
    obtain ⟨A, F, mm, S, ρ, s, h2, h3⟩ := h
    intro p hp
    have nF := (s.fresh hp).1
    refine ⟨upd_same, [(.inl i, .int y)], rfl, by simp, ?_⟩
    rw [upd_upd]
    exact h3 (upd F p (.dK _)) mm _ (.ref p) (Ext.fix nF) ((s.free hp).fix (s.freshA hp) nF (s.fresh hp).2 upd_same) ⟨p, _, rfl, upd_same⟩
end
end DE

set_option Elab.async false
set_option linter.all false
set_option maxRecDepth 100000
set_option maxHeartbeats 4000000
set_option autoImplicit false
namespace DE
open PySem PySem.Spec PyProof.Rows L2
section
variable {X : Cx} {CT : Cfg} {W : WX} {elt tg iter : Expr} {ifs : List Expr} {scope : Scope} {own : List (Str × Nat)} {pos spos py : Pos} {y : Str}
/-- y = [e for ..] on one line -/
theorem ds_setLc {i : Nat} {is : List Nat} {it : C (List D)} {g : CG} {t : C Bool} {a : C D} (hc : X.calm = true) (hN : X.N.Nodup) (hi : DIx X CT W tg iter it) (ok : BlkOk X.N X.env.scope scope own)
    (hg : ∀ (s : Shared) (H : Hp) (C : Addr) (cl : List (Str × Addr)) (fp : List Addr), DGx (X.blk s H scope (compEnvC scope cl C X.env) fp) CT is tg g) (ht : ∀ (s : Shared) (H : Hp) (C : Addr) (cl : List (Str × Addr)) (fp : List Addr), DTsx (X.blk s H scope (compEnvC scope cl C X.env) fp) CT WF ifs t)
    (he : ∀ (s : Shared) (H : Hp) (C : Addr) (cl : List (Str × Addr)) (fp : List Addr), DEx (X.blk s H scope (compEnvC scope cl C X.env) fp) CT WF elt a) (hy : X.N[i]? = some y := by rfl) (hyl : X.env.scope.names.lookup y = some .local := by rfl)
    (hsw : swapsWith (.ListComp elt [⟨tg, iter, ifs, 0⟩] scope pos) (some (.Name y py)) spos.line X.env = pure true := by exact sw_true rfl rfl rfl (by decide +kernel)) (hv : ∀ i ∈ is, i ∈ own.map (·.2) := by decide) (hs : ∀ x, foldedSetIterable iter X.env x = pure x := by intro _; rfl) :
    DSx X CT W (.Assign [.Name y py] (.ListComp elt [⟨tg, iter, ifs, 0⟩] scope pos) spos) (cSet i (cFz (cLc it (own.map (·.2)) g t a))) := (ps_setLc hc hN hy hyl hsw hi ok hg ht he hs).weak fun E σ H h => by
  obtain ⟨A, F, mm, S, ρ, s, h2, h3⟩ := h
  refine run_lc (t := t) (a := a) (g := g) hv σ H _ ⟨A, F, mm, S, ρ, s, h2, ?_⟩
  unfold cSet cStep cFz thenC at h3
  generalize cLc it (own.map (·.2)) g t a ρ S = o at h3
  match o, h3 with
  | some (.ok ds S'), h3 =>
    intro F' mm' H' v e s' r
    obtain ⟨b, vs, rfl, hA, r1, r2, r3, r4, r5⟩ := r
    have eF : DE.Ext F' mm' (upd F' b (.lst vs)) mm' := Ext.fix r1
    exact h3 _ mm' H' (σ.set i (some (.ref b))) (e.trans eF) (s'.fix hA r1 r2 r3) ((h2.ext (e.trans eF)).set ⟨b, vs, rfl, r4, upd_same, r5.ext eF⟩)
  | some (.ex x S'), h3 => exact fun F' mm' H' cls d e s' r => h3 F' mm' H' σ cls d e s' (h2.ext e) r
end
theorem takes_F {X : Cx} : Takes X WF := LamX.takes0
theorem units64 {k : Nat} {A : Around} (r : Room k A) : A.units + 64 < cLine := r.units
end DE

set_option Elab.async false
set_option linter.all false
set_option maxRecDepth 100000
set_option maxHeartbeats 4000000
set_option autoImplicit false
namespace DE
open PySem PySem.Spec PyProof.Rows L2
section
variable {X : Cx} {CT : Cfg} {W : WX} {tg e ea eb ec : Expr} {pos : Pos} {a b c : C D}
/-- a tuple or a fixed list is gone through -/
def cItS (a : C D) : C (List D) := thenC a fun _ x S => match x with
  | .tup ds => ret ds S
  | .lst ds => ret ds S
  | .scr ns => ret (ns.map D.int) S
  | _ => none
theorem _root_.L2.PI.either {X : Cx} {tg e : Expr} {t t' u : TI} (h : PI X tg e t) (h' : PI X tg e t') (f : ∀ σ H Q, u σ H Q → t σ H Q ∨ t' σ H Q) : PI X tg e u := ⟨fun pins s σ H Q I hw => (f σ H Q hw).elim (fun z => h.run pins s σ H Q I z) fun z => h'.run pins s σ H Q I z⟩
theorem di_seq (h : DEx X CT W e a) : DIx X CT W tg e (cItS a) := (di_tup h).either (di_lst h) fun σ H Q h => by
  obtain ⟨A, F, mm, S, ρ, s, h2, h3⟩ := h
  unfold cItS thenC at h3
  match q : a ρ S, h3 with
  | some (.ok (.tup ds) S'), h3 => exact .inl ⟨A, F, mm, S, ρ, s, h2, by unfold cItT thenC; rw [q]; exact h3⟩
  | some (.ok (.lst ds) S'), h3 => exact .inr ⟨A, F, mm, S, ρ, s, h2, by unfold cItL thenC; rw [q]; exact h3⟩
  | some (.ok (.scr ds) S'), h3 => exact .inr ⟨A, F, mm, S, ρ, s, h2, by unfold cItL thenC; rw [q]; exact h3⟩
  | some (.ex x S'), h3 => exact .inl ⟨A, F, mm, S, ρ, s, h2, by unfold cItT thenC; rw [q]; exact h3⟩
theorem hu0 {X : Cx} (hu : X.A.units + 64 < cLine) : X.A.units < cLine := by omega
theorem ops_lt (hu : X.A.units + 64 < cLine) : OpR X (compareOp .Lt) (fun x y H Q => rI0 (fun i j => .bl (decide (i < j))) x y H Q ∨ rLtT X.K x y H Q) := op_lt.or (op_ltT (hu0 hu))
theorem de_lt (hu : X.A.units + 64 < cLine) (ha : DEx X CT W ea a) (hb : DEx X CT W eb b) : DEx X CT W (.Compare ea [.Lt] [eb] pos) (c2 kLt a b) := de_cmp (ops_lt hu) v_lt ha hb (nomark _)
theorem de_le (ha : DEx X CT W ea a) (hb : DEx X CT W eb b) : DEx X CT W (.Compare ea [.LtE] [eb] pos) (c2 kLe a b) := de_cmp op_le v_le ha hb (nomark _)
theorem de_gt (ha : DEx X CT W ea a) (hb : DEx X CT W eb b) : DEx X CT W (.Compare ea [.Gt] [eb] pos) (c2 kGt a b) := de_cmp op_gt v_gt ha hb (nomark _)
theorem de_ge (ha : DEx X CT W ea a) (hb : DEx X CT W eb b) : DEx X CT W (.Compare ea [.GtE] [eb] pos) (c2 kGe a b) := de_cmp op_ge v_ge ha hb (nomark _)
theorem dt_lt (hu : X.A.units + 64 < cLine) (ha : DEx X CT W ea a) (hb : DEx X CT W eb b) : DTx X CT W (.Compare ea [.Lt] [eb] pos) (cT (c2 kLt a b)) := dt_cmp (ops_lt hu) v_lt ha hb (nomark _)
theorem dt_le (ha : DEx X CT W ea a) (hb : DEx X CT W eb b) : DTx X CT W (.Compare ea [.LtE] [eb] pos) (cT (c2 kLe a b)) := dt_cmp op_le v_le ha hb (nomark _)
theorem dt_gt (ha : DEx X CT W ea a) (hb : DEx X CT W eb b) : DTx X CT W (.Compare ea [.Gt] [eb] pos) (cT (c2 kGt a b)) := dt_cmp op_gt v_gt ha hb (nomark _)
theorem dt_ge (ha : DEx X CT W ea a) (hb : DEx X CT W eb b) : DTx X CT W (.Compare ea [.GtE] [eb] pos) (cT (c2 kGe a b)) := dt_cmp op_ge v_ge ha hb (nomark _)
theorem de_is (ha : DEx X CT W ea a) (hb : DEx X CT W eb b) (hm : behindInMarks .Is eb = false := by rfl) : DEx X CT W (.Compare ea [.Is] [eb] pos) (c2 kIsN a b) := de_cmp op_isN v_isN ha hb hm
theorem de_isn (ha : DEx X CT W ea a) (hb : DEx X CT W eb b) (hm : behindInMarks .IsNot eb = false := by rfl) : DEx X CT W (.Compare ea [.IsNot] [eb] pos) (c2 kIsNN a b) := de_cmp op_notN v_isNN ha hb hm
theorem dt_is (ha : DEx X CT W ea a) (hb : DEx X CT W eb b) (hm : behindInMarks .Is eb = false := by rfl) : DTx X CT W (.Compare ea [.Is] [eb] pos) (cT (c2 kIsN a b)) := dt_cmp op_isN v_isN ha hb hm
theorem dt_isn (ha : DEx X CT W ea a) (hb : DEx X CT W eb b) (hm : behindInMarks .IsNot eb = false := by rfl) : DTx X CT W (.Compare ea [.IsNot] [eb] pos) (cT (c2 kIsNN a b)) := dt_cmp op_notN v_isNN ha hb hm
section
variable {k : Nat} {cl : Str} {ts : List Tag} {pe : D → D → Option Bool} {isi : Tag → Tag → Option Bool} {ics ecs : List Str}
theorem dt_eqo (IK : IsK X.K CT isi ics ecs) (G : Eqo X.prog X.w X.K X.mg X.base CT k cl ts pe) (hr : Room k X.A) (hu : X.A.units + 64 < cLine) (ha : DEx X CT W ea a) (hb : DEx X CT W eb b) : DTx X CT W (.Compare ea [.Eq] [eb] pos) (cT (c2 (kEqO cl ics ecs ts pe) a b)) := dt_cmp ((op_eqo IK G hr).or (op_eqD hu)) v_eqo ha hb (nomark _)
theorem dt_neo (IK : IsK X.K CT isi ics ecs) (G : Eqo X.prog X.w X.K X.mg X.base CT k cl ts pe) (hpe : ∀ x y, pe x y = some true → ∀ (S : Store), (∃ fs, insAt S x = some (cl, fs)) → ∃ fs, insAt S y = some (cl, fs)) (hr : Room (k + 1) X.A) (hu : X.A.units + 64 < cLine) (ha : DEx X CT W ea a) (hb : DEx X CT W eb b) : DTx X CT W (.Compare ea [.NotEq] [eb] pos) (cT (c2 (kNeO cl ics ecs ts pe) a b)) := dt_cmp ((op_ne1 IK G hr).or ((op_neo IK G hr).or (op_neD hu))) (v_neo hpe) ha hb (nomark _)
end
end
end DE

set_option Elab.async false
set_option linter.all false
set_option maxRecDepth 100000
set_option maxHeartbeats 2000000
namespace DE
open PySem PySem.Spec PyProof.Rows L2 LamX
/-- a promise of a function for calls from the frame A alone -/
structure FnAt (A : Around) (P : Program) (w : World) (K : PySem.W.Frag) (mg : Str → Option Value) (base : Heap) (CX : CXT) (f : Addr) (fd : FuncData) (ps : List Str) (sp : Sp) : Prop where
  len : ∀ vs H Q E, sp vs H Q E → vs.length = ps.length
  run : ∀ (outer : List Env) (s : Shared) (H : Hp) (args : Args) (us : List Value) (vs : List V) (Q : VK) (E : XK), Env0 P w K mg base A outer s H → BindsTo s fd args (ps.zip us) → Vals vs us → sp vs H Q E →
    codeAny (model P w) A (.call (.ref f) args) (CR CX outer P w H s Q E) s
theorem fn_at {A : Around} {CX : CXT} {P : Program} {w : World} {K : PySem.W.Frag} {mg : Str → Option Value} {base : Heap} {k : Nat} {f : Addr} {name qual : Str} {params : Arguments} {body : List Stmt} {scope : Scope} {dV kV doc pm cdv ct oc : Value} {an od : Option Addr}
    {osl : Array (Option Value)} {N ps : List Str} {sp : Sp} (lk : K.lookup f = some ⟨oc, od, .func (PySem.W.fnOf name qual params body scope dV kV doc pm an cdv ct), osl⟩) (hcd : PySem.W.codeIn K cdv qual = true) (S : FnScope N ps scope)
    (len : ∀ vs H Q E, sp vs H Q E → vs.length = ps.length)
    (hr : Room (k + 1) A)
    (hbody : ∀ (outer : List Env) (s : Shared) (H : Hp) (vs : List V) (Q : VK) (E : XK), Room k (A.deeper (envOfC qual scope s.heap.objs.size f cdv)) → sp vs H Q E →
      ∃ t, PSs (cxOf CX P w K mg base N qual scope f cdv A outer s H E) body t ∧ t { nx := fun _ H' => Q .non H', rt := Q } (start N vs) H) :
    FnAt A P w K mg base CX f (PySem.W.fnOf name qual params body scope dV kV doc pm an cdv ct) ps sp := by
  refine ⟨len, fun outer s H args us vs Q E e0 hb r hsp => ?_⟩
  have hl := len _ _ _ _ hsp
  have KX : K.In s.heap := e0.mod.kin.keeps fun b o e => (e0.bs b o e).1
  have lim : s.heap.NoLimit := e0.mod.nolimit.keeps fun b o e => (e0.bs b o e).1
  have hkind : ∀ y ∈ ps.zip us, scope.names.lookup y.1 = some .local ∨ (scope.names.lookup y.1 = some .cell ∧ ((cellsFrom (s.heap.objs.size + 1) scope.names []).lookup y.1).isSome = true) := fun ⟨n, v⟩ hy => by
    rcases S.par n (List.of_mem_zip hy).1 with q | q
    · exact .inl q
    · exact .inr ⟨q, PySem.W.cellsFrom_some _ _ _ (.inl q)⟩
  refine codeAny_call_function hr.depth (KX _ _ lk) rfl S.co S.gen rfl (PySem.W.codeRec_of KX hcd) (hb _ _ _ _ ?_)
  refine wpAny_newFunctionEnv_cells S.kind hkind fun env he s1 x => ?_
  subst he
  refine ⟨lim.keeps x.toInCall.keep, codeAny_func ?_⟩
  obtain ⟨t, ht, hq⟩ := hbody outer s H vs Q E (hr.deeper _) hsp
  have I : Inv (cxOf CX P w K mg base N qual scope f cdv A outer s H E) [] (start N vs) H s1 := inv_start S hr.hd e0 hl r x
  refine wpAny_mono (ht.run [] s1 (start N vs) H _ I hq) (fun fl s' hs => ?_) fun e s' hs => hs
  have fin : ∀ {σ' : L2.St} {H' : Hp} {v : V} {u : Value}, Inv (cxOf CX P w K mg base N qual scope f cdv A outer s H E) [] σ' H' s' → RelV v u → Q v H' → CE outer P w H s Q u s' :=
    fun {σ' H' v u} J rv q => ⟨v, H', J.os, J.bare, J.base, J.hok, rv, q⟩
  cases fl with
  | ret u =>
    obtain ⟨v, σ', H', J, rv, q⟩ := hs
    exact fin J rv q
  | next =>
    obtain ⟨σ', H', J, q⟩ := hs
    exact fin (v := V.non) (u := Value.none) J rfl q
  | brk =>
    obtain ⟨_, _, _, q⟩ := hs
    exact False.elim q
  | cont =>
    obtain ⟨_, _, _, q⟩ := hs
    exact False.elim q
theorem law_callG {P : Program} {w : World} {K : PySem.W.Frag} {mg mb : Str → Option Value} {CX : CXT} {fa a : Addr} {cs : List (Addr × Addr)} {fd : FuncData} {x : Str} {sp : Sp} {s₁ : Shared} {vs : List Value} {ns : List Int}
    (KX : K.In s₁.heap) (hns : s₁.heap.Ns mainGlobals mg) (hb : s₁.heap.Ns builtinsNs mb) (hbb : ∀ x : Str, x ≠ "__name__" → mb x = bootBuiltins x) (hlim : s₁.heap.NoLimit) (hg : s₁.gens = #[])
    (hT : ∀ p ∈ cs, s₁.heap.get? p.2 = some { cls := .none, data := .fields #[] }) (nT : ∀ p ∈ cs, K.lookup p.2 = none) (C : ∀ p ∈ cs, PySem.W.CodeHd s₁.heap p.1 p.2)
    (hbm : ∃ (bm : Addr) (ob : Obj), mg "__builtins__" = some (.ref bm) ∧ bm ≠ builtinsNs ∧ s₁.heap.get? bm = some ob ∧ ob.cls = .type "module" ∧ ob.dict = some builtinsNs ∧ ob.data = .plain)
    (ha : s₁.heap.get? a = some { cls := .type "list", data := .seq vs.toArray }) (hi : IntsAre vs ns) (hl : ns.length ≤ sizeLine) 
    (F : ∀ base : Heap, K.In base → base.Ns mainGlobals mg → (∀ p ∈ cs, TabB base mg p.1 p.2) → FnAt callerA P w K mg base CX fa fd [x] sp) (hbind : ∀ (s : Shared) (u : Value), BindsTo s fd ⟨[u], []⟩ [(x, u)])
    (hsp : ∀ H : Hp, (∀ p ∈ cs, H p.2 = some (.tbl #[])) → SqL K H a (ns.map V.int) → sp [.ref a] H (fun v _ => v = .bl true) fun _ _ _ => False)
    (hCX : ∀ H e s', CX [] H s₁ (fun _ _ _ => False) e s' → False) :
    codeAny (model P w) callerA (.call (.ref fa) ⟨[.ref a], []⟩) (fun r s' => r = .ok (.ret (.bool true)) ∧ OldK s₁.heap s'.heap ∧ s'.os = s₁.os ∧ AllBare s'.gens) s₁ := by
  have rv := vals_ints hi
  have lenV := hi.length
  have isT : ∀ b : Addr, b ∈ cs.map (·.2) → s₁.heap.get? b = some { cls := .none, data := .fields #[] } := fun b hb => by
    obtain ⟨p, hp, e⟩ := List.mem_map.mp hb
    rw [← e]
    exact hT p hp
  have aT : a ∉ cs.map (·.2) := fun z => by
    have q := isT a z
    rw [ha] at q
    have z' : Data.seq vs.toArray _ = Data.fields #[] := congrArg Obj.data (Option.some.inj q)
    cases z'
  have memT : ∀ p ∈ cs, p.2 ∈ cs.map (·.2) := fun p hp => List.mem_map.mpr ⟨p, hp, rfl⟩
  -- from an abstract heap in which nothing but the script and the tables may be tracked
  have core : ∀ H : Hp, (∀ p ∈ cs, H p.2 = some (.tbl #[])) → (∀ b, H b = none ∨ b ∈ cs.map (·.2) ∨ ∃ o xs, H b = some (.frz o (.lst xs))) → SqL K H a (ns.map V.int) → HOk P w H s₁.heap → (∀ b, H b ≠ none → b = a ∨ b ∈ cs.map (·.2)) → (H a ≠ none → K.lookup a = none) →
      codeAny (model P w) callerA (.call (.ref fa) ⟨[.ref a], []⟩) (fun r s' => r = .ok (.ret (.bool true)) ∧ OldK s₁.heap s'.heap ∧ s'.os = s₁.os ∧ AllBare s'.gens) s₁ := by
    intro H hH hO hS hok hA hK
    have base_of : ∀ {b : Addr} {o : Obj}, s₁.heap.get? b = some o → H b = none → (hidT s₁.heap H).get? b = some o := fun e n => hidT_get e n
    have noD : ∀ {b : Addr} {o : Obj}, s₁.heap.get? b = some o → (∀ vs n, o.data ≠ .seq vs n) → o.data ≠ .fields #[] → H b = none := fun {b o} e h1 h2 => by
      cases q : H b with
      | none => rfl
      | some u =>
        rcases hA b (by rw [q]; simp) with e' | e'
        · rw [e', ha] at e
          cases e
          exact (h1 _ _ rfl).elim
        · rw [isT b e'] at e
          cases e
          exact (h2 rfl).elim
    have noA : ∀ {b : Addr} {o : Obj} {es : Array DictEntry} {ep : Nat}, s₁.heap.get? b = some o → o.data = .dict es ep → H b = none := fun {b o es ep} e d => by
      refine noD e (fun vs n z => ?_) fun z => ?_
      · rw [d] at z
        cases z
      · rw [d] at z
        cases z
    have nsK : ∀ {b : Addr} {m : Str → Option Value}, s₁.heap.Ns b m → (hidT s₁.heap H).Ns b m := fun {b m} ⟨o, es, ep, e, d, r⟩ => ⟨o, es, ep, base_of e (noA e d), d, r⟩
    have hKb : K.In (hidT s₁.heap H) := fun b o e => base_of (KX b o e) (by
      cases q : H b with
      | none => rfl
      | some u =>
        rcases hA b (by rw [q]; simp) with e' | e'
        · rw [e'] at e q
          rw [hK (by rw [q]; simp)] at e
          cases e
        · obtain ⟨p, hp, ep⟩ := List.mem_map.mp e'
          rw [← ep, nT p hp] at e
          cases e)
    have hM : L2.Mod K mg (hidT s₁.heap H) := ⟨hKb, nsK hns, ⟨mb, nsK hb, hbb⟩, let ⟨mc, h1, h2⟩ := hlim; ⟨mc, nsK h1, h2⟩⟩
    have TB : ∀ p ∈ cs, TabB (hidT s₁.heap H) mg p.1 p.2 := fun p hp => by
      have hTp := hT p hp
      refine ⟨?_, ?_, fun z => ?_⟩
      · obtain ⟨o, us, file, tf, flags, tg, inF, text, tt, e1, r1, r2, r3, r4, r5, r6, r7, r8, hne⟩ := C p hp
        refine ⟨o, us, file, tf, flags, tg, inF, text, tt, base_of e1 (noD e1 (fun vs n z => ?_) fun z => ?_), r1, r2, r3, r4, r5, r6, r7, r8, hne⟩
        · rw [r2] at z
          cases z
        · rw [r2] at z
          cases z
          simp at r3
      · obtain ⟨bm, ob, b1, b2, b3, b4, b5, b6⟩ := hbm
        have nG : bm ≠ mainGlobals := fun q => by
          obtain ⟨o, es, ep, e, hd, _⟩ := hns
          rw [q, e] at b3
          cases b3
          rw [hd] at b6
          cases b6
        have nP : bm ≠ p.2 := fun q => by
          rw [q, hTp] at b3
          cases b3
          cases b6
        refine ⟨bm, ob, b1, b2, nG, nP, base_of b3 (noD b3 (fun vs n z => ?_) fun z => ?_), b4, b5, b6⟩
        · rw [b6] at z
          cases z
        · rw [b6] at z
          cases z
      · obtain ⟨o, es, ep, e, hd, _⟩ := hns
        rw [z, hTp] at e
        cases e
        cases hd
    have e0 : Env0 P w K mg (hidT s₁.heap H) callerA [] s₁ H := ⟨rfl, hM, fun b o e => of_hidT e, Nat.le_of_eq (hidT_size _ _), trivial, fun b hb => absurd (show b ∈ ([] : List Addr) from hb) (by simp), hok, .of_eq hg⟩
    refine codeAny_mono ((F _ hKb (nsK hns) TB).run [] s₁ H ⟨[.ref a], []⟩ [.ref a] [.ref a] _ _ e0 (hbind s₁ (.ref a)) (.cons rfl .nil) (hsp H hH hS)) fun r s' h => ?_
    cases r with
    | error e => exact (hCX H e s' h).elim
    | ok fl =>
      cases fl with
      | next => exact False.elim h
      | brk => exact False.elim h
      | cont => exact False.elim h
      | ret u =>
        obtain ⟨v, H', os, bare, un, hok', r', q⟩ := h
        have q' : v = .bl true := q
        subst q'
        obtain rfl : u = Value.bool true := r'
        have key : ∀ b o, b ∉ cs.map (·.2) → s₁.heap.get? b = some o → s'.heap.get? b = some o := fun b o nb e => by
          cases q : H b with
          | none => exact un.keep b o e q (by intro z; exact absurd (show b ∈ ([] : List Addr) from z) (by simp)) (by simp)
          | some u =>
            rcases hO b with z | z | ⟨ob, xs, z⟩
            · rw [q] at z; cases z
            · exact absurd z nb
            · have z2 := un.frzs b ob _ z
              obtain ⟨e1, _⟩ := hok b _ z
              obtain ⟨e2, _⟩ := hok' b _ z2
              rw [e] at e1; cases e1
              exact e2
        have grown : ∀ p ∈ cs, ∃ more : Array Value, s'.heap.get? p.2 = some { cls := .none, data := .fields more } := fun p hp => by
          obtain ⟨more, z⟩ := un.tbls p.2 #[] (hH p hp)
          exact ⟨_, hok' p.2 _ z⟩
        refine ⟨rfl, ⟨fun b o e => ?_, fun b o e => ?_⟩, os, bare⟩
        · by_cases hb : b ∈ cs.map (·.2)
          · obtain ⟨p, hp, ep⟩ := List.mem_map.mp hb
            obtain ⟨more, hm⟩ := grown p hp
            rw [← ep] at e ⊢
            rw [hT p hp] at e
            cases e
            exact .inr (.inl ⟨((C p hp).tab (hT p hp)).isCodeTable, rfl, #[], more, rfl, by rw [Array.empty_append]; exact hm⟩)
          · exact .inl (key b o hb e)
        · by_cases hb : b ∈ cs.map (·.2)
          · obtain ⟨p, hp, ep⟩ := List.mem_map.mp hb
            obtain ⟨more, hm⟩ := grown p hp
            rw [← ep]
            exact ⟨_, hm⟩
          · exact ⟨o, key b o hb e⟩
  cases hk : K.lookup a with
  | some o =>
    have e := KX a o hk
    rw [ha] at e
    cases e
    refine core (fun b => if b ∈ cs.map (·.2) then some (.tbl #[]) else none) (fun p hp => if_pos (memT p hp)) (fun b => ?_) (.inr ⟨_, vs.toArray, _, hk, rfl, rfl, rfl, by rw [List.size_toArray, lenV]; exact hl, by simpa using rv⟩) (fun b u z => ?_) (fun b z => ?_) fun z => absurd (show (if a ∈ cs.map (·.2) then some (HO.tbl #[]) else none) = none from if_neg aT) z
    · by_cases hb : b ∈ cs.map (·.2)
      · exact .inr (.inl hb)
      · exact .inl (if_neg hb)
    · by_cases hb : b ∈ cs.map (·.2)
      · have z' := (if_pos hb).symm.trans z
        cases z'
        exact isT b hb
      · have z' := (if_neg hb).symm.trans z
        cases z'
    · by_cases hb : b ∈ cs.map (·.2)
      · exact .inr hb
      · exact absurd (if_neg hb) z
  | none =>
    refine core (fun b => if b = a then some (.frz { cls := .type "list", data := .seq vs.toArray } (.lst (ns.map V.int))) else if b ∈ cs.map (·.2) then some (.tbl #[]) else none) (fun p hp => (if_neg (show ¬ p.2 = a from fun z => aT (by rw [← z]; exact memT p hp))).trans (if_pos (memT p hp))) (fun b => ?_)
      (.inl (.inr ⟨{ cls := .type "list", data := .seq vs.toArray }, if_pos rfl⟩)) (fun b u z => ?_) (fun b z => ?_) fun _ => hk
    · by_cases hb : b = a
      · exact .inr (.inr ⟨_, _, if_pos hb⟩)
      · by_cases hb2 : b ∈ cs.map (·.2)
        · exact .inr (.inl hb2)
        · exact .inl ((if_neg hb).trans (if_neg hb2))
    · by_cases hb : b = a
      · have z' := (if_pos hb).symm.trans z
        cases z'
        rw [hb]
        exact ⟨ha, by rw [List.length_map]; exact hl, vs, _, rv, ha⟩
      · have z1 := (if_neg hb).symm.trans z
        by_cases hb2 : b ∈ cs.map (·.2)
        · have z' := (if_pos hb2).symm.trans z1
          cases z'
          exact isT b hb2
        · have z' := (if_neg hb2).symm.trans z1
          cases z'
    · by_cases hb : b = a
      · exact .inl hb
      · by_cases hb2 : b ∈ cs.map (·.2)
        · exact .inr hb2
        · exact absurd ((if_neg hb).trans (if_neg hb2)) z
def LawAtG (l : PySem.W.OpenLaw) (w : World) (K : PySem.W.Frag) (CX : CXT) (n : Nat) (x : Str) (mg : Str → Option Value) (fa : Addr) (h : Heap) : Prop :=
  ∃ (fd : FuncData) (cs : List (Addr × Addr)) (sp : Sp), (∀ p ∈ cs, h.get? p.2 = some { cls := .none, data := .fields #[] }) ∧ (∀ p ∈ cs, K.lookup p.2 = none) ∧ (∀ p ∈ cs, PySem.W.CodeHd h p.1 p.2) ∧ (∀ (s : Shared) (u : Value), BindsTo s fd ⟨[u], []⟩ [(x, u)]) ∧
    (∀ (H : Hp) (a : Addr) (ns : List Int), ns.length ≤ n → (∀ z ∈ ns, Builtin.Int.intBits z ≤ 1048576) → (∀ p ∈ cs, H p.2 = some (.tbl #[])) → SqL K H a (ns.map V.int) → sp [.ref a] H (fun v _ => v = .bl true) fun _ _ _ => False) ∧
    ∀ base : Heap, K.In base → base.Ns mainGlobals mg → (∀ p ∈ cs, TabB base mg p.1 p.2) → FnAt callerA l.prog w K mg base CX fa fd [x] sp
theorem walk_ofG {l : PySem.W.OpenLaw} {n : Nat} {q : Program} {loose : List Str} {XP : (Str → Option Value) → Heap → Prop} {YP : World → Heap → Prop} {d : DefRec} {K : Params → PySem.W.Frag} {CX : World → CXT} {x : Str}
    (hn : l.most = some n) (hn2 : n ≤ sizeLine) (hdf : d.params.defaults = []) (hY : ∀ (w : World) (h : Heap), YP w h → (K w.params).In h)
    (F : ∀ (w : World) (mg : Str → Option Value) (fa : Addr) (h : Heap), XP mg h → YP w h → (K w.params).In h → h.Ns mainGlobals mg → mg d.name = some (.ref fa) → LawAtG l w (K w.params) (CX w) n x mg fa h)
    (hCX : ∀ (w : World) (H : Hp) (s : Shared) (e : Value) (s' : Shared), CX w [] H s (fun _ _ _ => False) e s' → False) :
    PySem.W.WalkO q loose XP YP l.row.toRowW d [] (fun f vs => PySem.call f vs) := by
  refine Att.attach_callB hn hdf fun w s₀ s₁ mg mb fa o pm cd doc a vs ns G Y ho hd hcd hmg hobj hints hlen hbits hg => ?_
  have KX := hY w _ Y
  obtain ⟨fd, cs, sp, hT, nT, C, hb, hsp, hF⟩ := F w mg fa _ G.X Y KX G.T.g hmg
  exact law_callG KX G.T.g G.T.b G.T.builtins G.T.nolimit hg hT nT C G.T.bmain hobj hints (Nat.le_trans hlen hn2) hF hb (fun H hH hS => hsp H a ns hlen hbits hH hS) fun H e s' => hCX w H s₁ e s'
end DE

set_option Elab.async false
set_option linter.all false
set_option maxRecDepth 100000
set_option maxHeartbeats 4000000
set_option autoImplicit false
/-! the plain calculus: what must hold for a plain function to answer so -/
namespace DE
open PySem PySem.Spec PyProof.Rows L2
def EvP {α : Type} (o : Ev α) (Q : α → Store → Prop) : Prop := match o with
  | some (.ok a S) => Q a S
  | _ => False
def StP (o : Option OutS) (Q : Fl → DEnv → Store → Prop) : Prop := match o with
  | some (.go f ρ S) => Q f ρ S
  | _ => False
section
variable {α β : Type} {Q : α → Store → Prop} {R : β → Store → Prop} {ρ : DEnv} {S : Store}
theorem EvP.mono {o : Ev α} {Q' : α → Store → Prop} (h : EvP o Q') (f : ∀ a S, Q' a S → Q a S) : EvP o Q := by
  match o, h with
  | some (.ok a S), h => exact f _ _ h
theorem StP.mono {o : Option OutS} {Q Q' : Fl → DEnv → Store → Prop} (h : StP o Q') (f : ∀ a ρ S, Q' a ρ S → Q a ρ S) : StP o Q := by
  match o, h with
  | some (.go a ρ S), h => exact f _ _ _ h
theorem evp_get {o : Ev α} (h : EvP o Q) : ∃ a S, o = some (.ok a S) ∧ Q a S := by
  match o, h with
  | some (.ok a S), h => exact ⟨a, S, rfl, h⟩
theorem evp_ret {a : α} : EvP (ret a S) Q = Q a S := propext Iff.rfl
theorem evp_ok {a : α} : EvP (some (.ok a S)) Q = Q a S := propext Iff.rfl
theorem evp_none : EvP (none : Ev α) Q = False := propext Iff.rfl
theorem evp_bind {o : Ev α} {k : α → Store → Ev β} : EvP (bindO o k) R = EvP o (fun a S => EvP (k a S) R) := by
  match o with
  | some (.ok a S) => rfl
  | some (.ex x S) => rfl
  | none => rfl
theorem evp_bindN {o : Ev α} {k : α → Store → Ev β} : EvP (bindN o k) R = EvP o (fun a S => EvP (k a S) R) := by
  match o with
  | some (.ok a S) => rfl
  | some (.ex x S) => rfl
  | none => rfl
theorem evp_then {c : C α} {k : DEnv → α → Store → Ev β} : EvP (thenC c k ρ S) R = EvP (c ρ S) (fun a S => EvP (k ρ a S) R) := evp_bind
theorem evp_ite {c : Prop} [Decidable c] {a b : Ev α} : EvP (if c then a else b) Q = if c then EvP a Q else EvP b Q := by split <;> rfl
theorem evp_dite {c : Prop} [Decidable c] {a : Ev α} : EvP (if c then a else none) Q = (c ∧ EvP a Q) := by
  by_cases h : c
  · simp [h]
  · simp [h, evp_none]
end
section
variable {Q : D → Store → Prop} {T : Bool → Store → Prop} {L : List D → Store → Prop} {P : Option Int → Store → Prop} {ρ : DEnv} {S : Store} {a b : C D} {c : C (List D)} {d x y : D} {i j : Int}
theorem evp_cK : EvP (cK d ρ S) Q = Q d S := propext Iff.rfl
theorem evp_cV {n : Nat} : EvP (cV n ρ S) Q = ∃ d, ρ[n]? = some (some d) ∧ Q d S := by
  unfold cV
  split
  · rename_i d e; rw [e]; exact propext ⟨fun h => ⟨d, rfl, h⟩, fun ⟨d', h, q⟩ => by cases h; exact q⟩
  · rename_i h; exact propext ⟨fun z => z.elim, fun ⟨d, e, _⟩ => (h d e).elim⟩
theorem evp_c1 {k : D → Store → Ev D} : EvP (c1 k a ρ S) Q = EvP (a ρ S) fun x S => EvP (k x S) Q := evp_then
theorem evp_c2 {k : D → D → Store → Ev D} : EvP (c2 k a b ρ S) Q = EvP (a ρ S) fun x S => EvP (b ρ S) fun y S => EvP (k x y S) Q := by
  unfold c2; rw [evp_then]; congr; funext x S; rw [evp_bind]
theorem evp_cT : EvP (cT a ρ S) T = EvP (a ρ S) fun x S => x = .bl true ∧ T true S ∨ x = .bl false ∧ T false S := by
  unfold cT; rw [evp_then]; congr; funext x S
  cases x <;> simp [evp_none, evp_ret]
  rename_i b; cases b <;> simp
theorem evp_cTr : EvP (cTr a ρ S) T = EvP (a ρ S) fun x S => ∃ b, truthD S x = some b ∧ T b S := by
  unfold cTr; rw [evp_then]; congr; funext x S
  cases e : truthD S x <;> simp [evp_none, evp_ret, e]
theorem evp_cNil : EvP (cNil ρ S) L = L [] S := propext Iff.rfl
theorem evp_cCons : EvP (cCons a c ρ S) L = EvP (a ρ S) fun d S => EvP (c ρ S) fun ds S => L (d :: ds) S := by
  unfold cCons; rw [evp_then]; congr; funext x S; rw [evp_bind]; rfl
theorem evp_cTupE : EvP (cTupE c ρ S) Q = EvP (c ρ S) fun ds S => ds.length ≤ sizeLine ∧ Q (.tup ds) S := by
  unfold cTupE; rw [evp_then]; congr; funext x S; rw [evp_dite]; rfl
theorem evp_cLstE : EvP (cLstE c ρ S) L = EvP (c ρ S) fun ds S => ds.length ≤ sizeLine ∧ L ds S := by
  unfold cLstE lineOk; rw [evp_then]; congr; funext x S; rw [evp_dite]; rfl
theorem evp_cFz : EvP (cFz c ρ S) Q = EvP (c ρ S) fun ds S => Q (.lst ds) S := evp_then
theorem evp_cLv : EvP (cLv c ρ S) Q = EvP (c ρ S) fun ds S => Q (.ref S.length) (S ++ [some (.lst ds)]) := evp_then
theorem evp_cCall {k : List D → Store → Ev D} : EvP (cCall k c ρ S) Q = EvP (c ρ S) fun ds S => EvP (k ds S) Q := evp_then
theorem evp_k1 {k : D → Store → Ev D} : EvP (k1 k [d] S) Q = EvP (k d S) Q := propext Iff.rfl
theorem evp_k2 {k : D → D → Store → Ev D} : EvP (k2 k [x, y] S) Q = EvP (k x y S) Q := propext Iff.rfl
theorem evp_cAnd {a b : C Bool} : EvP (cAnd a b ρ S) T = EvP (a ρ S) fun x S => if x = true then EvP (b ρ S) T else T false S := by
  unfold cAnd; rw [evp_then]; congr; funext x S; rw [evp_ite]; rfl
theorem evp_cOr {a b : C Bool} : EvP (cOr a b ρ S) T = EvP (a ρ S) fun x S => if x = true then T true S else EvP (b ρ S) T := by
  unfold cOr; rw [evp_then]; congr; funext x S; rw [evp_ite]; rfl
theorem evp_cNot {a : C Bool} : EvP (cNot a ρ S) T = EvP (a ρ S) fun x S => T (!x) S := evp_then
theorem evp_cAndV : EvP (cAndV a b ρ S) Q = EvP (a ρ S) fun x S => x = .bl true ∧ EvP (b ρ S) Q ∨ x = .bl false ∧ Q (.bl false) S := by
  unfold cAndV; rw [evp_then]; congr; funext x S
  cases x <;> simp [evp_none, evp_ret]
  rename_i b; cases b <;> simp [evp_ret]
theorem evp_cIf {α : Type} {R : α → Store → Prop} {c : C Bool} {a b : C α} : EvP (cIf c a b ρ S) R = EvP (c ρ S) fun x S => if x = true then EvP (a ρ S) R else EvP (b ρ S) R := by
  unfold cIf; rw [evp_then]; congr; funext x S; rw [evp_ite]
theorem evp_cChain {k k' : D → D → Store → Ev D} {a b c : C D} : EvP (cChain k k' a b c ρ S) Q = EvP (a ρ S) fun x S => EvP (b ρ S) fun y S => EvP (k x y S) fun z S => z = .bl true ∧ (EvP (c ρ S) fun w S => EvP (k' y w S) Q) ∨ z = .bl false ∧ Q (.bl false) S := by
  unfold cChain; rw [evp_then]; congr; funext x S; rw [evp_bind]; congr; funext y S; rw [evp_bind]; congr; funext z S
  cases z <;> simp [evp_none, evp_ret]
  rename_i b; cases b <;> simp [evp_ret, evp_bind]
theorem evp_pno : EvP (cPno ρ S) P = P none S := propext Iff.rfl
theorem evp_pso : EvP (cPso a ρ S) P = EvP (a ρ S) fun x S => ∃ i, x = .int i ∧ P (some i) S := by
  unfold cPso; rw [evp_then]; congr; funext x S
  cases x <;> simp [evp_none, evp_ret]
theorem evp_cSlL {lo hi : C (Option Int)} : EvP (cSlL a lo hi ρ S) L = EvP (a ρ S) fun x S => EvP (lo ρ S) fun l S => EvP (hi ρ S) fun u S => EvP (kSlL x l u S) L := by
  unfold cSlL; rw [evp_then]; congr; funext x S; rw [evp_bind]; congr; funext l S; rw [evp_bind]
theorem evp_cCat : EvP (cCat a b ρ S) L = EvP (a ρ S) fun x S => EvP (b ρ S) fun y S => EvP (kCat x y S) L := by
  unfold cCat; rw [evp_then]; congr; funext x S; rw [evp_bind]
theorem evp_cItS : EvP (cItS a ρ S) L = EvP (a ρ S) fun x S => (∃ ds, x = .tup ds ∧ L ds S) ∨ (∃ ds, x = .lst ds ∧ L ds S) ∨ ∃ ns, x = .scr ns ∧ L (ns.map D.int) S := by
  unfold cItS; rw [evp_then]; congr; funext x S
  cases x <;> simp [evp_none, evp_ret]
theorem evp_add : EvP (kAdd (.int i) (.int j) S) Q = Q (.int (i + j)) S := propext Iff.rfl
theorem evp_sub : EvP (kSub (.int i) (.int j) S) Q = Q (.int (i - j)) S := propext Iff.rfl
theorem evp_mul : EvP (kMul (.int i) (.int j) S) Q = (mulOk i j = true ∧ Q (.int (i * j)) S) := by
  show EvP (if mulOk i j then ret _ S else none) Q = _
  rw [evp_dite, evp_ret]
theorem evp_neg : EvP (kNeg (.int i) S) Q = Q (.int (-i)) S := propext Iff.rfl
theorem evp_div : EvP (kDiv (.int i) (.int j) S) Q = (j ≠ 0 ∧ j.natAbs < 1073741824 ∧ Q (.int (i.fdiv j)) S) := by
  unfold kDiv kI
  by_cases h : j = 0
  · simp [h, evp_none]
  · by_cases h2 : j.natAbs < 1073741824 <;> simp [h, h2, evp_none, evp_ret]
theorem evp_mod : EvP (kMod (.int i) (.int j) S) Q = (j ≠ 0 ∧ Q (.int (i.fmod j)) S) := by
  unfold kMod kI
  by_cases h : j = 0 <;> simp [h, evp_none, evp_ret]
theorem evp_pow : EvP (kPow (.int i) (.int j) S) Q = ((0 ≤ j ∧ j ≤ 1000000 ∧ i.natAbs < 2 ^ 64) ∧ Q (.int (i ^ j.toNat)) S) := by
  show EvP (match (if 0 ≤ j ∧ j ≤ 1000000 ∧ i.natAbs < 2 ^ 64 then some (D.int (i ^ j.toNat)) else none) with | some d => ret d S | none => none) Q = _
  by_cases h : 0 ≤ j ∧ j ≤ 1000000 ∧ i.natAbs < 2 ^ 64
  · rw [if_pos h]; simp only [evp_ret, h, true_and]
    try simp
  · rw [if_neg h]; simp only [evp_none]; simp [h]
theorem evp_lt : EvP (kLt (.int i) (.int j) S) Q = Q (.bl (decide (i < j))) S := propext Iff.rfl
theorem evp_le : EvP (kLe (.int i) (.int j) S) Q = Q (.bl (decide (i ≤ j))) S := propext Iff.rfl
theorem evp_gt : EvP (kGt (.int i) (.int j) S) Q = Q (.bl (decide (j < i))) S := propext Iff.rfl
theorem evp_ge : EvP (kGe (.int i) (.int j) S) Q = Q (.bl (decide (j ≤ i))) S := propext Iff.rfl
theorem evp_int : EvP (kInt (.int i) S) Q = Q (.int i) S := propext Iff.rfl
theorem evp_intb {b : Bool} : EvP (kInt (.bl b) S) Q = Q (.int (if b then 1 else 0)) S := propext Iff.rfl
theorem evp_abs : EvP (kAbs (.int i) S) Q = Q (.int (if i < 0 then -i else i)) S := propext Iff.rfl
theorem evp_max2 : EvP (kMax2 (.int i) (.int j) S) Q = Q (.int (if j > i then j else i)) S := propext Iff.rfl
theorem evp_min2 : EvP (kMin2 (.int i) (.int j) S) Q = Q (.int (if j < i then j else i)) S := propext Iff.rfl
theorem evp_ix : EvP (kIx x (.int i) S) Q = ∃ ds d, seqD S x = some ds ∧ L2.atI ds i = some d ∧ Q d S := by
  unfold kIx
  cases e : seqD S x with
  | none => simp [evp_none]
  | some ds => cases e2 : L2.atI ds i <;> simp [evp_none, evp_ret, e2]
theorem evp_not {b : Bool} : EvP (kNot (.bl b) S) Q = Q (.bl (!b)) S := propext Iff.rfl
end
section
variable {Q : Fl → DEnv → Store → Prop} {ρ : DEnv} {S : Store} {s t : CS} {a b : C D} {c : C (List D)}
theorem stp_lift {α : Type} {o : Ev α} {k : α → Store → Option OutS} : StP (liftS o ρ k) Q = EvP o fun x S => StP (k x S) Q := by
  match o with
  | some (.ok a S) => rfl
  | some (.ex x S) => rfl
  | none => rfl
theorem stp_seq : StP (cSeq s t ρ S) Q = StP (s ρ S) fun f ρ' S' => (f = .nx ∧ StP (t ρ' S') Q) ∨ (f ≠ .nx ∧ Q f ρ' S') := by
  unfold cSeq
  match e : s ρ S with
  | some (.go .nx ρ' S') => simp [StP]
  | some (.go (.rt d) ρ' S') => simp [StP]
  | some (.go .bk ρ' S') => simp [StP]
  | some (.go .ct ρ' S') => simp [StP]
  | some (.ex x ρ' S') => simp [StP]
  | none => simp [StP]
theorem stp_skip : StP (cSkip ρ S) Q = Q .nx ρ S := propext Iff.rfl
theorem stp_set {i : Nat} : StP (cSet i a ρ S) Q = EvP (a ρ S) fun x S => Q .nx (ρ.set i (some x)) S := stp_lift
theorem stp_ret : StP (cRet a ρ S) Q = EvP (a ρ S) fun x S => Q (.rt x) ρ S := stp_lift
theorem stp_if {e : C Bool} : StP (cIfS e s t ρ S) Q = EvP (e ρ S) fun x S => if x = true then StP (s ρ S) Q else StP (t ρ S) Q := by
  unfold cIfS cStep; rw [stp_lift]; congr; funext x S; by_cases h : x = true <;> simp [h]
theorem stp_drop : StP (cDrop a ρ S) Q = EvP (a ρ S) fun _ S => Q .nx ρ S := stp_lift
theorem stp_par {is : List Nat} : StP (cPar is c ρ S) Q = EvP (c ρ S) fun ds S => ds.length = is.length ∧ Q .nx ((is.zip ds).foldl (fun ρ p => ρ.set p.1 (some p.2)) ρ) S := by
  unfold cPar cStep; rw [stp_lift]; congr; funext x S
  by_cases h : x.length = is.length <;> simp [h, StP]
theorem stp_for {it : C (List D)} {g : CG} : StP (cFor it g s ρ S) Q = EvP (it ρ S) fun ds S => StP (forL g s ds ρ S) Q := stp_lift
theorem stp_setIx {v o i : C D} : StP (cSetIx v o i ρ S) Q = EvP (v ρ S) fun y S => EvP (o ρ S) fun x S => EvP (i ρ S) fun z S => ∃ n k ds j, x = .ref n ∧ z = .int k ∧ lstAt S n = some ds ∧ ixN ds.length k = some j ∧ Q .nx ρ (S.set n (some (.lst (ds.set j y)))) := by
  unfold cSetIx cStep; rw [stp_lift]; congr; funext y S; rw [stp_lift]; congr; funext x S; rw [stp_lift]; congr; funext z S
  cases x <;> cases z <;> simp [StP]
  rename_i n k
  cases e : lstAt S n with
  | none => simp
  | some ds => cases e2 : ixN ds.length k <;> simp [e2]
/-- going through a list with an invariant -/
theorem stp_forL {g : CG} (I : Nat → DEnv → Store → Prop) (N : Nat) {ds : List D} (hN : ds.length = N)
    (step : ∀ (i : Nat) (d : D) (ρ : DEnv) (S : Store), ds[i]? = some d → I i ρ S → ∃ ρ1 S1, g d ρ S = some (ρ1, S1) ∧ StP (s ρ1 S1) fun f ρ' S' => (f = .nx ∨ f = .ct) ∧ I (i + 1) ρ' S')
    (h0 : I 0 ρ S) (fin : ∀ ρ S, I N ρ S → Q .nx ρ S) : StP (forL g s ds ρ S) Q := by
  suffices H : ∀ (ds' : List D) (i : Nat) (ρ : DEnv) (S : Store), ds.drop i = ds' → i + ds'.length = N → I i ρ S → StP (forL g s ds' ρ S) Q from H ds 0 ρ S rfl (by omega) h0
  intro ds'
  induction ds' with
  | nil =>
    intro i ρ S e l h
    obtain rfl : i = N := by simpa using l
    exact fin ρ S h
  | cons d r ih =>
    intro i ρ S e l h
    have ei : ds[i]? = some d := by
      have := congrArg (·[0]?) e
      simpa using this
    have er : ds.drop (i + 1) = r := by
      have := congrArg (List.drop 1) e
      simpa [List.drop_drop] using this
    obtain ⟨ρ1, S1, eg, hs⟩ := step i d ρ S ei h
    have l' : i + 1 + r.length = N := by simp at l; omega
    unfold forL
    rw [eg]
    match q : s ρ1 S1, hs with
    | some (.go f ρ2 S2), hs =>
      obtain ⟨hf, h2⟩ := hs
      rcases hf with rfl | rfl
      · simp only [q]; exact ih (i + 1) ρ2 S2 er l' h2
      · simp only [q]; exact ih (i + 1) ρ2 S2 er l' h2
end
end DE

set_option Elab.async false
set_option linter.all false
set_option maxRecDepth 100000
set_option maxHeartbeats 4000000
set_option autoImplicit false
namespace DE
open PySem PySem.Spec PyProof.Rows L2
section
variable {ρ : DEnv} {S : Store} {L : List D → Store → Prop} {g : CG} {t : C Bool} {a : C D}
theorem evp_yes {T : Bool → Store → Prop} : EvP (cYes ρ S) T = T true S := propext Iff.rfl
theorem evp_cLc {it : C (List D)} {vs : List Nat} : EvP (cLc it vs g t a ρ S) L = EvP (it ρ S) fun ds S => ds.length ≤ sizeLine ∧ EvP (lcL g t a (wipeD ρ vs) ds S) L := by
  unfold cLc; rw [evp_then]; congr; funext x S; rw [evp_dite]
theorem evp_lcL (I : Nat → List D → Store → Prop) {ds : List D}
    (step : ∀ (i : Nat) (d : D) (acc : List D) (S : Store), ds[i]? = some d → I i acc S → ∃ ρ1 S1, g d ρ S = some (ρ1, S1) ∧ EvP (t ρ1 S1) fun b S2 => if b = true then EvP (a ρ1 S2) fun y S3 => I (i + 1) (acc ++ [y]) S3 else I (i + 1) acc S2)
    (h0 : I 0 [] S) (fin : ∀ acc S, I ds.length acc S → L acc S) : EvP (lcL g t a ρ ds S) L := by
  suffices H : ∀ (ds' : List D) (i : Nat) (acc : List D) (S : Store), ds.drop i = ds' → i + ds'.length = ds.length → I i acc S → EvP (lcL g t a ρ ds' S) fun ys S => L (acc ++ ys) S by
    have := H ds 0 [] S rfl (by omega) h0
    simpa using this
  intro ds'
  induction ds' with
  | nil =>
    intro i acc S e l h
    obtain rfl : i = ds.length := by simpa using l
    show L (acc ++ []) S
    rw [List.append_nil]; exact fin acc S h
  | cons d r ih =>
    intro i acc S e l h
    have ei : ds[i]? = some d := by
      have := congrArg (·[0]?) e
      simpa using this
    have er : ds.drop (i + 1) = r := by
      have := congrArg (List.drop 1) e
      simpa [List.drop_drop] using this
    obtain ⟨ρ1, S1, eg, hs⟩ := step i d acc S ei h
    have l' : i + 1 + r.length = ds.length := by simp at l; omega
    unfold lcL
    rw [eg]
    show EvP (bindN (t ρ1 S1) _) _
    rw [evp_bindN]
    refine hs.mono fun b S2 hb => ?_
    by_cases q : b = true
    · rw [if_pos q] at hb ⊢
      rw [evp_bindN]
      refine hb.mono fun y S3 h3 => ?_
      rw [evp_bindN]
      refine (ih (i + 1) (acc ++ [y]) S3 er l' h3).mono fun ys S4 h4 => ?_
      rw [evp_ret]
      simpa using h4
    · rw [if_neg q] at hb ⊢
      exact ih (i + 1) acc S2 er l' hb
/-- each item by itself, nothing changes -/
theorem evp_map (f : D → D) {ds : List D} (step : ∀ d ∈ ds, ∃ ρ1, g d ρ S = some (ρ1, S) ∧ EvP (a ρ1 S) fun y S' => y = f d ∧ S' = S) (fin : L (ds.map f) S) : EvP (lcL g cYes a ρ ds S) L := by
  refine evp_lcL (I := fun i acc S' => acc = (ds.take i).map f ∧ S' = S) (fun i d acc S' e h => ?_) ⟨rfl, rfl⟩ fun acc S' h => ?_
  · obtain ⟨rfl, rfl⟩ := h
    obtain ⟨ρ1, e1, h1⟩ := step d (List.mem_of_getElem? e)
    refine ⟨ρ1, S', e1, ?_⟩
    rw [evp_yes, if_pos rfl]
    refine h1.mono fun y S3 h => ?_
    obtain ⟨rfl, rfl⟩ := h
    refine ⟨?_, rfl⟩
    rw [List.take_add_one, e]
    simp
  · obtain ⟨rfl, rfl⟩ := h
    rw [List.take_length]; exact fin
end
/-- the store has grown: what stood in it stands -/
def Grew (S S' : Store) : Prop := ∃ more, S' = S ++ more
theorem Grew.refl (S : Store) : Grew S S := ⟨[], by simp⟩
/-! the pen: a live list of the script's numbers, the place, the rest -/
def Pen (n : Nat) (b : Nat) (S : Store) : Prop := ∃ (cells : List Int) (at_ rest : Int), S[n]? = some (some (.lst [.lst (cells.map D.int), .int at_, .int rest])) ∧ 0 ≤ at_ ∧ at_ ≤ (b : Int) ∧ cells.length ≤ 63
theorem Pen.le {n b b' : Nat} {S : Store} (h : Pen n b S) (l : b ≤ b') : Pen n b' S := by
  obtain ⟨cells, x, r, e, h0, h1, h2⟩ := h
  exact ⟨cells, x, r, e, h0, by omega, h2⟩
/-- all places but the n-th stand, none is taken away -/
def Same (n : Nat) (S S' : Store) : Prop := S.length ≤ S'.length ∧ ∀ m, m ≠ n → m < S.length → S'[m]? = S[m]?
theorem Same.refl (n : Nat) (S : Store) : Same n S S := ⟨Nat.le_refl _, fun _ _ _ => rfl⟩
theorem Same.trans {n : Nat} {S S' S'' : Store} (a : Same n S S') (b : Same n S' S'') : Same n S S'' := ⟨Nat.le_trans a.1 b.1, fun m h l => by rw [b.2 m h (Nat.lt_of_lt_of_le l a.1), a.2 m h l]⟩
theorem Same.set {n : Nat} {S : Store} {x : Option Cell} : Same n S (S.set n x) := ⟨by simp, fun m h l => by rw [List.getElem?_set_ne (Ne.symm h)]⟩
end DE

set_option Elab.async false
set_option linter.all false
set_option maxRecDepth 100000
set_option maxHeartbeats 1000000
set_option autoImplicit false
/-! head-first forms -/
namespace DE
open PySem PySem.Spec PyProof.Rows L2
section
variable {Q : D → Store → Prop} {F : Fl → DEnv → Store → Prop} {L : List D → Store → Prop} {T : Bool → Store → Prop} {P : Option Int → Store → Prop} {ρ : DEnv} {S : Store} {n : Nat} {a b : C D} {s t : CS} {c : C (List D)}
theorem evp_run {N : List Str} {k : Nat} {c : CS} {ds : List D} (hl : ds.length = k) (h : StP (c (startD N ds) S) fun f _ S' => (∃ d, f = .rt d ∧ Q d S') ∨ (f = .nx ∧ Q .non S')) : EvP (runDef N k c ds S) Q := by
  unfold runDef
  rw [if_pos hl]
  match e : c (startD N ds) S, h with
  | some (.go (.rt d) _ S'), h => rcases h with ⟨d, e, h⟩ | ⟨e, _⟩ <;> cases e; exact h
  | some (.go .nx _ S'), h =>
    rcases h with ⟨d, e, h⟩ | ⟨e, h⟩
    · cases e
    · exact h
  | some (.go .bk _ S'), h => rcases h with ⟨d, e, h⟩ | ⟨e, h⟩ <;> cases e
  | some (.go .ct _ S'), h => rcases h with ⟨d, e, h⟩ | ⟨e, h⟩ <;> cases e
theorem evp_cV0 {d : D} : EvP (cV 0 (some d :: ρ) S) Q = Q d S := propext Iff.rfl
theorem evp_cVs {i : Nat} {x : Option D} : EvP (cV (i + 1) (x :: ρ) S) Q = EvP (cV i ρ S) Q := propext Iff.rfl
def asB (x : D) (k : Bool → Prop) : Prop := match x with
  | .bl b => k b
  | _ => False
theorem asB_bl {b : Bool} {k : Bool → Prop} : asB (.bl b) k = k b := propext Iff.rfl
def asI (x : D) (k : Int → Prop) : Prop := match x with
  | .int b => k b
  | _ => False
theorem asI_int {b : Int} {k : Int → Prop} : asI (.int b) k = k b := propext Iff.rfl
def asS (x : D) (k : List D → Prop) : Prop := match x with
  | .tup ds => k ds
  | .lst ds => k ds
  | .scr ns => k (ns.map D.int)
  | _ => False
theorem asS_tup {ds : List D} {k : List D → Prop} : asS (.tup ds) k = k ds := propext Iff.rfl
theorem asS_lst {ds : List D} {k : List D → Prop} : asS (.lst ds) k = k ds := propext Iff.rfl
theorem asS_scr {ns : List Int} {k : List D → Prop} : asS (.scr ns) k = k (ns.map D.int) := propext Iff.rfl
def asF (f : Fl) (a : Prop) (k : Fl → Prop) : Prop := match f with
  | .nx => a
  | f => k f
theorem asF_nx {a : Prop} {k : Fl → Prop} : asF .nx a k = a := propext Iff.rfl
theorem asF_rt {a : Prop} {k : Fl → Prop} {d : D} : asF (.rt d) a k = k (.rt d) := propext Iff.rfl
theorem asF_bk {a : Prop} {k : Fl → Prop} : asF .bk a k = k .bk := propext Iff.rfl
theorem asF_ct {a : Prop} {k : Fl → Prop} : asF .ct a k = k .ct := propext Iff.rfl
theorem h_cT : EvP (cT a ρ S) T = EvP (a ρ S) fun x S => asB x fun b => T b S := by
  unfold cT; rw [evp_then]; congr; funext x S; cases x <;> rfl
theorem h_cAndV : EvP (cAndV a b ρ S) Q = EvP (a ρ S) fun x S => asB x fun z => if z = true then EvP (b ρ S) Q else Q (.bl false) S := by
  unfold cAndV; rw [evp_then]; congr; funext x S
  cases x <;> first | rfl | skip
  rename_i z; cases z <;> simp [asB, evp_ret]
theorem h_cOrV : EvP (cOrV a b ρ S) Q = EvP (a ρ S) fun x S => asB x fun z => if z = true then Q (.bl true) S else EvP (b ρ S) Q := by
  unfold cOrV; rw [evp_then]; congr; funext x S
  cases x <;> first | rfl | skip
  rename_i z; cases z <;> simp [asB, evp_ret]
theorem h_chain {k k' : D → D → Store → Ev D} {a b c : C D} : EvP (cChain k k' a b c ρ S) Q = EvP (a ρ S) fun x S => EvP (b ρ S) fun y S => EvP (k x y S) fun z S => asB z fun z => if z = true then (EvP (c ρ S) fun w S => EvP (k' y w S) Q) else Q (.bl false) S := by
  unfold cChain; rw [evp_then]; congr; funext x S; rw [evp_bind]; congr; funext y S; rw [evp_bind]; congr; funext z S
  cases z <;> first | rfl | skip
  rename_i z; cases z <;> simp [asB, evp_ret, evp_bind]
theorem h_pso : EvP (cPso a ρ S) P = EvP (a ρ S) fun x S => asI x fun i => P (some i) S := by
  unfold cPso; rw [evp_then]; congr; funext x S; cases x <;> rfl
theorem h_cItS : EvP (cItS a ρ S) L = EvP (a ρ S) fun x S => asS x fun ds => L ds S := by
  unfold cItS; rw [evp_then]; congr; funext x S; cases x <;> rfl
theorem h_seq : StP (cSeq s t ρ S) F = StP (s ρ S) fun f ρ' S' => asF f (StP (t ρ' S') F) fun f => F f ρ' S' := by
  unfold cSeq
  match e : s ρ S with
  | some (.go .nx ρ' S') => rfl
  | some (.go (.rt d) ρ' S') => rfl
  | some (.go .bk ρ' S') => rfl
  | some (.go .ct ρ' S') => rfl
  | some (.ex x ρ' S') => rfl
  | none => rfl
/-- an item of a list that is known -/
theorem h_ix {x d : D} {i : Int} {ds : List D} (h : seqD S x = some ds) (h2 : L2.atI ds i = some d) : EvP (kIx x (.int i) S) Q = Q d S := by
  rw [evp_ix]; exact propext ⟨fun ⟨_, _, e, e2, q⟩ => by rw [h] at e; cases e; rw [h2] at e2; cases e2; exact q, fun q => ⟨_, _, h, h2, q⟩⟩
theorem h_ixRef {n : Nat} {d : D} {i : Int} {ds : List D} (h : lstAt S n = some ds) (h2 : L2.atI ds i = some d) : EvP (kIx (.ref n) (.int i) S) Q = Q d S := h_ix h h2
def asR (x z : D) (k : Nat → Int → Prop) : Prop := match x, z with
  | .ref n, .int i => k n i
  | _, _ => False
theorem asR_ref {n : Nat} {i : Int} {k : Nat → Int → Prop} : asR (.ref n) (.int i) k = k n i := propext Iff.rfl
def asL (S : Store) (n : Nat) (i : Int) (y : D) (k : Store → Prop) : Prop := ∃ ds j, lstAt S n = some ds ∧ ixN ds.length i = some j ∧ k (S.set n (some (.lst (ds.set j y))))
theorem asL_eq {n : Nat} {i : Int} {y : D} {k : Store → Prop} {ds : List D} {j : Nat} (h : lstAt S n = some ds) (h2 : ixN ds.length i = some j) : asL S n i y k = k (S.set n (some (.lst (ds.set j y)))) :=
  propext ⟨fun ⟨_, _, e, e2, q⟩ => by rw [h] at e; cases e; rw [h2] at e2; cases e2; exact q, fun q => ⟨_, _, h, h2, q⟩⟩
theorem h_setIx {v o i : C D} : StP (cSetIx v o i ρ S) F = EvP (v ρ S) fun y S => EvP (o ρ S) fun x S => EvP (i ρ S) fun z S => asR x z fun n k => asL S n k y fun S' => F .nx ρ S' := by
  rw [stp_setIx]; congr; funext y S; congr; funext x S; congr; funext z S
  cases x <;> cases z <;> simp [asR, asL]
theorem lstAt_set {n : Nat} {ds : List D} (h : n < S.length) : lstAt (S.set n (some (.lst ds))) n = some ds := by
  unfold lstAt; rw [List.getElem?_set_self h]
theorem h_lenl {ds : List D} : EvP (kLen (.lst ds) S) Q = Q (.int ds.length) S := propext Iff.rfl
theorem h_lent {ds : List D} : EvP (kLen (.tup ds) S) Q = Q (.int ds.length) S := propext Iff.rfl
end
end DE

set_option Elab.async false
set_option linter.all false
set_option maxRecDepth 100000
set_option maxHeartbeats 1000000
set_option autoImplicit false
/-! comprehensions over told things; methods; own calls -/
namespace DE
open PySem PySem.Spec PyProof.Rows L2
section
variable {ρ : DEnv} {S : Store} {L : List D → Store → Prop} {g : CG} {t : C Bool} {a : C D} {Q : D → Store → Prop}
/-- each thing by itself, some left out, nothing changes -/
theorem evp_filtP {α : Type} (e f : α → D) (p : α → Bool) {bs : List α}
    (step : ∀ x ∈ bs, ∃ ρ1, g (e x) ρ S = some (ρ1, S) ∧ EvP (t ρ1 S) fun b S' => b = p x ∧ S' = S ∧ (p x = true → EvP (a ρ1 S) fun y S' => y = f x ∧ S' = S))
    (fin : L ((bs.filter p).map f) S) : EvP (lcL g t a ρ (bs.map e) S) L := by
  refine evp_lcL (I := fun i acc S' => acc = ((bs.take i).filter p).map f ∧ S' = S) (fun i d acc S' h hI => ?_) ⟨by simp, rfl⟩ fun acc S' h => ?_
  · obtain ⟨rfl, rfl⟩ := hI
    rw [List.getElem?_map] at h
    obtain ⟨x, hx, rfl⟩ := Option.map_eq_some_iff.mp h
    obtain ⟨ρ1, e1, h1⟩ := step x (List.mem_of_getElem? hx)
    refine ⟨ρ1, S', e1, h1.mono fun b S2 hb => ?_⟩
    obtain ⟨rfl, rfl, h2⟩ := hb
    rw [List.take_add_one, hx]
    by_cases q : p x = true
    · rw [if_pos q]
      refine (h2 q).mono fun y S3 h => ?_
      obtain ⟨rfl, rfl⟩ := h
      refine ⟨?_, rfl⟩
      simp [List.filter_append, q]
    · rw [if_neg q]
      refine ⟨?_, rfl⟩
      simp [List.filter_append, q]
  · obtain ⟨rfl, rfl⟩ := h
    rw [List.length_map, List.take_length]; exact fin
theorem evp_mapP {α : Type} (e f : α → D) {bs : List α}
    (step : ∀ x ∈ bs, ∃ ρ1, g (e x) ρ S = some (ρ1, S) ∧ EvP (a ρ1 S) fun y S' => y = f x ∧ S' = S)
    (fin : L (bs.map f) S) : EvP (lcL g cYes a ρ (bs.map e) S) L := by
  refine evp_filtP e f (fun _ => true) (fun x hx => ?_) (by rw [List.filter_eq_self.mpr (fun _ _ => rfl)]; exact fin)
  obtain ⟨ρ1, h1, h2⟩ := step x hx
  exact ⟨ρ1, h1, rfl, rfl, fun _ => h2⟩
theorem h_meth {cl nm : Str} {n : Nat} {m : Md} {o : C D} {c : C (List D)} : EvP (cMeth cl nm n m o c ρ S) Q = EvP (o ρ S) fun x S => ∃ fs, insAt S x = some (cl, fs) ∧ fs.lookup nm = none ∧ EvP (c ρ S) fun ds S => ds.length = n ∧ EvP (m (x :: ds) S) Q := by
  unfold cMeth; rw [evp_then]; congr; funext x S
  refine propext ⟨fun h => ?_, fun ⟨fs, e, h2, h3⟩ => ?_⟩
  · split at h
    · rename_i C' fs e
      split at h
      · rename_i c'
        obtain ⟨rfl, c2⟩ := c'
        rw [evp_bind] at h
        refine ⟨fs, e, c2, h.mono fun ds S' h => ?_⟩
        rw [evp_dite] at h
        exact h
      · exact h.elim
    · exact h.elim
  · simp only [e, h2, and_self, if_true]
    rw [evp_bind]
    refine h3.mono fun ds S' h => ?_
    rw [evp_dite]; exact h
theorem h_methK {cl nm : Str} {n : Nat} {ar : List Nat} {m : Md} {o : C D} {c : C (List D)} : EvP (cMethK cl nm n ar m o c ρ S) Q = EvP (o ρ S) fun x S => ∃ fs, insAt S x = some (cl, fs) ∧ fs.lookup nm = none ∧ EvP (c ρ S) fun ds S => ds.length = n ∧ EvP (m (x :: arD ar ds) S) Q := by
  unfold cMethK; rw [evp_then]; congr; funext x S
  refine propext ⟨fun h => ?_, fun ⟨fs, e, h2, h3⟩ => ?_⟩
  · split at h
    · rename_i C' fs e
      split at h
      · rename_i c'
        obtain ⟨rfl, c2⟩ := c'
        rw [evp_bind] at h
        refine ⟨fs, e, c2, h.mono fun ds S' h => ?_⟩
        rw [evp_dite] at h
        exact h
      · exact h.elim
    · exact h.elim
  · simp only [e, h2, and_self, if_true]
    rw [evp_bind]
    refine h3.mono fun ds S' h => ?_
    rw [evp_dite]; exact h
theorem intsOf_map (ns : List Int) : intsOf (ns.map D.int) = some ns := by
  induction ns with
  | nil => rfl
  | cons n ns ih => rw [List.map_cons, intsOf, ih]; rfl
theorem evp_sum {ns : List Int} : EvP (kSum (.lst (ns.map D.int)) S) Q = Q (.int ns.sum) S := by
  unfold kSum
  simp only [lstD, intsOf_map]
  exact propext Iff.rfl
theorem h_sortset : EvP (cSortSet a ρ S) L = EvP (a ρ S) fun x S => ∃ ns, (lstD S x).bind intsOf = some ns ∧ ns.length < 64 ∧ L ((sortU ns).map D.int) S := by
  unfold cSortSet; rw [evp_then]; congr; funext x S
  refine propext ⟨fun h => ?_, fun ⟨ns, e, h2, h3⟩ => ?_⟩
  · split at h
    · rename_i ns e
      rw [evp_dite, evp_ret] at h
      exact ⟨ns, e, h⟩
    · exact h.elim
  · simp only [e, h2, if_true]; exact h3
theorem evp_range2 {c : C (List D)} : EvP (cRange2 c ρ S) L = EvP (c ρ S) fun ds S => ∃ i j, ds = [.int i, .int j] ∧ (-(2 ^ 62) ≤ i ∧ i < 2 ^ 62 ∧ -(2 ^ 62) ≤ j ∧ j < 2 ^ 62) ∧ L (rangeD i j) S := by
  unfold cRange2; rw [evp_then]; congr; funext ds S
  refine propext ⟨fun h => ?_, fun ⟨i, j, e, h, q⟩ => ?_⟩
  · split at h
    · rename_i i j
      rw [evp_dite, evp_ret] at h
      exact ⟨i, j, rfl, by omega, h.2⟩
    · exact h.elim
  · subst e
    show EvP (if _ then _ else _) L
    rw [if_pos (by omega), evp_ret]; exact q
end
end DE

set_option Elab.async false
set_option linter.all false
set_option maxRecDepth 100000
set_option maxHeartbeats 1000000
set_option autoImplicit false
/-! the end: what the program's top has left, as Bools that the kernel computes -/
namespace DE
open PySem PySem.Spec PyProof.Rows L2
theorem ba {a b : Bool} (h : (a && b) = true) : a = true ∧ b = true := Bool.and_eq_true_iff.mp h
section
variable {K : PySem.W.Frag}
/-! ### exceptions' classes -/
def oexB (K : PySem.W.Frag) (C : Addr) : Bool := (match K.lookup C with
  | some ⟨.type "type", _, .cls cd, sl⟩ => (match cd.mro, sl.toList with
    | .ref C' :: bm, [_, _, _, _, some (.builtin n), _] => C' == C && n == "ValueError.__new__" && cd.hasDict && !cd.hasDel && PySem.HandSPX.refsVE bm
    | _, _ => false)
  | _ => false) && (decide (PySem.W.findIn K (.ref C) "__setattr__" = some (some (.builtin "object.__setattr__"))) && (decide (PySem.W.subIn K (.ref C) (.type "BaseException") = some true) && (decide (PySem.W.typeIn K (.ref C) = some (.type "type")) && PySem.W.keepIn K (.ref C))))
theorem oexB_ok {C : Addr} (h : oexB K C = true) : OexC K C := by
  unfold oexB at h
  obtain ⟨q, h⟩ := ba h
  obtain ⟨h1, h⟩ := ba h
  obtain ⟨h2, h⟩ := ba h
  obtain ⟨h3, h4⟩ := ba h
  refine ⟨?_, of_decide_eq_true h1, of_decide_eq_true h2, of_decide_eq_true h3, h4⟩
  split at q
  · rename_i dd cd sl ho
    split at q
    · rename_i C' bm k0 k1 k2 k3 n k5 hm hs
      simp only [Bool.and_eq_true, beq_iff_eq, Bool.not_eq_true'] at q
      obtain ⟨⟨⟨⟨rfl, rfl⟩, hdict⟩, hdel⟩, ht⟩ := q
      obtain ⟨nm, bs, mro, ns, qn, hd, sn, sub, ab, col, del⟩ := cd
      dsimp only at hm hdel hdict
      subst hm hdel hdict
      have hsl : sl = #[k0, k1, k2, k3, some (.builtin "ValueError.__new__"), k5] := by
        obtain ⟨l⟩ := sl
        simp only at hs
        rw [hs]
      subst hsl
      exact ⟨nm, qn, ns, bs, bm, sn, sub, ab, col, dd, k0, k1, k2, k3, k5, ho, ht⟩
    · cases q
  · cases q
def xccB (K : PySem.W.Frag) (C : Addr) : Bool := oexB K C && (decide (PySem.W.nsIn K PySem.cStatics "thirdparty.any" = some none) && (decide (PySem.W.mroIn K C (.ref C) = some true) && (decide (PySem.W.ks_superIn K C C "__init__" = some (some (.builtin "ValueError.__init__"))) && decide (PySem.W.subIn K (.ref C) (.type "ValueError") = some true))))
theorem xccB_ok {C : Addr} (h : xccB K C = true) : XcC K C C := by
  obtain ⟨h1, h⟩ := ba h
  obtain ⟨h2, h⟩ := ba h
  obtain ⟨h3, h⟩ := ba h
  obtain ⟨h4, h5⟩ := ba h
  exact ⟨oexB_ok h1, of_decide_eq_true h2, of_decide_eq_true h3, of_decide_eq_true h4, of_decide_eq_true h5⟩
def insB (K : PySem.W.Frag) (C : Addr) : Bool := decide (PySem.W.findIn K (.ref C) "__class__" = some (some (.builtin "object.__class__"))) && (decide (PySem.W.specialIn K (.builtin "object.__class__") "__get__" = some (some (.builtin "getset_descriptor.__get__"))) && (decide (PySem.W.takesIn K (.builtin "object.__class__") = some true) && (decide (PySem.W.mroIn K C (.type "object") = some true) && decide (PySem.W.kitOne K (.ref C) (.ref C) = some true))))
theorem insB_ok {C : Addr} (c : Cls K C) (h : insB K C = true) : C8.InsC K C := by
  obtain ⟨h1, h⟩ := ba h
  obtain ⟨h2, h⟩ := ba h
  obtain ⟨h3, h⟩ := ba h
  obtain ⟨h4, h5⟩ := ba h
  exact ⟨c, of_decide_eq_true h1, of_decide_eq_true h2, of_decide_eq_true h3, of_decide_eq_true h4, of_decide_eq_true h5⟩
def excB (K : PySem.W.Frag) (C : Addr) : Bool := xfB K C && insB K C
theorem excB_ok {C : Addr} (h : excB K C = true) : L2.ExcC K C := by
  obtain ⟨h0, h⟩ := ba h
  obtain ⟨h1, h⟩ := ba h
  obtain ⟨h2, h⟩ := ba h
  obtain ⟨h3, h⟩ := ba h
  obtain ⟨h4, h5⟩ := ba h
  have x := xfB_ok h0
  exact ⟨x.ga, x.gg, x.exC, x.hdC, of_decide_eq_true h1, of_decide_eq_true h2, of_decide_eq_true h3, of_decide_eq_true h4⟩
end
/-! ### exceptions' own __init__ -/
abbrev FnC : Type := Option (Str × Str × Arguments × FuncBody × Scope × Addr × List Str × Addr)
def fnC (K : PySem.W.Frag) (f : Addr) : FnC := match K.lookup f with
  | some ⟨_, _, .func fd, _⟩ => some (fd.name, fd.qualname, fd.params, fd.body, fd.scope, fd.globals, fd.closure.map (·.1), fd.builtins)
  | _ => none
/-- an exception's class by its name, and what its __init__ says -/
structure ExD where
  x : Str
  qual : Str
  params : Arguments
  body : List Stmt
  scope : Scope
def ExD.val (d : ExD) : FnC := some ("__init__", d.qual, d.params, .stmts d.body, d.scope, mainGlobals, ["__class__"], builtinsNs)
def ExD.fI (K : PySem.W.Frag) (d : ExD) : Addr := He.ma K (He.ga K d.x) "__init__"
def fileB (K : PySem.W.Frag) (file : Str) (cd : Value) : Bool := match cd with
  | .ref c => (match K.lookup c with
    | some ⟨_, _, .fields vs, _⟩ => (match (vs[2]? : Option Value) with
      | some (.str f _) => file == f
      | _ => false)
    | _ => false)
  | _ => false
def cellB (K : PySem.W.Frag) (C : Addr) (cl : List (Str × Addr)) : Bool := match cl with
  | [(_, cc)] => (match K.lookup cc with
    | some ⟨_, _, .cell (some (.ref D)), _⟩ => D == C
    | _ => false)
  | _ => false
def noneB : Value → Bool
  | .none => true
  | _ => false
def ExD.ok (K : PySem.W.Frag) (file : Str) (d : ExD) : Bool := (match K.lookup (d.fI K) with
  | some ⟨_, _, .func fd, _⟩ => PySem.W.codeIn K fd.code d.qual && (noneB fd.defaults && (fileB K file fd.code && cellB K (He.ga K d.x) fd.closure))
  | _ => false) && ((PySem.W.clsIn K (He.ga K d.x)).isSome && (decide (PySem.W.typeIn K (.ref (d.fI K)) = some (.type "function")) && He.eqO (PySem.W.findIn K (.ref (He.ga K d.x)) "__init__") (some (some (.ref (d.fI K))))))
structure ExI (K : PySem.W.Frag) (file : Str) (C fI : Addr) (qual : Str) (params : Arguments) (body : List Stmt) (scope : Scope) : Prop where
  fn : ∃ (oc : Value) (od : Option Addr) (osl : Array (Option Value)) (kV doc pm : Value) (an : Option Addr) (cda : Addr) (ct : Value) (cc : Addr) (oca ocl : Obj) (vs : Array Value) (f : Str) (tf : Tok) (cdD : ClassData),
    K.lookup fI = some ⟨oc, od, .func (PySem.W.ksFn "__init__" qual params body scope .none kV doc pm an (.ref cda) ct cc), osl⟩ ∧ PySem.W.codeIn K (.ref cda) qual = true ∧ K.lookup cda = some oca ∧ oca.data = .fields vs ∧ vs[2]? = some (.str f tf) ∧ (file == f) = true ∧
    K.lookup cc = some ocl ∧ ocl.data = .cell (some (.ref C)) ∧ PySem.W.clsIn K C = some cdD
  ty : PySem.W.typeIn K (.ref fI) = some (.type "function")
  at_ : PySem.W.findIn K (.ref C) "__init__" = some (some (.ref fI))
theorem ExD.get {K : PySem.W.Frag} {file : Str} {d : ExD} (e : fnC K (d.fI K) = d.val) (h : d.ok K file = true) : ExI K file (He.ga K d.x) (d.fI K) d.qual d.params d.body d.scope := by
  unfold ExD.ok at h
  obtain ⟨q, h⟩ := ba h
  obtain ⟨h1, h⟩ := ba h
  obtain ⟨h2, h3⟩ := ba h
  refine ⟨?_, of_decide_eq_true h2, He.eqO_ok h3⟩
  unfold fnC at e
  split at q
  · rename_i oc od fd osl lk
    rw [lk] at e
    obtain ⟨n1, n2, n3, n4, n5, n6, n7, n8, n9, n10, n11, n12, n13, n14, n15⟩ := fd
    have e2 : (some (n1, n2, n3, n4, n5, n6, n7.map (·.1), n15) : FnC) = some (("__init__" : Str), d.qual, d.params, FuncBody.stmts d.body, d.scope, mainGlobals, [("__class__" : Str)], builtinsNs) := e
    simp only [Option.some.injEq, Prod.mk.injEq] at e2
    obtain ⟨g1, g2, g3, g4, g5, g6, g7, g8⟩ := e2
    obtain ⟨q1, q⟩ := ba q
    obtain ⟨q2, q⟩ := ba q
    obtain ⟨q3, q4⟩ := ba q
    dsimp only at q1 q2 q3 q4
    have e8 : n8 = .none := by
      cases n8 with
      | none => rfl
      | _ => cases q2
    cases n13 with
    | ref c =>
      cases lc : K.lookup c with
      | none =>
        have z : (match K.lookup c with
          | some ⟨_, _, .fields vs, _⟩ => (match (vs[2]? : Option Value) with
            | some (.str f _) => file == f
            | _ => false)
          | _ => false) = true := q3
        rw [lc] at z; cases z
      | some oca =>
        obtain ⟨a1, a2, dt, a3⟩ := oca
        have z : (match K.lookup c with
          | some ⟨_, _, .fields vs, _⟩ => (match (vs[2]? : Option Value) with
            | some (.str f _) => file == f
            | _ => false)
          | _ => false) = true := q3
        rw [lc] at z
        cases dt with
        | fields vs =>
          cases hf : (vs[2]? : Option Value) with
          | none =>
            have z2 : (match (vs[2]? : Option Value) with
              | some (.str f _) => file == f
              | _ => false) = true := z
            rw [hf] at z2; cases z2
          | some v2 =>
            have z2 : (match (vs[2]? : Option Value) with
              | some (.str f _) => file == f
              | _ => false) = true := z
            rw [hf] at z2
            cases v2 with
            | str f tf =>
              match n7, g7, q4, lk with
              | [(y, cc)], g7, q4, lk =>
                have ey : y = ("__class__" : Str) := by simpa using g7
                cases lcc : K.lookup cc with
                | none =>
                  have z3 : (match K.lookup cc with
                    | some ⟨_, _, .cell (some (.ref D)), _⟩ => D == He.ga K d.x
                    | _ => false) = true := q4
                  rw [lcc] at z3; cases z3
                | some ocl =>
                  obtain ⟨b1, b2, dt, b3⟩ := ocl
                  have z3 : (match K.lookup cc with
                    | some ⟨_, _, .cell (some (.ref D)), _⟩ => D == He.ga K d.x
                    | _ => false) = true := q4
                  rw [lcc] at z3
                  cases dt with
                  | cell v =>
                    cases v with
                    | none => cases z3
                    | some v =>
                      cases v with
                      | ref D =>
                        have eD : D = He.ga K d.x := eq_of_beq z3
                        obtain ⟨cdD, hcd⟩ := Option.isSome_iff_exists.mp h1
                        subst g1 g2 g3 g4 g5 g6 g8 e8 ey
                        exact ⟨oc, od, osl, n9, n10, n11, n12, c, n14, cc, _, _, vs, f, tf, cdD, lk, q1, lc, rfl, hf, z2, lcc, by rw [eD], hcd⟩
                      | _ => cases z3
                  | _ => cases z3
            | _ => cases z2
        | _ => cases z
    | _ => cases q3
  · cases q
/-! ### the Hook -/
abbrev AlY : Type := (He.AlD × List FnC) × Bool
def asY (g : Addr → Option Obj) (n : Nat) : List Addr := He.asD g n ++ [PySem.cStatics]
def frY (g : Addr → Option Obj) (n : Nat) : PySem.W.Frag := He.frT g (asY g n)
structure SaysY (file : Str) (fa : List He.Fa) (fn : List He.DefD) (xs : List ExD) (tf : List He.Defn) (ex : PySem.W.Frag → Bool) (h : Heap) (K : PySem.W.Frag) : Prop where
  d : He.SaysD fa fn K
  x : ∀ d ∈ xs, ExI K file (He.ga K d.x) (d.fI K) d.qual d.params d.body d.scope
  more : ex K = true
  hd : ∀ p ∈ tf, PySem.W.codeHdIn K (He.cT K p).1 (He.cT K p).2 = true
  out : ∀ p ∈ tf, K.lookup (He.cT K p).2 = none
  empty : ∀ p ∈ tf, h.get? (He.cT K p).2 = some { cls := .none, data := .fields #[] }
def obsY (n : Nat) (file : Str) (fa : List He.Fa) (fn : List He.DefD) (xs : List ExD) (tf : List He.Defn) (ex : PySem.W.Frag → Bool) (g : Addr → Option Obj) : AlY :=
  ((He.obsD fa fn (frY g n), xs.map fun d => fnC (frY g n) (d.fI (frY g n))), (ex (frY g n) && xs.all fun d => d.ok (frY g n) file) && He.tabsB g tf (frY g n))
def valY (fn : List He.DefD) (xs : List ExD) : AlY := ((He.valD fn, xs.map ExD.val), true)
theorem saysY_of {n : Nat} {file : Str} {fa : List He.Fa} {fn : List He.DefD} {xs : List ExD} {tf : List He.Defn} {ex : PySem.W.Frag → Bool} {h : Heap} (e : obsY n file fa fn xs tf ex h.get? = valY fn xs) : SaysY file fa fn xs tf ex h (frY h.get? n) := by
  have e1 : He.obsD fa fn (frY h.get? n) = He.valD fn := congrArg (fun z : AlY => z.1.1) e
  have e2 : (xs.map fun d => fnC (frY h.get? n) (d.fI (frY h.get? n))) = xs.map ExD.val := congrArg (fun z : AlY => z.1.2) e
  have e3 : ((ex (frY h.get? n) && xs.all fun d => d.ok (frY h.get? n) file) && He.tabsB h.get? tf (frY h.get? n)) = true := congrArg (fun z : AlY => z.2) e
  obtain ⟨h1, h2⟩ := ba e3
  obtain ⟨h3, h4⟩ := ba h1
  have key : ∀ p ∈ tf, PySem.W.codeHdIn (frY h.get? n) (He.cT (frY h.get? n) p).1 (He.cT (frY h.get? n) p).2 = true ∧ ∃ o, h.get? (He.cT (frY h.get? n) p).2 = some o ∧ He.emptyTab o = true := fun p hp => by
    obtain ⟨h3, h4⟩ := ba (List.all_eq_true.mp h2 p hp)
    refine ⟨h3, ?_⟩
    cases q : h.get? (He.cT (frY h.get? n) p).2 with
    | none => rw [q] at h4; cases h4
    | some o => rw [q] at h4; exact ⟨o, rfl, h4⟩
  refine ⟨e1, fun d hd => ?_, h3, fun p hp => (key p hp).1, fun p hp => ?_, fun p hp => ?_⟩
  · obtain ⟨i, hi, rfl⟩ := List.mem_iff_getElem.mp hd
    have q : (xs.map fun d => fnC (frY h.get? n) (d.fI (frY h.get? n)))[i]? = (xs.map ExD.val)[i]? := by rw [e2]
    rw [List.getElem?_map, List.getElem?_map, List.getElem?_eq_getElem hi] at q
    exact ExD.get (Option.some.inj q) (List.all_eq_true.mp h4 _ hd)
  · obtain ⟨_, o, q, z⟩ := key p hp
    exact He.frT_none q z
  · obtain ⟨_, o, q, z⟩ := key p hp
    rw [q, He.emptyTab_eq z]
def hookY (n : Nat) (file : Str) (fa : List He.Fa) (fn : List He.DefD) (xs : List ExD) (tf : List He.Defn) (ex : PySem.W.Frag → Bool) : PySem.W.Hook where
  α := AlY
  obs := fun s => obsY n file fa fn xs tf ex s.heap.get?
  val := fun _ => valY fn xs
  says := fun _ h => ∃ K : PySem.W.Frag, K.In h ∧ SaysY file fa fn xs tf ex h K
  of := fun _ _ e => ⟨_, He.frT_in, saysY_of e⟩
  keeps := fun _ _ _ ⟨K, hK, c⟩ k => ⟨K, PySem.W.Frag.In.keeps hK k, ⟨c.d, c.x, c.more, c.hd, c.out, fun p hp => k _ _ (c.empty p hp)⟩⟩
theorem obsY_eq {n : Nat} {file : Str} {fa : List He.Fa} {fn : List He.DefD} {xs : List ExD} {tf : List He.Defn} {ex : PySem.W.Frag → Bool} {g : Addr → Option Obj} {s : Shared} (h : ∀ a, g a = s.heap.get? a) : obsY n file fa fn xs tf ex g = (hookY n file fa fn xs tf ex).obs s := by
  have e : g = s.heap.get? := funext h
  rw [e] <;> rfl
/-! ### an exception of one field -/
theorem xc1_of {P : Program} {w : World} {K : PySem.W.Frag} {mg : Str → Option Value} {base : Heap} {CT : Cfg} {x f qual : Str} {C fI : Addr} {params : Arguments} {scope : Scope} {p0 p1 p2 p3 p4 q0 q1 q2 q3 q4 : Pos} {ar : Arg}
    (G : ExI K (P.main.file : Str) C fI qual params [.Expr (.Call (.Attribute (.Call (.Name "super" p0) [] [] p1) "__init__" p2) [.Name f q0] [] p3) p4, .Assign [.Attribute (.Name "self" q1) f q2] (.Name f q3) q4] scope)
    (hm : mg x = some (.ref C)) (hC : CT x = some C) (hx : XcC K C C) (hf : PySem.W.findIn K (.ref C) f = some none) (S : KScope ["self", f] ["self", f] scope) (hp : (params.posonlyargs ++ params.args).head? = some ar) (hself : ar.arg = "self")
    (hb : ∀ (kV doc pm : Value) (an : Option Addr) (cdv ct : Value) (cc : Addr) (body : List Stmt) (us : List Value), us.length = 2 → bindArgs (PySem.W.ksFn "__init__" qual params body scope .none kV doc pm an cdv ct cc) ⟨us, []⟩ = pure ((["self", f] : List Str).zip us))
    (htop : (P.main.scope.names.lookup ("super" : Str)).isSome = false) (hsuper : mg "super" = none)
    (ha : ∀ (fI cda cc : Addr) (A : Around) (outer : List Env) (s : Shared) (H : Hp) (E : XK), PA (cxK (L2.CX P w) P w K mg base ["self", f] qual scope fI (.ref cda) cc A outer s H E) [.Name f q0] (tCons (tVar 1) tNil))
    (hr : ∀ (fI cda cc : Addr) (A : Around) (outer : List Env) (s : Shared) (H : Hp) (E : XK), PSs (cxK (L2.CX P w) P w K mg base ["self", f] qual scope fI (.ref cda) cc A outer s H E) [.Assign [.Attribute (.Name "self" q1) f q2] (.Name f q3) q4] (tX1 K f))
    (hst : ∀ (fI cda cc : Addr) (s : Shared), starEach [.Name f q0] (envK qual scope s.heap.objs.size fI (.ref cda) cc) = (false, eval (.Name f q0) (envK qual scope s.heap.objs.size fI (.ref cda) cc)) :: starEach [] (envK qual scope s.heap.objs.size fI (.ref cda) cc))
    (hpl : ∀ (fI cda cc : Addr) (s : Shared), (backTo p3 (starEach [] (envK qual scope s.heap.objs.size fI (.ref cda) cc))).any (·.1) = false)
    (hev : ∀ (fI cda cc : Addr) (s : Shared), ∃ pl : Sem Bool, eval (.Call (.Attribute (.Call (.Name "super" p0) [] [] p1) "__init__" p2) [.Name f q0] [] p3) (envK qual scope s.heap.objs.size fI (.ref cda) cc) = (do
      let ov ← attributeBase (.Call (.Name "super" p0) [] [] p1) "__init__" (envK qual scope s.heap.objs.size fI (.ref cda) cc) (eval (.Call (.Name "super" p0) [] [] p1) (envK qual scope s.heap.objs.size fI (.ref cda) cc))
      standAt p2.atName
      let (f', first) ← holding [ov] (getMethod ov "__init__" pl)
      callWith p3 f' first (backTo p3 (starEach [.Name f q0] (envK qual scope s.heap.objs.size fI (.ref cda) cc))) []))
    (hsw : ∀ (fI cda cc : Addr) (s : Shared), swapsWith (.Call (.Attribute (.Call (.Name "super" p0) [] [] p1) "__init__" p2) [.Name f q0] [] p3) none p4.line (envK qual scope s.heap.objs.size fI (.ref cda) cc) = pure false) : Xc1 P w K mg base CT 1 x f := by
  obtain ⟨oc, od, osl, kV, doc, pm, an, cda, ct, cc, oca, ocl, vs, fl, tf, cdD, lk, hcd, lcode, hcode, hvs, hfile, lcell, hcell, hD⟩ := G.fn
  refine ⟨⟨C, C, fI, _, ["self", f], ["self", f], hm, hC, hx, fun y hy => ?_, G.at_, G.ty, Binds.all (hb kV doc pm an (.ref cda) ct cc _), fn_exc lk hcd S rfl hp (by rw [hself]; rfl) (by rw [hself]; exact .head _) lcode hcode hvs hfile htop lcell hcell hD hsuper (ha fI cda cc) (hr fI cda cc) (hst fI cda cc) (hpl fI cda cc) (hev fI cda cc) (hsw fI cda cc)⟩⟩
  simp at hy; subst hy; exact hf
end DE

set_option Elab.async false
set_option linter.all false
set_option maxRecDepth 100000
set_option maxHeartbeats 1000000
set_option autoImplicit false
/-! the end: the law's promise from the caller's frame -/
namespace DE
open PySem PySem.Spec PyProof.Rows L2
section
variable {P : Program} {w : World} {K : PySem.W.Frag} {mg : Str → Option Value} {base : Heap} {CT : Cfg}
theorem law_at {Ar : Around} {k n : Nat} {f : Addr} {name qual : Str} {params : Arguments} {body : List Stmt} {scope : Scope} {dV kV doc pm cdv ct oc : Value} {an od : Option Addr} {osl : Array (Option Value)} {N ps : List Str} {c : CS}
    (lk : K.lookup f = some ⟨oc, od, .func (PySem.W.fnOf name qual params body scope dV kV doc pm an cdv ct), osl⟩) (hcd : PySem.W.codeIn K cdv qual = true) (S : FnScope N ps scope) (hn : ps.length = n) (hr : Room (k + 1) Ar)
    (hbody : ∀ (outer : List Env) (s : Shared) (H : Hp) (E : XK), Room k (Ar.deeper (envOfC qual scope s.heap.objs.size f cdv)) → DBx (cxOf (L2.CX P w) P w K mg base N qual scope f cdv Ar outer s H E) CT (fun cls d _ H => E cls d H) body c) :
    FnAt Ar P w K mg base (L2.CX P w) f (PySem.W.fnOf name qual params body scope dV kV doc pm an cdv ct) ps (spD K CT n (runDef N n c)) := by
  refine fn_at lk hcd S (fun vs H Q E h => by rw [hn]; exact h.1) hr fun outer s H vs Q E hr h => ⟨_, hbody outer s H E hr, ?_⟩
  obtain ⟨hl, A, F, mm, S, ds, s, r, h⟩ := h
  unfold runDef at h
  have e := r.length
  rw [if_pos (by rw [e]; exact hl)] at h
  refine ⟨A, F, mm, S, startD N ds, s, start_rep r, ?_⟩
  generalize c (startD N ds) S = o at h
  match o, h with
  | some (.go (.rt d) ρ S'), h => exact fun F' mm' H' σ' e s r v rv => h F' mm' H' v e s rv
  | some (.go .nx ρ S'), h => exact fun F' mm' H' σ' e s r => h F' mm' H' .non e s rfl
  | some (.ex x ρ S'), h => exact fun F' mm' H' σ' cls d e s r xr => h F' mm' H' cls d e s xr
/-- the heap that is told, but for the tables -/
def noTab (H : Hp) : Hp := fun b => match H b with
  | some (.tbl _) => none
  | o => o
theorem noTab_le {H : Hp} {b : Addr} {o : HO} (h : noTab H b = some o) : H b = some o ∧ NoTbl o := by
  unfold noTab at h
  split at h
  · cases h
  · rename_i o' hn
    exact ⟨h, fun ps z => hn ps (by rw [h, z])⟩
theorem sim_start {H : Hp} (hT : ∀ p ∈ CT.T, H p.1 = some (.tbl #[])) : Sim K CT ⟨fun _ => none⟩ (noTab H) [] [] H where
  asd := fun a o h => by cases h
  fz := fun a o h => (noTab_le h).1
  len := rfl
  nd := List.nodup_nil
  trk := fun a h => by cases h
  live := fun n c h => by simp at h
  ast := fun p hp => ⟨#[], hT p hp, by first | exact trivial | (simp [TriplesOk]) | constructor, fun pos cv h => by simp [codeAmong] at h⟩
  ntx := fun a o h => by cases h
  nt := fun a o h => (noTab_le h).2
theorem noTab_sql {H : Hp} {a : Addr} {xs : List V} (h : SqL K H a xs) : SqL K (noTab H) a xs := by
  rcases h with (h | ⟨o, h⟩) | h
  · refine .inl (.inl ?_); unfold noTab; rw [h]
  · refine .inl (.inr ⟨o, ?_⟩); unfold noTab; rw [h]
  · exact .inr h
theorem law_sp {H : Hp} {a : Addr} {ns : List Int} {m : Md} (hT : ∀ p ∈ CT.T, H p.1 = some (.tbl #[])) (hS : SqL K H a (ns.map V.int)) (h : EvP (m [.scr ns] []) fun d _ => d = .bl true) :
    spD K CT 1 m [.ref a] H (fun v _ => v = .bl true) fun _ _ _ => False := by
  obtain ⟨d, S', e, rfl⟩ := evp_get h
  refine ⟨rfl, ⟨fun _ => none⟩, noTab H, [], [], [.scr ns], sim_start hT, ⟨_, _, rfl, ⟨a, rfl, noTab_sql hS⟩, rfl⟩, ?_⟩
  rw [e]
  intro F' mm' H' b _ _ r
  exact r
/-! ### classes -/
def tagVal (K : PySem.W.Frag) : Tag → Value
  | .b n => .type n
  | .o C => .ref (He.ga K C)
def isiB (K : PySem.W.Frag) (isi : Tag → Tag → Option Bool) (ts : List Tag) : Bool := ts.all fun t => ts.all fun u => match isi t u with
  | none => true
  | some b => decide (PySem.W.kitOne K (tagVal K t) (tagVal K u) = some b)
def ctK (K : PySem.W.Frag) (cns : List Str) (T : List (Addr × Str)) : Cfg := ⟨fun x => if x ∈ cns then some (He.ga K x) else none, T⟩
theorem ctK_eq {cns : List Str} {T : List (Addr × Str)} {x : Str} {a : Addr} (h : ctK K cns T x = some a) : a = He.ga K x := by
  have h : (if x ∈ cns then some (He.ga K x) else none) = some a := h
  split at h
  · exact (Option.some.inj h).symm
  · cases h
theorem ctK_mem {cns : List Str} {T : List (Addr × Str)} {x : Str} (h : x ∈ cns) : ctK K cns T x = some (He.ga K x) := if_pos h
theorem tagVal_eq {cns : List Str} {T : List (Addr × Str)} {t : Tag} {v : Value} (h : TagV (ctK K cns T) t v) : v = tagVal K t := by
  cases t with
  | b n => exact h
  | o C => obtain ⟨a, e, rfl⟩ := h; rw [ctK_eq e]; rfl
theorem isK_of {isi : Tag → Tag → Option Bool} {ics ecs cns : List Str} {T : List (Addr × Str)} {ts : List Tag} (hts : ∀ t u b, isi t u = some b → t ∈ ts ∧ u ∈ ts) (h : isiB K isi ts = true)
    (hic : ∀ C ∈ ics, Cls K (He.ga K C) ∧ insB K (He.ga K C) = true) (hec : ∀ C ∈ ecs, excB K (He.ga K C) = true) : IsK K (ctK K cns T) isi ics ecs where
  ok := fun t u b tv uv e h1 h2 => by
    obtain ⟨ht, hu⟩ := hts t u b e
    have z := List.all_eq_true.mp (List.all_eq_true.mp h t ht) u hu
    rw [e] at z
    rw [tagVal_eq h1, tagVal_eq h2]
    exact of_decide_eq_true z
  ic := fun C hC Ca e => by rw [ctK_eq e]; exact insB_ok (hic C hC).1 (hic C hC).2
  ec := fun C hC Ca e => by rw [ctK_eq e]; exact excB_ok (hec C hC)
/-- nothing is promised of what gives no answer -/
theorem fn_none {x : Str} {n : Nat} {f : Addr} {fd : FuncData} {ps : List Str} (hm : mg x = some (.ref f)) (kp : PySem.W.keepIn K (.ref f) = true) (hn : ps.length = n) (b : Binds K fd ps []) : Fn P w K mg base CT 0 x n fun _ _ => none := by
  refine ⟨⟨f, fd, ps, hm, kp, hn, b, ⟨fun vs H Q E h => by rw [hn]; exact h.1, fun A outer s H args us vs Q E hr e0 hb r h => ?_⟩⟩⟩
  obtain ⟨_, A, F, mm, S, ds, s, r, h⟩ := h
  exact h.elim
theorem kwb_of {x qual : Str} {params : Arguments} {body : List Stmt} {scope : Scope} {kws : List (Str × V)} {f : Addr} {fd : FuncData} {ps ks : List Str} {n : Nat} (ar : List Nat) (F : FunD K x qual params body scope [] kws f fd)
    (h : ∀ (kV doc pm : Value) (an : Option Addr) (cdv ct : Value) (us ws : List Value), us.length = n → ws.length = ks.length → bindArgs (PySem.W.fnOf x qual params body scope .none kV doc pm an cdv ct) ⟨us, ks.zip ws⟩ = pure (ps.zip (us ++ ar.map fun i => ws.getD i .none))) : KwB K fd ps n ks ar := by
  obtain ⟨oc, od, dV, kV, doc, pm, an, cdv, ct, osl, rfl, lk, hcd, hD, hK⟩ := F.ex
  rcases hD with ⟨_, rfl⟩ | ⟨e, _⟩
  · exact kwb_plain ar fun us ws l1 l2 => h kV doc pm an cdv ct us ws l1 l2
  · exact absurd rfl e
theorem vals_pick {zs : List V} {ws : List Value} (r : Vals zs ws) : ∀ ar : List Nat, Vals (ar.filterMap fun i => zs[i]?) (ar.filterMap fun i => ws[i]?)
  | [] => .nil
  | i :: ar => by
    have ih := vals_pick r ar
    have hl := r.length
    by_cases hi : i < zs.length
    · obtain ⟨u, q, g⟩ := r.get (List.getElem?_eq_getElem hi)
      rw [List.filterMap_cons_some (List.getElem?_eq_getElem hi), List.filterMap_cons_some q]
      exact .cons g ih
    · rw [List.filterMap_cons_none (List.getElem?_eq_none (Nat.le_of_not_lt hi)), List.filterMap_cons_none (List.getElem?_eq_none (by omega))]
      exact ih
theorem pick_map {zs : List V} : ∀ {ar : List Nat}, (∀ i ∈ ar, i < zs.length) → (ar.filterMap fun i => zs[i]?) = arV ar zs
  | [], _ => rfl
  | i :: ar, h => by
    have hi := h i (.head _)
    rw [List.filterMap_cons_some (List.getElem?_eq_getElem hi), pick_map fun j hj => h j (.tail _ hj)]
    unfold arV
    rw [List.map_cons, List.getD_eq_getElem?_getD, List.getElem?_eq_getElem hi]
    rfl
theorem kwb_dfl {x qual : Str} {params : Arguments} {body : List Stmt} {scope : Scope} {dvs : List V} {kws : List (Str × V)} {f : Addr} {fd : FuncData} {ps ks : List Str} {n m : Nat} (ar : List Nat) (F : FunD K x qual params body scope dvs kws f fd) (hd : dvs ≠ []) (hm : dvs.length = m) (har : ∀ i ∈ ar, i < ks.length)
    (h : ∀ (T : Addr) (kV doc pm : Value) (an : Option Addr) (cdv ct : Value) (us its ws : List Value), us.length = n → its.length = m → ws.length = ks.length →
      ∃ k, bindArgs (PySem.W.fnOf x qual params body scope (.ref T) kV doc pm an cdv ct) ⟨us, ks.zip ws⟩ = seqItems? (.ref T) >>= k ∧ k (some its.toArray) = pure (ps.zip (us ++ ar.filterMap fun i => ws[i]?))) : KwB K fd ps n ks ar := by
  obtain ⟨its, hk⟩ := FunD.kbindsD (ps := ps) F n ks (fun us _ ws => us ++ ar.filterMap fun i => ws[i]?) hd (fun r1 _ r3 => r1.append (vals_pick r3 ar)) fun T kV doc pm an cdv ct us its ws h1 h2 h3 => h T kV doc pm an cdv ct us its ws h1 (h2.trans hm) h3
  refine ⟨_, _, hk, fun vs zs h1 h2 => ?_⟩
  show vs ++ _ = _
  rw [pick_map fun i hi => by rw [h2]; exact har i hi]
theorem fun_ofD {x qual : Str} {st : Stmt} {f : Addr} {fd : FuncData} (F : FunD K x qual (defArgs st) (defBody st) (defScope st) [] [] f fd) : Fun K x qual st f fd := by
  obtain ⟨oc, od, dV, kV, doc, pm, an, cdv, ct, osl, rfl, lk, hcd, hD, hK⟩ := F.ex
  rcases hD with ⟨_, rfl⟩ | ⟨e, _⟩
  · exact ⟨⟨oc, od, kV, doc, pm, an, cdv, ct, osl, rfl, lk, hcd⟩, F.kp⟩
  · exact absurd rfl e
end
/-- the end by a Hook -/
theorem walk_ofGE {l : PySem.W.OpenLaw} {n : Nat} {q : Program} {loose : List Str} {XP : (Str → Option Value) → Heap → Prop} {YP : World → Heap → Prop} {d : DefRec} {CX : World → CXT} {x : Str}
    (hn : l.most = some n) (hn2 : n ≤ sizeLine) (hdf : d.params.defaults = [])
    (F : ∀ (w : World) (mg : Str → Option Value) (fa : Addr) (h : Heap), YP w h → h.Ns mainGlobals mg → mg d.name = some (.ref fa) → ∃ K : PySem.W.Frag, K.In h ∧ LawAtG l w K (CX w) n x mg fa h)
    (hCX : ∀ (w : World) (H : Hp) (s : Shared) (e : Value) (s' : Shared), CX w [] H s (fun _ _ _ => False) e s' → False) :
    PySem.W.WalkO q loose XP YP l.row.toRowW d [] (fun f vs => PySem.call f vs) := by
  refine Att.attach_callB hn hdf fun w s₀ s₁ mg mb fa o pm cd doc a vs ns G Y ho hd hcd hmg hobj hints hlen hbits hg => ?_
  obtain ⟨K, KX, fd, cs, sp, hT, nT, C, hb, hsp, hF⟩ := F w mg fa _ Y G.T.g hmg
  exact law_callG KX G.T.g G.T.b G.T.builtins G.T.nolimit hg hT nT C G.T.bmain hobj hints (Nat.le_trans hlen hn2) hF hb (fun H hH hS => hsp H a ns hlen hbits hH hS) fun H e s' => hCX w H s₁ e s'
end DE

set_option Elab.async false
set_option linter.all false
set_option maxRecDepth 100000
set_option maxHeartbeats 4000000
set_option autoImplicit false
namespace K09
open PySem PySem.Spec PyProof.Rows L2 DE
def top (i : Nat) : Stmt := PySem.Challenge.pw_movesenough_k09_prices_step_by_step.main.body.getD i (.Pass ⟨0, 0, 0, 0⟩)
def ics : List Str := ["Price"]
abbrev ecs : List Str := ecsH
abbrev cns : List Str := ("Price" : Str) :: ecsH
def bts : List String := ["NoneType", "bool", "int", "str", "tuple", "list", "dict"]
def isi : Tag → Tag → Option Bool
  | .b t, .b u => if t ∈ bts ∧ u ∈ bts then some (t == u || (t == "bool" && u == "int")) else none
  | .b t, .o C => if t ∈ bts ∧ C ∈ cns then some false else none
  | .o C, .b u => if u ∈ bts ∧ C ∈ cns then some false else none
  | .o C, .o C' => if C ∈ cns ∧ C' ∈ cns then some (decide (C = C')) else none
theorem exIsi : ExIsi isi := by
  intro C h C' h'
  show (if C ∈ cns ∧ C' ∈ cns then some (decide (C = C')) else none) = _
  rw [if_pos ⟨.tail _ h, .tail _ h'⟩]
def adr (CT : Cfg) (x : Str) : Addr := (CT x).getD default
def tokOf (mg : Str → Option Value) (x : Str) : Tok := match mg x with
  | some (.int _ t) => t
  | _ => default
structure TX (K : PySem.W.Frag) (mg : Str → Option Value) (CT : Cfg) : Prop where
  IK : IsK K CT isi ics ecs
  m_abs : mg "abs" = none
  m_all : mg "all" = none
  m_any : mg "any" = none
  m_int : mg "int" = none
  m_bool : mg "bool" = none
  m_isinstance : mg "isinstance" = none
  m_len : mg "len" = none
  m_list : mg "list" = none
  m_max : mg "max" = none
  m_min : mg "min" = none
  m_range : mg "range" = none
  m_repr : mg "repr" = none
  m_set : mg "set" = none
  m_sorted : mg "sorted" = none
  m_sum : mg "sum" = none
  m_super : mg "super" = none
  m_tuple : mg "tuple" = none
  m_zip : mg "zip" = none
  c_Price : mg "Price" = some (.ref (adr CT "Price")) ∧ CT "Price" = some (adr CT "Price")
  a_first : AttrOk K CT ["Price"] "first"
  a_breaks : AttrOk K CT ["Price"] "breaks"
  a_low : AttrOk K CT ["Price"] "low"
  a_high : AttrOk K CT ["Price"] "high"
  g_MOST_SLOPE : mg "MOST_SLOPE" = some (.int 1000000 (tokOf mg "MOST_SLOPE"))
  g_MOST_BREAKS : mg "MOST_BREAKS" = some (.int 8 (tokOf mg "MOST_BREAKS"))
section
variable {P : Program} {w : World} {K : PySem.W.Frag} {mg : Str → Option Value} {base : Heap} {CT : Cfg}
/-! ### is_integer -/
abbrev S_is_integer : Stmt := top 1
abbrev N_is_integer : List Str := ["value"]
theorem sc_is_integer : FnScope N_is_integer ["value"] (defScope S_is_integer) := ⟨rfl, rfl, rfl, by decide +kernel, rfl, by decide +kernel, by decide +kernel⟩
def c_is_integer : CS := (cRet (cAndV (cCall (k2 (kIsi isi ics ecs)) (cCons (cV 0) (cCons (cK (.ty "int")) cNil))) (c1 kNot (cCall (k2 (kIsi isi ics ecs)) (cCons (cV 0) (cCons (cK (.ty "bool")) cNil))))))
def m_is_integer : Md := runDef N_is_integer 1 c_is_integer
theorem b_is_integer {f : Addr} {qual : Str} (T : TX K mg CT) (cdv : Value) (A : Around) (outer : List Env) (s : Shared) (H : Hp) (E : XK) (hr : Room 0 (A.deeper (envOfC qual (defScope S_is_integer) s.heap.objs.size f cdv))) :
    DBx (cxOf (L2.CX P w) P w K mg base N_is_integer qual (defScope S_is_integer) f cdv A outer s H E) CT (fun cls d _ H => E cls d H) (defBody S_is_integer) c_is_integer := by
  have hu := units64 hr
  have SS := sc_is_integer
  have tk : Takes (cxOf (L2.CX P w) P w K mg base N_is_integer qual (defScope S_is_integer) f cdv A outer s H E) (fun cls d _ H => E cls d H) := takes_of rfl rfl rfl rfl
  exact (db_one (ds_ret (de_and (de_callB call_isA (vl_isi T.IK) T.m_isinstance (da_cons (de_v 0) (da_cons (de_gty T.m_int) da_nil))) (de_one (de_not (de_callB call_isA (vl_isi T.IK) T.m_isinstance (da_cons (de_v 0) (da_cons (de_gty T.m_bool) da_nil))))))))

/-! ### is_within -/
abbrev S_is_within : Stmt := top 2
abbrev N_is_within : List Str := ["value", "most"]
theorem sc_is_within : FnScope N_is_within ["value", "most"] (defScope S_is_within) := ⟨rfl, rfl, rfl, by decide +kernel, rfl, by decide +kernel, by decide +kernel⟩
def c_is_within : CS := (cRet (cAndV (cCall (fun ds S => if ds.length = 1 then m_is_integer ds S else none) (cCons (cV 0) cNil)) (cChain kLe kLe (c1 kNeg (cV 1)) (cV 0) (cV 1))))
def m_is_within : Md := runDef N_is_within 2 c_is_within
theorem b_is_within {f : Addr} {qual : Str} (T : TX K mg CT) (G_is_integer : Fn P w K mg base CT 1 "is_integer" 1 m_is_integer) (cdv : Value) (A : Around) (outer : List Env) (s : Shared) (H : Hp) (E : XK) (hr : Room 1 (A.deeper (envOfC qual (defScope S_is_within) s.heap.objs.size f cdv))) :
    DBx (cxOf (L2.CX P w) P w K mg base N_is_within qual (defScope S_is_within) f cdv A outer s H E) CT (fun cls d _ H => E cls d H) (defBody S_is_within) c_is_within := by
  have hu := units64 hr
  have SS := sc_is_within
  have tk : Takes (cxOf (L2.CX P w) P w K mg base N_is_within qual (defScope S_is_within) f cdv A outer s H E) (fun cls d _ H => E cls d H) := takes_of rfl rfl rfl rfl
  exact (db_one (ds_ret (de_and (de_call G_is_integer (hr.mono (by decide)) tk (da_cons (de_v 0) da_nil)) (de_one (de_chain op_le v_le op_le v_le (de_neg (de_v 1)) (de_v 0) (de_v 1))))))

/-! ### is_listed -/
abbrev S_is_listed : Stmt := top 3
abbrev N_is_listed : List Str := ["value"]
theorem sc_is_listed : FnScope N_is_listed ["value"] (defScope S_is_listed) := ⟨rfl, rfl, rfl, by decide +kernel, rfl, by decide +kernel, by decide +kernel⟩
def c_is_listed : CS := (cRet (c1 (kIsiT isi ics ecs [(.b "list"), (.b "tuple")]) (cV 0)))
def m_is_listed : Md := runDef N_is_listed 1 c_is_listed
theorem b_is_listed {f : Addr} {qual : Str} (T : TX K mg CT) (cdv : Value) (A : Around) (outer : List Env) (s : Shared) (H : Hp) (E : XK) (hr : Room 0 (A.deeper (envOfC qual (defScope S_is_listed) s.heap.objs.size f cdv))) :
    DBx (cxOf (L2.CX P w) P w K mg base N_is_listed qual (defScope S_is_listed) f cdv A outer s H E) CT (fun cls d _ H => E cls d H) (defBody S_is_listed) c_is_listed := by
  have hu := units64 hr
  have SS := sc_is_listed
  have tk : Takes (cxOf (L2.CX P w) P w K mg base N_is_listed qual (defScope S_is_listed) f cdv A outer s H E) (fun cls d _ H => E cls d H) := takes_of rfl rfl rfl rfl
  exact (db_one (ds_ret (de_isiT (us := [(.b "list"), (.b "tuple")]) T.IK (de_v 0) ⟨rfl, by decide, ⟨T.m_list, by decide +kernel, by decide⟩, ⟨rfl, by decide, ⟨T.m_tuple, by decide +kernel, by decide⟩, trivial⟩⟩ T.m_isinstance)))

/-! ### need_whole -/
abbrev S_need_whole : Stmt := top 25
abbrev N_need_whole : List Str := ["value", "part"]
theorem sc_need_whole : FnScope N_need_whole ["value", "part"] (defScope S_need_whole) := ⟨rfl, rfl, rfl, by decide +kernel, rfl, by decide +kernel, by decide +kernel⟩
def c_need_whole : CS := (cIfS (cNot (cTr (cCall (fun ds S => if ds.length = 1 then m_is_integer ds S else none) (cCons (cV 0) cNil)))) (cRaise1 "BadNumber" "part" (cCons (cV 1) cNil)) cSkip)
def m_need_whole : Md := runDef N_need_whole 2 c_need_whole
theorem b_need_whole {f : Addr} {qual : Str} (T : TX K mg CT) (G_is_integer : Fn P w K mg base CT 1 "is_integer" 1 m_is_integer) (GX_BadNumber : Xc1 P w K mg base CT 1 "BadNumber" "part") (cdv : Value) (A : Around) (outer : List Env) (s : Shared) (H : Hp) (E : XK) (hr : Room 2 (A.deeper (envOfC qual (defScope S_need_whole) s.heap.objs.size f cdv))) :
    DBx (cxOf (L2.CX P w) P w K mg base N_need_whole qual (defScope S_need_whole) f cdv A outer s H E) CT (fun cls d _ H => E cls d H) (defBody S_need_whole) c_need_whole := by
  have hu := units64 hr
  have SS := sc_need_whole
  have tk : Takes (cxOf (L2.CX P w) P w K mg base N_need_whole qual (defScope S_need_whole) f cdv A outer s H E) (fun cls d _ H => E cls d H) := takes_of rfl rfl rfl rfl
  exact (db_one (ds_if (dt_not (dt_tr (de_call G_is_integer (hr.mono (by decide)) tk (da_cons (de_v 0) da_nil)))) (db_one (ds_raise1 GX_BadNumber rfl (hr.mono (by decide)) tk (da_cons (de_v 1) da_nil))) db_nil))

/-! ### price_at -/
abbrev S_price_at : Stmt := top 26
abbrev N_price_at : List Str := ["price", "n", "found", "slope", "spot", "later"]
theorem sc_price_at : FnScope N_price_at ["price", "n"] (defScope S_price_at) := ⟨rfl, rfl, rfl, by decide +kernel, rfl, by decide +kernel, by decide +kernel⟩
def c_price_at : CS := (cSeq (cPar [2, 3] (cCons (c2 kMul (c1 (kFld ["Price"] "first") (cV 0)) (cV 1)) (cCons (c1 (kFld ["Price"] "first") (cV 0)) cNil)))
  (cSeq (cFor (cItS (c1 (kFld ["Price"] "breaks") (cV 0))) (gTp 2 (gMore (gNm 4) (gMore (gNm 5) gNone)))
  (cSeq (cSet 2 (c2 kAdd (cV 2) (c2 kMul (c2 kSub (cV 5) (cV 3)) (c2 kSub (cCall (k2 kMax2) (cCons (c2 kSub (cV 1) (cV 4)) (cCons (cK (.int 0)) cNil))) (cCall (k2 kMax2) (cCons (c2 kSub (cK (.int 0)) (cV 4)) (cCons (cK (.int 0)) cNil)))))))
  (cSet 3 (cV 5))))
  (cRet (cV 2))))
def m_price_at : Md := runDef N_price_at 2 c_price_at
theorem b_price_at {f : Addr} {qual : Str} (T : TX K mg CT) (cdv : Value) (A : Around) (outer : List Env) (s : Shared) (H : Hp) (E : XK) (hr : Room 0 (A.deeper (envOfC qual (defScope S_price_at) s.heap.objs.size f cdv))) :
    DBx (cxOf (L2.CX P w) P w K mg base N_price_at qual (defScope S_price_at) f cdv A outer s H E) CT (fun cls d _ H => E cls d H) (defBody S_price_at) c_price_at := by
  have hu := units64 hr
  have SS := sc_price_at
  have tk : Takes (cxOf (L2.CX P w) P w K mg base N_price_at qual (defScope S_price_at) f cdv A outer s H E) (fun cls d _ H => E cls d H) := takes_of rfl rfl rfl rfl
  have po : PassesOwn (model P w) (cxOf (L2.CX P w) P w K mg base N_price_at qual (defScope S_price_at) f cdv A outer s H E).A (cxOf (L2.CX P w) P w K mg base N_price_at qual (defScope S_price_at) f cdv A outer s H E).env (cxOf (L2.CX P w) P w K mg base N_price_at qual (defScope S_price_at) f cdv A outer s H E).xe := passes_of rfl
  exact (db_cons (ds_par rfl SS.nd (da_cons (de_mul (de_fld T.a_first (de_v 0)) (de_v 1)) (da_cons (de_fld T.a_first (de_v 0)) da_nil)))
  (db_cons (ds_for po rfl (di_seq (de_fld T.a_breaks (de_v 0))) (dg_tup rfl (dgs_cons (dg_name SS.nd) (dgs_cons (dg_name SS.nd) dgs_nil)))
  (db_cons (ds_set SS.nd (de_add (de_v 2) (de_mul (de_sub (de_v 5) (de_v 3)) (de_sub (de_callB (call_max2 rfl) vl_max2 T.m_max (da_cons (de_sub (de_v 1) (de_v 4)) (da_cons de_int da_nil))) (de_callB (call_max2 rfl) vl_max2 T.m_max (da_cons (de_sub de_int (de_v 4)) (da_cons de_int da_nil)))))))
  (db_one (ds_set SS.nd (de_v 5)))))
  (db_one (ds_ret (de_v 2)))))

/-! ### are_breaks -/
abbrev S_are_breaks : Stmt := top 23
abbrev N_are_breaks : List Str := ["value", "first", "pair", "spots", "slopes", "one", "other"]
theorem sc_are_breaks : FnScope N_are_breaks ["value", "first"] (defScope S_are_breaks) := ⟨rfl, rfl, rfl, by decide +kernel, rfl, by decide +kernel, by decide +kernel⟩
def c_are_breaks : CS := (cSeq (cIfS (cOr (cNot (cTr (cCall (fun ds S => if ds.length = 1 then m_is_listed ds S else none) (cCons (cV 0) cNil)))) (cT (c2 kGt (cCall (k1 kLen) (cCons (cV 0) cNil)) (cK (.int 8))))) (cRet (cK (.bl false))) cSkip)
  (cSeq (cFor (cItS (cV 0)) (gNm 2)
  (cIfS (cOr (cNot (cTr (cCall (fun ds S => if ds.length = 1 then m_is_listed ds S else none) (cCons (cV 2) cNil)))) (cOr (cT (c2 (kEq true) (cCall (k1 kLen) (cCons (cV 2) cNil)) (cK (.int 2)))) (cNot (cTr (cCall (k1 kAll) (cCons (cFz (cLc (cItS (cV 2)) [5] (gNm 5) cYes (cCall (fun ds S => if ds.length = 2 then m_is_within ds S else none) (cCons (cV 5) (cCons (cK (.int 1000000)) cNil))))) cNil)))))) (cRet (cK (.bl false))) cSkip))
  (cSeq (cPar [3, 4] (cCons (cFz (cLc (cItS (cV 0)) [2] (gNm 2) cYes (c2 kIx (cV 2) (cK (.int 0))))) (cCons (cFz (cLstE (cCons (cV 1) (cStar (cFz (cLc (cItS (cV 0)) [2] (gNm 2) cYes (c2 kIx (cV 2) (cK (.int 1))))) cNil)))) cNil)))
  (cSeq (cIfS (cTr (cCall (k1 kAny) (cCons (cFz (cLc (cZip (cCons (cV 3) (cCons (cFz (cSlL (cV 3) (cPso (cK (.int 1))) cPno)) cNil))) [5, 6] (gTp 2 (gMore (gNm 5) (gMore (gNm 6) gNone))) cYes (c2 kGe (cV 5) (cV 6)))) cNil))) (cRet (cK (.bl false))) cSkip)
  (cRet (cCall (k1 kAll) (cCons (cFz (cLc (cZip (cCons (cV 4) (cCons (cFz (cSlL (cV 4) (cPso (cK (.int 1))) cPno)) cNil))) [5, 6] (gTp 2 (gMore (gNm 5) (gMore (gNm 6) gNone))) cYes (c2 kLt (cV 5) (cV 6)))) cNil)))))))
def m_are_breaks : Md := runDef N_are_breaks 2 c_are_breaks
theorem b_are_breaks {f : Addr} {qual : Str} (T : TX K mg CT) (G_is_listed : Fn P w K mg base CT 1 "is_listed" 1 m_is_listed) (G_is_within : Fn P w K mg base CT 2 "is_within" 2 m_is_within) (cdv : Value) (A : Around) (outer : List Env) (s : Shared) (H : Hp) (E : XK) (hr : Room 2 (A.deeper (envOfC qual (defScope S_are_breaks) s.heap.objs.size f cdv))) :
    DBx (cxOf (L2.CX P w) P w K mg base N_are_breaks qual (defScope S_are_breaks) f cdv A outer s H E) CT (fun cls d _ H => E cls d H) (defBody S_are_breaks) c_are_breaks := by
  have hu := units64 hr
  have SS := sc_are_breaks
  have tk : Takes (cxOf (L2.CX P w) P w K mg base N_are_breaks qual (defScope S_are_breaks) f cdv A outer s H E) (fun cls d _ H => E cls d H) := takes_of rfl rfl rfl rfl
  have po : PassesOwn (model P w) (cxOf (L2.CX P w) P w K mg base N_are_breaks qual (defScope S_are_breaks) f cdv A outer s H E).A (cxOf (L2.CX P w) P w K mg base N_are_breaks qual (defScope S_are_breaks) f cdv A outer s H E).env (cxOf (L2.CX P w) P w K mg base N_are_breaks qual (defScope S_are_breaks) f cdv A outer s H E).xe := passes_of rfl
  exact (db_cons (ds_if (dt_w (dw_or (dt_not (dt_tr (de_call G_is_listed (hr.mono (by decide)) tk (da_cons (de_v 0) da_nil)))) (dw_or1 (dt_gt (de_callB call_len vl_len T.m_len (da_cons (de_v 0) da_nil)) (de_gint rfl T.g_MOST_BREAKS))))) (db_one (ds_ret de_bl)) db_nil)
  (db_cons (ds_for po rfl (di_seq (de_v 0)) (dg_name SS.nd)
  (db_one (ds_if (dt_w (dw_or (dt_not (dt_tr (de_call G_is_listed (hr.mono (by decide)) tk (da_cons (de_v 2) da_nil)))) (dw_or (dt_ne hu (de_callB call_len vl_len T.m_len (da_cons (de_v 2) da_nil)) de_int) (dw_or1 (dt_not (dt_tr (de_callB (cr_allT rfl) vl_all T.m_all (da_cons (de_fz (dn_lc (own := [("one", 5)]) rfl SS.nd (di_seq (de_v 2)) (blkOk_by (N := N_are_breaks) (sc := defScope S_are_breaks) (by decide +kernel)) (fun s_ H_ C_ cl_ fp_ => (dg_name SS.nd)) (fun s_ H_ C_ cl_ fp_ => dts_nil) (fun s_ H_ C_ cl_ fp_ => (de_call G_is_within (hr.mono (by decide)) takes_F (da_cons (de_v 5) (da_cons (de_gint rfl T.g_MOST_SLOPE) da_nil)))))) da_nil)))))))) (db_one (ds_ret de_bl)) db_nil)))
  (db_cons (ds_par rfl SS.nd (da_cons (de_fz (dn_lc (own := [("pair", 2)]) rfl SS.nd (di_seq (de_v 0)) (blkOk_by (N := N_are_breaks) (sc := defScope S_are_breaks) (by decide +kernel)) (fun s_ H_ C_ cl_ fp_ => (dg_name SS.nd)) (fun s_ H_ C_ cl_ fp_ => dts_nil) (fun s_ H_ C_ cl_ fp_ => (de_ix (de_v 2) de_int)))) (da_cons (de_fz (dn_lst (da_cons (de_v 1) (da_star (de_fz (dn_lc (own := [("pair", 2)]) rfl SS.nd (di_seq (de_v 0)) (blkOk_by (N := N_are_breaks) (sc := defScope S_are_breaks) (by decide +kernel)) (fun s_ H_ C_ cl_ fp_ => (dg_name SS.nd)) (fun s_ H_ C_ cl_ fp_ => dts_nil) (fun s_ H_ C_ cl_ fp_ => (de_ix (de_v 2) de_int)))) da_nil)))) da_nil)))
  (db_cons (ds_if (dt_tr (de_callB (cr_anyT rfl) vl_any T.m_any (da_cons (de_fz (dn_lc (own := [("one", 5), ("other", 6)]) rfl SS.nd (di_zip T.m_zip (da_cons (de_v 3) (da_cons (de_fz (dn_slL (de_v 3) (dp_so de_int) dp_no)) da_nil))) (blkOk_by (N := N_are_breaks) (sc := defScope S_are_breaks) (by decide +kernel)) (fun s_ H_ C_ cl_ fp_ => (dg_tup rfl (dgs_cons (dg_name SS.nd) (dgs_cons (dg_name SS.nd) dgs_nil)))) (fun s_ H_ C_ cl_ fp_ => dts_nil) (fun s_ H_ C_ cl_ fp_ => (de_ge (de_v 5) (de_v 6))))) da_nil))) (db_one (ds_ret de_bl)) db_nil)
  (db_one (ds_ret (de_callB (cr_allT rfl) vl_all T.m_all (da_cons (de_fz (dn_lc (own := [("one", 5), ("other", 6)]) rfl SS.nd (di_zip T.m_zip (da_cons (de_v 4) (da_cons (de_fz (dn_slL (de_v 4) (dp_so de_int) dp_no)) da_nil))) (blkOk_by (N := N_are_breaks) (sc := defScope S_are_breaks) (by decide +kernel)) (fun s_ H_ C_ cl_ fp_ => (dg_tup rfl (dgs_cons (dg_name SS.nd) (dgs_cons (dg_name SS.nd) dgs_nil)))) (fun s_ H_ C_ cl_ fp_ => dts_nil) (fun s_ H_ C_ cl_ fp_ => (de_lt hu (de_v 5) (de_v 6))))) da_nil))))))))

/-! ### fixed -/
abbrev S_fixed : Stmt := top 19
abbrev N_fixed : List Str := ["value", "one"]
theorem sc_fixed : FnScope N_fixed ["value"] (defScope S_fixed) := ⟨rfl, rfl, rfl, by decide +kernel, rfl, by decide +kernel, by decide +kernel⟩
def c_fixed (m : Md) : CS := (cSeq (cIfS (cTr (c1 (kIsiT isi ics ecs [(.b "list"), (.b "tuple")]) (cV 0))) (cRet (cCall (k1 kTuple) (cCons (cFz (cLc (cItS (cV 0)) [1] (gNm 1) cYes (cCall (fun ds S => if ds.length = 1 then m ds S else none) (cCons (cV 1) cNil)))) cNil))) cSkip)
  (cRet (cV 0)))
def m_fixed : Nat → Md
  | 0 => fun _ _ => none
  | n + 1 => runDef N_fixed 1 (c_fixed (m_fixed n))
theorem b_fixed {f : Addr} {qual : Str} {k : Nat} {m : Md} (T : TX K mg CT) (G_fixed : Fn P w K mg base CT k "fixed" 1 m) (cdv : Value) (A : Around) (outer : List Env) (s : Shared) (H : Hp) (E : XK) (hr : Room k (A.deeper (envOfC qual (defScope S_fixed) s.heap.objs.size f cdv))) :
    DBx (cxOf (L2.CX P w) P w K mg base N_fixed qual (defScope S_fixed) f cdv A outer s H E) CT (fun cls d _ H => E cls d H) (defBody S_fixed) (c_fixed m) := by
  have hu := units64 hr
  have SS := sc_fixed
  have tk : Takes (cxOf (L2.CX P w) P w K mg base N_fixed qual (defScope S_fixed) f cdv A outer s H E) (fun cls d _ H => E cls d H) := takes_of rfl rfl rfl rfl
  exact (db_cons (ds_if (dt_tr (de_isiT (us := [(.b "list"), (.b "tuple")]) T.IK (de_v 0) ⟨rfl, by decide, ⟨T.m_list, by decide +kernel, by decide⟩, ⟨rfl, by decide, ⟨T.m_tuple, by decide +kernel, by decide⟩, trivial⟩⟩ T.m_isinstance)) (db_one (ds_ret (de_callTy call_tuple_of vl_tuple T.m_tuple (da_cons (de_fz (dn_lc (own := [("one", 1)]) rfl SS.nd (di_seq (de_v 0)) (blkOk_by (N := N_fixed) (sc := defScope S_fixed) (by decide +kernel)) (fun s_ H_ C_ cl_ fp_ => (dg_name SS.nd)) (fun s_ H_ C_ cl_ fp_ => dts_nil) (fun s_ H_ C_ cl_ fp_ => (de_call G_fixed hr takes_F (da_cons (de_v 1) da_nil))))) da_nil)))) db_nil)
  (db_one (ds_ret (de_v 0))))

/-! ### Price.__init__ -/
abbrev S_Price___init__ : Stmt := inClass (top 24) 0
abbrev N_Price___init__ : List Str := ["self", "first", "breaks"]
theorem sc_Price___init__ : FnScope N_Price___init__ ["self", "first", "breaks"] (defScope S_Price___init__) := ⟨rfl, rfl, rfl, by decide +kernel, rfl, by decide +kernel, by decide +kernel⟩
def c_Price___init__ : CS := (cSeq (cIfS (cNot (cTr (cCall (fun ds S => if ds.length = 2 then m_is_within ds S else none) (cCons (cV 1) (cCons (cK (.int 1000000)) cNil))))) (cRaise1 "BadPrice" "part" (cCons (cK (.str "first")) cNil)) cSkip)
  (cSeq (cIfS (cNot (cTr (cCall (fun ds S => if ds.length = 2 then m_are_breaks ds S else none) (cCons (cV 2) (cCons (cV 1) cNil))))) (cRaise1 "BadPrice" "part" (cCons (cK (.str "breaks")) cNil)) cSkip)
  (cSeq (cFld ["Price"] "first" (cV 1) (cV 0))
  (cSeq (cFld ["Price"] "breaks" (cCall (fun ds S => if ds.length = 1 then (m_fixed 3) ds S else none) (cCons (cV 2) cNil)) (cV 0))
  (cSeq (cFld ["Price"] "low" (cV 1) (cV 0))
  (cFld ["Price"] "high" (cIf (cT (c2 (kEq true) (c1 (kFld ["Price"] "breaks") (cV 0)) (cTupE cNil))) (c2 kIx (c2 kIx (c1 (kFld ["Price"] "breaks") (cV 0)) (c1 kNeg (cK (.int 1)))) (cK (.int 1))) (cV 1)) (cV 0)))))))
def m_Price___init__ : Md := runDef N_Price___init__ 3 c_Price___init__
theorem b_Price___init__ {f : Addr} {qual : Str} (T : TX K mg CT) (G_are_breaks : Fn P w K mg base CT 3 "are_breaks" 2 m_are_breaks) (G_fixed : Fn P w K mg base CT 3 "fixed" 1 (m_fixed 3)) (G_is_within : Fn P w K mg base CT 2 "is_within" 2 m_is_within) (GX_BadPrice : Xc1 P w K mg base CT 1 "BadPrice" "part") (cdv : Value) (A : Around) (outer : List Env) (s : Shared) (H : Hp) (E : XK) (hr : Room 4 (A.deeper (envOfC qual (defScope S_Price___init__) s.heap.objs.size f cdv))) :
    DBx (cxOf (L2.CX P w) P w K mg base N_Price___init__ qual (defScope S_Price___init__) f cdv A outer s H E) CT (fun cls d _ H => E cls d H) (defBody S_Price___init__) c_Price___init__ := by
  have hu := units64 hr
  have SS := sc_Price___init__
  have tk : Takes (cxOf (L2.CX P w) P w K mg base N_Price___init__ qual (defScope S_Price___init__) f cdv A outer s H E) (fun cls d _ H => E cls d H) := takes_of rfl rfl rfl rfl
  exact (db_cons (ds_if (dt_not (dt_tr (de_call G_is_within (hr.mono (by decide)) tk (da_cons (de_v 1) (da_cons (de_gint rfl T.g_MOST_SLOPE) da_nil))))) (db_one (ds_raise1 GX_BadPrice rfl (hr.mono (by decide)) tk (da_cons de_str da_nil))) db_nil)
  (db_cons (ds_if (dt_not (dt_tr (de_call G_are_breaks (hr.mono (by decide)) tk (da_cons (de_v 2) (da_cons (de_v 1) da_nil))))) (db_one (ds_raise1 GX_BadPrice rfl (hr.mono (by decide)) tk (da_cons de_str da_nil))) db_nil)
  (db_cons (ds_fld T.a_first (de_v 0) (de_v 1))
  (db_cons (ds_fld T.a_breaks (de_v 0) (de_call G_fixed (hr.mono (by decide)) tk (da_cons (de_v 2) da_nil)))
  (db_cons (ds_fld T.a_low (de_v 0) (de_v 1))
  (db_one (ds_fld T.a_high (de_v 0) (de_if (dt_ne hu (de_fld T.a_breaks (de_v 0)) (de_tup da_nil)) (de_ix (de_ix (de_fld T.a_breaks (de_v 0)) (de_neg de_int)) de_int) (de_v 1)))))))))

/-! ### Price.slope -/
abbrev S_Price_slope : Stmt := inClass (top 24) 2
abbrev N_Price_slope : List Str := ["self", "n", "spot", "slope"]
theorem sc_Price_slope : FnScope N_Price_slope ["self", "n"] (defScope S_Price_slope) := ⟨rfl, rfl, rfl, by decide +kernel, rfl, by decide +kernel, by decide +kernel⟩
def c_Price_slope : CS := (cSeq (cDrop (cCall (fun ds S => if ds.length = 2 then m_need_whole ds S else none) (cCons (cV 1) (cCons (cK (.str "n")) cNil))))
  (cRet (c2 kIx (cFz (cCat (cFz (cLstE (cCons (c1 (kFld ["Price"] "first") (cV 0)) cNil))) (cFz (cLc (cItS (c1 (kFld ["Price"] "breaks") (cV 0))) [2, 3] (gTp 2 (gMore (gNm 2) (gMore (gNm 3) gNone))) (cT (c2 kLe (cV 2) (cV 1))) (cV 3))))) (c1 kNeg (cK (.int 1))))))
def m_Price_slope : Md := runDef N_Price_slope 2 c_Price_slope
theorem b_Price_slope {f : Addr} {qual : Str} (T : TX K mg CT) (G_need_whole : Fn P w K mg base CT 3 "need_whole" 2 m_need_whole) (cdv : Value) (A : Around) (outer : List Env) (s : Shared) (H : Hp) (E : XK) (hr : Room 3 (A.deeper (envOfC qual (defScope S_Price_slope) s.heap.objs.size f cdv))) :
    DBx (cxOf (L2.CX P w) P w K mg base N_Price_slope qual (defScope S_Price_slope) f cdv A outer s H E) CT (fun cls d _ H => E cls d H) (defBody S_Price_slope) c_Price_slope := by
  have hu := units64 hr
  have SS := sc_Price_slope
  have tk : Takes (cxOf (L2.CX P w) P w K mg base N_Price_slope qual (defScope S_Price_slope) f cdv A outer s H E) (fun cls d _ H => E cls d H) := takes_of rfl rfl rfl rfl
  exact (db_cons (ds_expr (de_call G_need_whole (hr.mono (by decide)) tk (da_cons (de_v 1) (da_cons de_str da_nil))))
  (db_one (ds_ret (de_ix (de_fz (dn_cat (de_fz (dn_lst (da_cons (de_fld T.a_first (de_v 0)) da_nil))) (de_fz (dn_lc (own := [("spot", 2), ("slope", 3)]) rfl SS.nd (di_seq (de_fld T.a_breaks (de_v 0))) (blkOk_by (N := N_Price_slope) (sc := defScope S_Price_slope) (by decide +kernel)) (fun s_ H_ C_ cl_ fp_ => (dg_tup rfl (dgs_cons (dg_name SS.nd) (dgs_cons (dg_name SS.nd) dgs_nil)))) (fun s_ H_ C_ cl_ fp_ => (dts_one (dt_le (de_v 2) (de_v 1)))) (fun s_ H_ C_ cl_ fp_ => (de_v 3)))))) (de_neg de_int)))))

/-! ### Price.at -/
abbrev S_Price_at : Stmt := inClass (top 24) 3
abbrev N_Price_at : List Str := ["self", "n"]
theorem sc_Price_at : FnScope N_Price_at ["self", "n"] (defScope S_Price_at) := ⟨rfl, rfl, rfl, by decide +kernel, rfl, by decide +kernel, by decide +kernel⟩
def c_Price_at : CS := (cSeq (cDrop (cCall (fun ds S => if ds.length = 2 then m_need_whole ds S else none) (cCons (cV 1) (cCons (cK (.str "n")) cNil))))
  (cRet (cCall (fun ds S => if ds.length = 2 then m_price_at ds S else none) (cCons (cV 0) (cCons (cV 1) cNil)))))
def m_Price_at : Md := runDef N_Price_at 2 c_Price_at
theorem b_Price_at {f : Addr} {qual : Str} (T : TX K mg CT) (G_need_whole : Fn P w K mg base CT 3 "need_whole" 2 m_need_whole) (G_price_at : Fn P w K mg base CT 1 "price_at" 2 m_price_at) (cdv : Value) (A : Around) (outer : List Env) (s : Shared) (H : Hp) (E : XK) (hr : Room 3 (A.deeper (envOfC qual (defScope S_Price_at) s.heap.objs.size f cdv))) :
    DBx (cxOf (L2.CX P w) P w K mg base N_Price_at qual (defScope S_Price_at) f cdv A outer s H E) CT (fun cls d _ H => E cls d H) (defBody S_Price_at) c_Price_at := by
  have hu := units64 hr
  have SS := sc_Price_at
  have tk : Takes (cxOf (L2.CX P w) P w K mg base N_Price_at qual (defScope S_Price_at) f cdv A outer s H E) (fun cls d _ H => E cls d H) := takes_of rfl rfl rfl rfl
  exact (db_cons (ds_expr (de_call G_need_whole (hr.mono (by decide)) tk (da_cons (de_v 1) (da_cons de_str da_nil))))
  (db_one (ds_ret (de_call G_price_at (hr.mono (by decide)) tk (da_cons (de_v 0) (da_cons (de_v 1) da_nil))))))

/-! ### Price.more -/
abbrev S_Price_more : Stmt := inClass (top 24) 4
abbrev N_Price_more : List Str := ["self", "d", "spot", "slope"]
theorem sc_Price_more : FnScope N_Price_more ["self", "d"] (defScope S_Price_more) := ⟨rfl, rfl, rfl, by decide +kernel, rfl, by decide +kernel, by decide +kernel⟩
def c_Price_more : CS := (cSeq (cDrop (cCall (fun ds S => if ds.length = 2 then m_need_whole ds S else none) (cCons (cV 1) (cCons (cK (.str "d")) cNil))))
  (cRet (cCall (fun ds S => if ds.length = 2 then kMake "Price" m_Price___init__ ds S else none) (cCons (c2 kAdd (c1 (kFld ["Price"] "first") (cV 0)) (cV 1)) (cCons (cFz (cLc (cItS (c1 (kFld ["Price"] "breaks") (cV 0))) [2, 3] (gTp 2 (gMore (gNm 2) (gMore (gNm 3) gNone))) cYes (cTupE (cCons (cV 2) (cCons (c2 kAdd (cV 3) (cV 1)) cNil))))) cNil)))))
def m_Price_more : Md := runDef N_Price_more 2 c_Price_more
theorem b_Price_more {f : Addr} {qual : Str} (T : TX K mg CT) (G_need_whole : Fn P w K mg base CT 3 "need_whole" 2 m_need_whole) (GM_Price : Mkr P w K mg base CT 5 "Price" 2 m_Price___init__) (cdv : Value) (A : Around) (outer : List Env) (s : Shared) (H : Hp) (E : XK) (hr : Room 6 (A.deeper (envOfC qual (defScope S_Price_more) s.heap.objs.size f cdv))) :
    DBx (cxOf (L2.CX P w) P w K mg base N_Price_more qual (defScope S_Price_more) f cdv A outer s H E) CT (fun cls d _ H => E cls d H) (defBody S_Price_more) c_Price_more := by
  have hu := units64 hr
  have SS := sc_Price_more
  have tk : Takes (cxOf (L2.CX P w) P w K mg base N_Price_more qual (defScope S_Price_more) f cdv A outer s H E) (fun cls d _ H => E cls d H) := takes_of rfl rfl rfl rfl
  exact (db_cons (ds_expr (de_call G_need_whole (hr.mono (by decide)) tk (da_cons (de_v 1) (da_cons de_str da_nil))))
  (db_one (ds_ret (de_make GM_Price (hr.mono (by decide)) tk (da_cons (de_add (de_fld T.a_first (de_v 0)) (de_v 1)) (da_cons (de_fz (dn_lc (own := [("spot", 2), ("slope", 3)]) rfl SS.nd (di_seq (de_fld T.a_breaks (de_v 0))) (blkOk_by (N := N_Price_more) (sc := defScope S_Price_more) (by decide +kernel)) (fun s_ H_ C_ cl_ fp_ => (dg_tup rfl (dgs_cons (dg_name SS.nd) (dgs_cons (dg_name SS.nd) dgs_nil)))) (fun s_ H_ C_ cl_ fp_ => dts_nil) (fun s_ H_ C_ cl_ fp_ => (de_tup (da_cons (de_v 2) (da_cons (de_add (de_v 3) (de_v 1)) da_nil)))))) da_nil))))))

/-! ### Price.__eq__ -/
abbrev S_Price___eq__ : Stmt := inClass (top 24) 1
abbrev N_Price___eq__ : List Str := ["self", "other"]
theorem sc_Price___eq__ : FnScope N_Price___eq__ ["self", "other"] (defScope S_Price___eq__) := ⟨rfl, rfl, rfl, by decide +kernel, rfl, by decide +kernel, by decide +kernel⟩
def c_Price___eq__ : CS := (cRet (cAndV (cCall (k2 (kIsi isi ics ecs)) (cCons (cV 1) (cCons (cK (.cls "Price")) cNil))) (c2 (kEq false) (cTupE (cCons (c1 (kFld ["Price"] "first") (cV 0)) (cCons (c1 (kFld ["Price"] "breaks") (cV 0)) cNil))) (cTupE (cCons (c1 (kFld ["Price"] "first") (cV 1)) (cCons (c1 (kFld ["Price"] "breaks") (cV 1)) cNil))))))
def m_Price___eq__ : Md := runDef N_Price___eq__ 2 c_Price___eq__
theorem b_Price___eq__ {f : Addr} {qual : Str} (T : TX K mg CT) (cdv : Value) (A : Around) (outer : List Env) (s : Shared) (H : Hp) (E : XK) (hr : Room 0 (A.deeper (envOfC qual (defScope S_Price___eq__) s.heap.objs.size f cdv))) :
    DBx (cxOf (L2.CX P w) P w K mg base N_Price___eq__ qual (defScope S_Price___eq__) f cdv A outer s H E) CT (fun cls d _ H => E cls d H) (defBody S_Price___eq__) c_Price___eq__ := by
  have hu := units64 hr
  have SS := sc_Price___eq__
  have tk : Takes (cxOf (L2.CX P w) P w K mg base N_Price___eq__ qual (defScope S_Price___eq__) f cdv A outer s H E) (fun cls d _ H => E cls d H) := takes_of rfl rfl rfl rfl
  exact (db_one (ds_ret (de_and (de_callB call_isA (vl_isi T.IK) T.m_isinstance (da_cons (de_v 1) (da_cons (de_gcls T.c_Price.1 T.c_Price.2) da_nil))) (de_one (de_eq hu (de_tup (da_cons (de_fld T.a_first (de_v 0)) (da_cons (de_fld T.a_breaks (de_v 0)) da_nil))) (de_tup (da_cons (de_fld T.a_first (de_v 1)) (da_cons (de_fld T.a_breaks (de_v 1)) da_nil))))))))

end
end K09

set_option Elab.async false
set_option linter.all false
set_option maxRecDepth 100000
set_option maxHeartbeats 4000000
set_option autoImplicit false
namespace K09
open PySem PySem.Spec PyProof.Rows L2 DE
section
variable {P : Program} {w : World} {K : PySem.W.Frag} {mg : Str → Option Value} {base : Heap} {CT : Cfg}
/-! ### _law_pen -/
abbrev S__law_pen : Stmt := top 28
abbrev N__law_pen : List Str := ["script", "cell"]
theorem sc__law_pen : FnScope N__law_pen ["script"] (defScope S__law_pen) := ⟨rfl, rfl, rfl, by decide +kernel, rfl, by decide +kernel, by decide +kernel⟩
def c__law_pen : CS := (cRet (cLv (cLstE (cCons (cFz (cLc (cItS (cFz (cSlL (cV 0) cPno (cPso (cK (.int 63)))))) [1] (gNm 1) cYes (cCall (k1 kInt) (cCons (cV 1) cNil)))) (cCons (cK (.int 0)) (cCons (cK (.int 0)) cNil))))))
def m__law_pen : Md := runDef N__law_pen 1 c__law_pen
theorem b__law_pen {f : Addr} {qual : Str} (T : TX K mg CT) (cdv : Value) (A : Around) (outer : List Env) (s : Shared) (H : Hp) (E : XK) (hr : Room 0 (A.deeper (envOfC qual (defScope S__law_pen) s.heap.objs.size f cdv))) :
    DBx (cxOf (L2.CX P w) P w K mg base N__law_pen qual (defScope S__law_pen) f cdv A outer s H E) CT (fun cls d _ H => E cls d H) (defBody S__law_pen) c__law_pen := by
  have hu := units64 hr
  have SS := sc__law_pen
  have tk : Takes (cxOf (L2.CX P w) P w K mg base N__law_pen qual (defScope S__law_pen) f cdv A outer s H E) (fun cls d _ H => E cls d H) := takes_of rfl rfl rfl rfl
  exact (db_one (ds_ret (de_lv (dn_lst (da_cons (de_fz (dn_lc (own := [("cell", 1)]) rfl SS.nd (di_seq (de_fz (dn_slL (de_v 0) dp_no (dp_so de_int)))) (blkOk_by (N := N__law_pen) (sc := defScope S__law_pen) (by decide +kernel)) (fun s_ H_ C_ cl_ fp_ => (dg_name SS.nd)) (fun s_ H_ C_ cl_ fp_ => dts_nil) (fun s_ H_ C_ cl_ fp_ => (de_callTy call_int1 vl_int T.m_int (da_cons (de_v 1) da_nil))))) (da_cons de_int (da_cons de_int da_nil)))))))

/-! ### _law_draw -/
abbrev S__law_draw : Stmt := top 29
abbrev N__law_draw : List Str := ["pen", "many", "rest", "at", "cell", "mixed"]
theorem sc__law_draw : FnScope N__law_draw ["pen", "many"] (defScope S__law_draw) := ⟨rfl, rfl, rfl, by decide +kernel, rfl, by decide +kernel, by decide +kernel⟩
def c__law_draw : CS := (cSeq (cIfS (cT (c2 kGt (c2 kIx (cV 0) (cK (.int 2))) (cK (.int 0)))) (cSeq (cSet 2 (cCall (k1 kInt) (cCons (c2 kIx (cV 0) (cK (.int 2))) cNil)))
  (cSeq (cSetIx (c2 kDiv (cV 2) (cV 1)) (cV 0) (cK (.int 2)))
  (cRet (c2 kMod (cCall (k1 kInt) (cCons (cV 2) cNil)) (cV 1))))) cSkip)
  (cSeq (cSet 3 (c2 kIx (cV 0) (cK (.int 1))))
  (cSeq (cSetIx (c2 kAdd (cV 3) (cK (.int 1))) (cV 0) (cK (.int 1)))
  (cSeq (cSet 4 (c2 kAdd (c2 kMul (cK (.int 61487)) (cV 3)) (cK (.int 20749))))
  (cSeq (cIfS (cT (c2 (kEq true) (c2 kIx (cV 0) (cK (.int 0))) (cFz (cLstE cNil)))) (cSet 4 (c2 kIx (c2 kIx (cV 0) (cK (.int 0))) (c2 kMod (cCall (k1 kInt) (cCons (cV 3) cNil)) (cCall (k1 kLen) (cCons (c2 kIx (cV 0) (cK (.int 0))) cNil))))) cSkip)
  (cSeq (cIfS (cAnd (cT (c2 kLt (cV 3) (cCall (k1 kLen) (cCons (c2 kIx (cV 0) (cK (.int 0))) cNil)))) (cT (c2 kGe (cCall (k1 kAbs) (cCons (cV 4) cNil)) (c2 kPow (cK (.int 10)) (cK (.int 18)))))) (cSeq (cSet 2 (c2 kAdd (c2 kMul (cK (.int 2)) (c2 kSub (cCall (k1 kAbs) (cCons (cV 4) cNil)) (c2 kPow (cK (.int 10)) (cK (.int 18))))) (cCall (k1 kInt) (cCons (c2 kLt (cV 4) (cK (.int 0))) cNil))))
  (cSeq (cSetIx (c2 kDiv (cCall (k1 kInt) (cCons (cV 2) cNil)) (cV 1)) (cV 0) (cK (.int 2)))
  (cRet (c2 kMod (cCall (k1 kInt) (cCons (cV 2) cNil)) (cV 1))))) cSkip)
  (cSeq (cSet 5 (c2 kMod (cCall (k1 kInt) (cCons (c2 kPow (c2 kAdd (c2 kAdd (c2 kMod (cCall (k1 kInt) (cCons (cV 4) cNil)) (cK (.int 2147483563))) (c2 kMul (cK (.int 73609)) (cV 3))) (cK (.int 1201))) (cK (.int 5))) cNil)) (cK (.int 2147483549))))
  (cSeq (cSet 5 (c2 kMod (cCall (k1 kInt) (cCons (c2 kPow (c2 kAdd (c2 kAdd (c2 kMul (cV 5) (c2 kAdd (c2 kMul (cK (.int 2)) (cV 3)) (cK (.int 1201)))) (c2 kMul (c2 kMul (cK (.int 61487)) (cV 3)) (cV 3))) (cK (.int 73609))) (cK (.int 3))) cNil)) (cK (.int 2147483579))))
  (cRet (c2 kMod (cCall (k1 kInt) (cCons (c2 kDiv (cV 5) (cK (.int 64))) cNil)) (cV 1)))))))))))
def m__law_draw : Md := runDef N__law_draw 2 c__law_draw
theorem b__law_draw {f : Addr} {qual : Str} (T : TX K mg CT) (cdv : Value) (A : Around) (outer : List Env) (s : Shared) (H : Hp) (E : XK) (hr : Room 0 (A.deeper (envOfC qual (defScope S__law_draw) s.heap.objs.size f cdv))) :
    DBx (cxOf (L2.CX P w) P w K mg base N__law_draw qual (defScope S__law_draw) f cdv A outer s H E) CT (fun cls d _ H => E cls d H) (defBody S__law_draw) c__law_draw := by
  have hu := units64 hr
  have SS := sc__law_draw
  have tk : Takes (cxOf (L2.CX P w) P w K mg base N__law_draw qual (defScope S__law_draw) f cdv A outer s H E) (fun cls d _ H => E cls d H) := takes_of rfl rfl rfl rfl
  exact (db_cons (ds_if (dt_gt (de_ix (de_v 0) de_int) de_int) (db_cons (ds_set SS.nd (de_callTy call_int1 vl_int T.m_int (da_cons (de_ix (de_v 0) de_int) da_nil)))
  (db_cons (ds_setIx (de_div (de_v 2) (de_v 1)) (de_v 0) de_int (by intro _; rfl))
  (db_one (ds_ret (de_mod (de_callTy call_int1 vl_int T.m_int (da_cons (de_v 2) da_nil)) (de_v 1)))))) db_nil)
  (db_cons (ds_set SS.nd (de_ix (de_v 0) de_int))
  (db_cons (ds_setIx (de_add (de_v 3) de_int) (de_v 0) de_int (by intro _; rfl))
  (db_cons (ds_set SS.nd (de_add (de_mul de_int (de_v 3)) de_int))
  (db_cons (ds_if (dt_ne hu (de_ix (de_v 0) de_int) (de_fz (dn_lst da_nil))) (db_one (ds_set SS.nd (de_ix (de_ix (de_v 0) de_int) (de_mod (de_callTy call_int1 vl_int T.m_int (da_cons (de_v 3) da_nil)) (de_callB call_len vl_len T.m_len (da_cons (de_ix (de_v 0) de_int) da_nil)))))) db_nil)
  (db_cons (ds_if (dt_w (dw_and (dt_lt hu (de_v 3) (de_callB call_len vl_len T.m_len (da_cons (de_ix (de_v 0) de_int) da_nil))) (dw_and1 (dt_ge (de_callB call_abs vl_abs T.m_abs (da_cons (de_v 4) da_nil)) (de_pow de_int de_int))))) (db_cons (ds_set SS.nd (de_add (de_mul de_int (de_sub (de_callB call_abs vl_abs T.m_abs (da_cons (de_v 4) da_nil)) (de_pow de_int de_int))) (de_callTy call_int1 vl_int T.m_int (da_cons (de_lt hu (de_v 4) de_int) da_nil))))
  (db_cons (ds_setIx (de_div (de_callTy call_int1 vl_int T.m_int (da_cons (de_v 2) da_nil)) (de_v 1)) (de_v 0) de_int (by intro _; rfl))
  (db_one (ds_ret (de_mod (de_callTy call_int1 vl_int T.m_int (da_cons (de_v 2) da_nil)) (de_v 1)))))) db_nil)
  (db_cons (ds_set SS.nd (de_mod (de_callTy call_int1 vl_int T.m_int (da_cons (de_pow (de_add (de_add (de_mod (de_callTy call_int1 vl_int T.m_int (da_cons (de_v 4) da_nil)) de_int) (de_mul de_int (de_v 3))) de_int) de_int) da_nil)) de_int))
  (db_cons (ds_set SS.nd (de_mod (de_callTy call_int1 vl_int T.m_int (da_cons (de_pow (de_add (de_add (de_mul (de_v 5) (de_add (de_mul de_int (de_v 3)) de_int)) (de_mul (de_mul de_int (de_v 3)) (de_v 3))) de_int) de_int) da_nil)) de_int))
  (db_one (ds_ret (de_mod (de_callTy call_int1 vl_int T.m_int (da_cons (de_div (de_v 5) de_int) da_nil)) (de_v 1))))))))))))

/-! ### _law_pick -/
abbrev S__law_pick : Stmt := top 30
abbrev N__law_pick : List Str := ["pen", "some"]
theorem sc__law_pick : FnScope N__law_pick ["pen", "some"] (defScope S__law_pick) := ⟨rfl, rfl, rfl, by decide +kernel, rfl, by decide +kernel, by decide +kernel⟩
def c__law_pick : CS := (cRet (c2 kIx (cV 1) (cCall (fun ds S => if ds.length = 2 then m__law_draw ds S else none) (cCons (cV 0) (cCons (cCall (k1 kLen) (cCons (cV 1) cNil)) cNil)))))
def m__law_pick : Md := runDef N__law_pick 2 c__law_pick
theorem b__law_pick {f : Addr} {qual : Str} (T : TX K mg CT) (G__law_draw : Fn P w K mg base CT 1 "_law_draw" 2 m__law_draw) (cdv : Value) (A : Around) (outer : List Env) (s : Shared) (H : Hp) (E : XK) (hr : Room 1 (A.deeper (envOfC qual (defScope S__law_pick) s.heap.objs.size f cdv))) :
    DBx (cxOf (L2.CX P w) P w K mg base N__law_pick qual (defScope S__law_pick) f cdv A outer s H E) CT (fun cls d _ H => E cls d H) (defBody S__law_pick) c__law_pick := by
  have hu := units64 hr
  have SS := sc__law_pick
  have tk : Takes (cxOf (L2.CX P w) P w K mg base N__law_pick qual (defScope S__law_pick) f cdv A outer s H E) (fun cls d _ H => E cls d H) := takes_of rfl rfl rfl rfl
  exact (db_one (ds_ret (de_ix (de_v 1) (de_call G__law_draw (hr.mono (by decide)) tk (da_cons (de_v 0) (da_cons (de_callB call_len vl_len T.m_len (da_cons (de_v 1) da_nil)) da_nil))))))

/-! ### _law_slope -/
abbrev S__law_slope : Stmt := top 32
abbrev N__law_slope : List Str := ["price", "n", "found", "spot", "slope"]
theorem sc__law_slope : FnScope N__law_slope ["price", "n"] (defScope S__law_slope) := ⟨rfl, rfl, rfl, by decide +kernel, rfl, by decide +kernel, by decide +kernel⟩
def c__law_slope : CS := (cSeq (cSet 2 (c2 kIx (cV 0) (cK (.int 0))))
  (cSeq (cFor (cItS (c2 kIx (cV 0) (cK (.int 1)))) (gTp 2 (gMore (gNm 3) (gMore (gNm 4) gNone)))
  (cSet 2 (cIf (cT (c2 kLe (cV 3) (cV 1))) (cV 4) (cV 2))))
  (cRet (cV 2))))
def m__law_slope : Md := runDef N__law_slope 2 c__law_slope
theorem b__law_slope {f : Addr} {qual : Str} (T : TX K mg CT) (cdv : Value) (A : Around) (outer : List Env) (s : Shared) (H : Hp) (E : XK) (hr : Room 0 (A.deeper (envOfC qual (defScope S__law_slope) s.heap.objs.size f cdv))) :
    DBx (cxOf (L2.CX P w) P w K mg base N__law_slope qual (defScope S__law_slope) f cdv A outer s H E) CT (fun cls d _ H => E cls d H) (defBody S__law_slope) c__law_slope := by
  have hu := units64 hr
  have SS := sc__law_slope
  have tk : Takes (cxOf (L2.CX P w) P w K mg base N__law_slope qual (defScope S__law_slope) f cdv A outer s H E) (fun cls d _ H => E cls d H) := takes_of rfl rfl rfl rfl
  have po : PassesOwn (model P w) (cxOf (L2.CX P w) P w K mg base N__law_slope qual (defScope S__law_slope) f cdv A outer s H E).A (cxOf (L2.CX P w) P w K mg base N__law_slope qual (defScope S__law_slope) f cdv A outer s H E).env (cxOf (L2.CX P w) P w K mg base N__law_slope qual (defScope S__law_slope) f cdv A outer s H E).xe := passes_of rfl
  exact (db_cons (ds_set SS.nd (de_ix (de_v 0) de_int))
  (db_cons (ds_for po rfl (di_seq (de_ix (de_v 0) de_int)) (dg_tup rfl (dgs_cons (dg_name SS.nd) (dgs_cons (dg_name SS.nd) dgs_nil)))
  (db_one (ds_set SS.nd (de_if (dt_le (de_v 3) (de_v 1)) (de_v 4) (de_v 2)))))
  (db_one (ds_ret (de_v 2)))))

/-! ### _law_at -/
abbrev S__law_at : Stmt := top 33
abbrev N__law_at : List Str := ["price", "n", "step"]
theorem sc__law_at : FnScope N__law_at ["price", "n"] (defScope S__law_at) := ⟨rfl, rfl, rfl, by decide +kernel, rfl, by decide +kernel, by decide +kernel⟩
def c__law_at : CS := (cSeq (cIfS (cT (c2 kGe (cV 1) (cK (.int 0)))) (cRet (cCall (k1 kSum) (cCons (cFz (cLc (cRange1 (cCons (cV 1) cNil)) [2] (gNm 2) cYes (cCall (fun ds S => if ds.length = 2 then m__law_slope ds S else none) (cCons (cV 0) (cCons (cV 2) cNil))))) cNil))) cSkip)
  (cRet (c2 kSub (cK (.int 0)) (cCall (k1 kSum) (cCons (cFz (cLc (cRange2 (cCons (cV 1) (cCons (cK (.int 0)) cNil))) [2] (gNm 2) cYes (cCall (fun ds S => if ds.length = 2 then m__law_slope ds S else none) (cCons (cV 0) (cCons (cV 2) cNil))))) cNil)))))
def m__law_at : Md := runDef N__law_at 2 c__law_at
theorem b__law_at {f : Addr} {qual : Str} (T : TX K mg CT) (G__law_slope : Fn P w K mg base CT 1 "_law_slope" 2 m__law_slope) (cdv : Value) (A : Around) (outer : List Env) (s : Shared) (H : Hp) (E : XK) (hr : Room 1 (A.deeper (envOfC qual (defScope S__law_at) s.heap.objs.size f cdv))) :
    DBx (cxOf (L2.CX P w) P w K mg base N__law_at qual (defScope S__law_at) f cdv A outer s H E) CT (fun cls d _ H => E cls d H) (defBody S__law_at) c__law_at := by
  have hu := units64 hr
  have SS := sc__law_at
  have tk : Takes (cxOf (L2.CX P w) P w K mg base N__law_at qual (defScope S__law_at) f cdv A outer s H E) (fun cls d _ H => E cls d H) := takes_of rfl rfl rfl rfl
  exact (db_cons (ds_if (dt_ge (de_v 1) de_int) (db_one (ds_ret (de_callB (cr_sum rfl) vl_sum T.m_sum (da_cons (de_fz (dn_lc (own := [("step", 2)]) rfl SS.nd (di_range1 T.m_range (da_cons (de_v 1) da_nil)) (blkOk_by (N := N__law_at) (sc := defScope S__law_at) (by decide +kernel)) (fun s_ H_ C_ cl_ fp_ => (dg_name SS.nd)) (fun s_ H_ C_ cl_ fp_ => dts_nil) (fun s_ H_ C_ cl_ fp_ => (de_call G__law_slope (hr.mono (by decide)) takes_F (da_cons (de_v 0) (da_cons (de_v 2) da_nil)))))) da_nil)))) db_nil)
  (db_one (ds_ret (de_sub de_int (de_callB (cr_sum rfl) vl_sum T.m_sum (da_cons (de_fz (dn_lc (own := [("step", 2)]) rfl SS.nd (di_range2 T.m_range (da_cons (de_v 1) (da_cons de_int da_nil))) (blkOk_by (N := N__law_at) (sc := defScope S__law_at) (by decide +kernel)) (fun s_ H_ C_ cl_ fp_ => (dg_name SS.nd)) (fun s_ H_ C_ cl_ fp_ => dts_nil) (fun s_ H_ C_ cl_ fp_ => (de_call G__law_slope (hr.mono (by decide)) takes_F (da_cons (de_v 0) (da_cons (de_v 2) da_nil)))))) da_nil))))))

/-! ### _law_ten -/
abbrev S__law_ten : Stmt := top 34
abbrev N__law_ten : List Str := ["many", "found", "turn"]
theorem sc__law_ten : FnScope N__law_ten ["many"] (defScope S__law_ten) := ⟨rfl, rfl, rfl, by decide +kernel, rfl, by decide +kernel, by decide +kernel⟩
def c__law_ten : CS := (cSeq (cSet 1 (cK (.int 1)))
  (cSeq (cFor (cRange1 (cCons (cV 0) cNil)) (gNm 2)
  (cSet 1 (c2 kMul (cV 1) (cK (.int 10)))))
  (cRet (cV 1))))
def m__law_ten : Md := runDef N__law_ten 1 c__law_ten
theorem b__law_ten {f : Addr} {qual : Str} (T : TX K mg CT) (cdv : Value) (A : Around) (outer : List Env) (s : Shared) (H : Hp) (E : XK) (hr : Room 0 (A.deeper (envOfC qual (defScope S__law_ten) s.heap.objs.size f cdv))) :
    DBx (cxOf (L2.CX P w) P w K mg base N__law_ten qual (defScope S__law_ten) f cdv A outer s H E) CT (fun cls d _ H => E cls d H) (defBody S__law_ten) c__law_ten := by
  have hu := units64 hr
  have SS := sc__law_ten
  have tk : Takes (cxOf (L2.CX P w) P w K mg base N__law_ten qual (defScope S__law_ten) f cdv A outer s H E) (fun cls d _ H => E cls d H) := takes_of rfl rfl rfl rfl
  have po : PassesOwn (model P w) (cxOf (L2.CX P w) P w K mg base N__law_ten qual (defScope S__law_ten) f cdv A outer s H E).A (cxOf (L2.CX P w) P w K mg base N__law_ten qual (defScope S__law_ten) f cdv A outer s H E).env (cxOf (L2.CX P w) P w K mg base N__law_ten qual (defScope S__law_ten) f cdv A outer s H E).xe := passes_of rfl
  exact (db_cons (ds_set SS.nd de_int)
  (db_cons (ds_for po rfl (di_range1 T.m_range (da_cons (de_v 0) da_nil)) (dg_name SS.nd)
  (db_one (ds_set SS.nd (de_mul (de_v 1) de_int))))
  (db_one (ds_ret (de_v 1)))))

/-! ### _law_listed -/
abbrev S__law_listed : Stmt := top 35
abbrev N__law_listed : List Str := ["value", "one"]
theorem sc__law_listed : FnScope N__law_listed ["value"] (defScope S__law_listed) := ⟨rfl, rfl, rfl, by decide +kernel, rfl, by decide +kernel, by decide +kernel⟩
def c__law_listed (m : Md) : CS := (cRet (cIf (cTr (cCall (k2 (kIsi isi ics ecs)) (cCons (cV 0) (cCons (cK (.ty "tuple")) cNil)))) (cFz (cLc (cItS (cV 0)) [1] (gNm 1) cYes (cCall (fun ds S => if ds.length = 1 then m ds S else none) (cCons (cV 1) cNil)))) (cV 0)))
def m__law_listed : Nat → Md
  | 0 => fun _ _ => none
  | n + 1 => runDef N__law_listed 1 (c__law_listed (m__law_listed n))
theorem b__law_listed {f : Addr} {qual : Str} {k : Nat} {m : Md} (T : TX K mg CT) (G__law_listed : Fn P w K mg base CT k "_law_listed" 1 m) (cdv : Value) (A : Around) (outer : List Env) (s : Shared) (H : Hp) (E : XK) (hr : Room k (A.deeper (envOfC qual (defScope S__law_listed) s.heap.objs.size f cdv))) :
    DBx (cxOf (L2.CX P w) P w K mg base N__law_listed qual (defScope S__law_listed) f cdv A outer s H E) CT (fun cls d _ H => E cls d H) (defBody S__law_listed) (c__law_listed m) := by
  have hu := units64 hr
  have SS := sc__law_listed
  have tk : Takes (cxOf (L2.CX P w) P w K mg base N__law_listed qual (defScope S__law_listed) f cdv A outer s H E) (fun cls d _ H => E cls d H) := takes_of rfl rfl rfl rfl
  exact (db_one (ds_ret (de_if (dt_tr (de_callB call_isA (vl_isi T.IK) T.m_isinstance (da_cons (de_v 0) (da_cons (de_gty T.m_tuple) da_nil)))) (de_fz (dn_lc (own := [("one", 1)]) rfl SS.nd (di_seq (de_v 0)) (blkOk_by (N := N__law_listed) (sc := defScope S__law_listed) (by decide +kernel)) (fun s_ H_ C_ cl_ fp_ => (dg_name SS.nd)) (fun s_ H_ C_ cl_ fp_ => dts_nil) (fun s_ H_ C_ cl_ fp_ => (de_call G__law_listed hr takes_F (da_cons (de_v 1) da_nil))))) (de_v 0))))

/-! ### _law_wide_price -/
abbrev S__law_wide_price : Stmt := top 36
abbrev N__law_wide_price : List Str := ["pen", "most", "many", "first", "spots", "slopes", "lap"]
theorem sc__law_wide_price : FnScope N__law_wide_price ["pen"] (defScope S__law_wide_price) := ⟨rfl, rfl, rfl, by decide +kernel, rfl, by decide +kernel, by decide +kernel⟩
def c__law_wide_price : CS := (cSeq (cAsg (cTupE (cCons (cCall (fun ds S => if ds.length = 2 then m__law_pick ds S else none) (cCons (cV 0) (cCons (cFz (cLstE (cCons (cK (.int 5)) (cCons (cK (.int 5)) (cCons (cK (.int 30)) (cCons (c2 kPow (cK (.int 10)) (cK (.int 6))) cNil)))))) cNil))) (cCons (cCall (fun ds S => if ds.length = 2 then m__law_pick ds S else none) (cCons (cV 0) (cCons (cFz (cLstE (cCons (cK (.int 0)) (cCons (cK (.int 1)) (cCons (cK (.int 2)) (cCons (cK (.int 8)) cNil)))))) cNil))) cNil))) (gTp 2 (gMore (gNm 1) (gMore (gNm 2) gNone))))
  (cSeq (cSet 3 (c2 kAdd (c2 kSub (cK (.int 0)) (cV 1)) (cCall (fun ds S => if ds.length = 2 then m__law_draw ds S else none) (cCons (cV 0) (cCons (cV 1) cNil)))))
  (cSeq (cSet 4 (cFz (cSortSet (cFz (cLc (cRange1 (cCons (cV 2) cNil)) [6] (gNm 6) cYes (c2 kSub (cCall (fun ds S => if ds.length = 2 then m__law_draw ds S else none) (cCons (cV 0) (cCons (c2 kAdd (c2 kMul (cK (.int 2)) (cV 1)) (cK (.int 1))) cNil))) (cV 1)))))))
  (cSeq (cSet 5 (cFz (cSortSet (cFz (cLc (cRange1 (cCons (cV 2) cNil)) [6] (gNm 6) cYes (c2 kAdd (c2 kAdd (cV 3) (cK (.int 1))) (cCall (fun ds S => if ds.length = 2 then m__law_draw ds S else none) (cCons (cV 0) (cCons (cV 1) cNil)))))))))
  (cRet (cTupE (cCons (cV 3) (cCons (cTupZip (cCons (cV 4) (cCons (cV 5) cNil))) cNil))))))))
def m__law_wide_price : Md := runDef N__law_wide_price 1 c__law_wide_price
theorem b__law_wide_price {f : Addr} {qual : Str} (T : TX K mg CT) (G__law_draw : Fn P w K mg base CT 1 "_law_draw" 2 m__law_draw) (G__law_pick : Fn P w K mg base CT 2 "_law_pick" 2 m__law_pick) (cdv : Value) (A : Around) (outer : List Env) (s : Shared) (H : Hp) (E : XK) (hr : Room 2 (A.deeper (envOfC qual (defScope S__law_wide_price) s.heap.objs.size f cdv))) :
    DBx (cxOf (L2.CX P w) P w K mg base N__law_wide_price qual (defScope S__law_wide_price) f cdv A outer s H E) CT (fun cls d _ H => E cls d H) (defBody S__law_wide_price) c__law_wide_price := by
  have hu := units64 hr
  have SS := sc__law_wide_price
  have tk : Takes (cxOf (L2.CX P w) P w K mg base N__law_wide_price qual (defScope S__law_wide_price) f cdv A outer s H E) (fun cls d _ H => E cls d H) := takes_of rfl rfl rfl rfl
  exact (db_cons (ds_asg (de_tup (da_cons (de_call G__law_pick (hr.mono (by decide)) tk (da_cons (de_v 0) (da_cons (de_fz (dn_lst (da_cons de_int (da_cons de_int (da_cons de_int (da_cons (de_pow de_int de_int) da_nil)))))) da_nil))) (da_cons (de_call G__law_pick (hr.mono (by decide)) tk (da_cons (de_v 0) (da_cons (de_fz (dn_lst (da_cons de_int (da_cons de_int (da_cons de_int (da_cons de_int da_nil)))))) da_nil))) da_nil))) (dg_tup rfl (dgs_cons (dg_name SS.nd) (dgs_cons (dg_name SS.nd) dgs_nil))))
  (db_cons (ds_set SS.nd (de_add (de_sub de_int (de_v 1)) (de_call G__law_draw (hr.mono (by decide)) tk (da_cons (de_v 0) (da_cons (de_v 1) da_nil)))))
  (db_cons (ds_set SS.nd (de_fz (dn_sortset rfl T.m_sorted T.m_set (de_fz (dn_lc (own := [("lap", 6)]) rfl SS.nd (di_range1 T.m_range (da_cons (de_v 2) da_nil)) (blkOk_by (N := N__law_wide_price) (sc := defScope S__law_wide_price) (by decide +kernel)) (fun s_ H_ C_ cl_ fp_ => (dg_name SS.nd)) (fun s_ H_ C_ cl_ fp_ => dts_nil) (fun s_ H_ C_ cl_ fp_ => (de_sub (de_call G__law_draw (hr.mono (by decide)) takes_F (da_cons (de_v 0) (da_cons (de_add (de_mul de_int (de_v 1)) de_int) da_nil))) (de_v 1))))))))
  (db_cons (ds_set SS.nd (de_fz (dn_sortset rfl T.m_sorted T.m_set (de_fz (dn_lc (own := [("lap", 6)]) rfl SS.nd (di_range1 T.m_range (da_cons (de_v 2) da_nil)) (blkOk_by (N := N__law_wide_price) (sc := defScope S__law_wide_price) (by decide +kernel)) (fun s_ H_ C_ cl_ fp_ => (dg_name SS.nd)) (fun s_ H_ C_ cl_ fp_ => dts_nil) (fun s_ H_ C_ cl_ fp_ => (de_add (de_add (de_v 3) de_int) (de_call G__law_draw (hr.mono (by decide)) takes_F (da_cons (de_v 0) (da_cons (de_v 1) da_nil))))))))))
  (db_one (ds_ret (de_tup (da_cons (de_v 3) (da_cons (de_tupZip rfl T.m_tuple T.m_zip (da_cons (de_v 4) (da_cons (de_v 5) da_nil))) da_nil)))))))))

/-! ### _law_far_at -/
abbrev S__law_far_at : Stmt := top 37
abbrev N__law_far_at : List Str := ["price", "n", "spots", "cuts", "found", "spot", "slope", "low", "high"]
theorem sc__law_far_at : FnScope N__law_far_at ["price", "n"] (defScope S__law_far_at) := ⟨rfl, rfl, rfl, by decide +kernel, rfl, by decide +kernel, by decide +kernel⟩
def c__law_far_at : CS := (cSeq (cSet 2 (cFz (cLc (cItS (c2 kIx (cV 0) (cK (.int 1)))) [5, 6] (gTp 2 (gMore (gNm 5) (gMore (gNm 6) gNone))) cYes (cV 5))))
  (cSeq (cSet 3 (cFz (cSortSet (cFz (cCat (cFz (cLstE (cCons (cCall (k2 kMin2) (cCons (cK (.int 0)) (cCons (cV 1) cNil))) (cCons (cCall (k2 kMax2) (cCons (cK (.int 0)) (cCons (cV 1) cNil))) cNil)))) (cFz (cLc (cItS (cV 2)) [5] (gNm 5) (cT (cChain kLt kLt (cCall (k2 kMin2) (cCons (cK (.int 0)) (cCons (cV 1) cNil))) (cV 5) (cCall (k2 kMax2) (cCons (cK (.int 0)) (cCons (cV 1) cNil))))) (cV 5))))))))
  (cSeq (cSet 4 (cCall (k1 kSum) (cCons (cFz (cLc (cZip (cCons (cV 3) (cCons (cFz (cSlL (cV 3) (cPso (cK (.int 1))) cPno)) cNil))) [7, 8] (gTp 2 (gMore (gNm 7) (gMore (gNm 8) gNone))) cYes (c2 kMul (c2 kSub (cV 8) (cV 7)) (cCall (fun ds S => if ds.length = 2 then m__law_slope ds S else none) (cCons (cV 0) (cCons (cV 7) cNil)))))) cNil)))
  (cRet (cIf (cT (c2 kGe (cV 1) (cK (.int 0)))) (cV 4) (c2 kSub (cK (.int 0)) (cV 4)))))))
def m__law_far_at : Md := runDef N__law_far_at 2 c__law_far_at
theorem b__law_far_at {f : Addr} {qual : Str} (T : TX K mg CT) (G__law_slope : Fn P w K mg base CT 1 "_law_slope" 2 m__law_slope) (cdv : Value) (A : Around) (outer : List Env) (s : Shared) (H : Hp) (E : XK) (hr : Room 1 (A.deeper (envOfC qual (defScope S__law_far_at) s.heap.objs.size f cdv))) :
    DBx (cxOf (L2.CX P w) P w K mg base N__law_far_at qual (defScope S__law_far_at) f cdv A outer s H E) CT (fun cls d _ H => E cls d H) (defBody S__law_far_at) c__law_far_at := by
  have hu := units64 hr
  have SS := sc__law_far_at
  have tk : Takes (cxOf (L2.CX P w) P w K mg base N__law_far_at qual (defScope S__law_far_at) f cdv A outer s H E) (fun cls d _ H => E cls d H) := takes_of rfl rfl rfl rfl
  exact (db_cons (ds_setLc (own := [("spot", 5), ("slope", 6)]) rfl SS.nd (di_seq (de_ix (de_v 0) de_int)) (blkOk_by (N := N__law_far_at) (sc := defScope S__law_far_at) (by decide +kernel)) (fun s_ H_ C_ cl_ fp_ => (dg_tup rfl (dgs_cons (dg_name SS.nd) (dgs_cons (dg_name SS.nd) dgs_nil)))) (fun s_ H_ C_ cl_ fp_ => dts_nil) (fun s_ H_ C_ cl_ fp_ => (de_v 5)))
  (db_cons (ds_set SS.nd (de_fz (dn_sortset rfl T.m_sorted T.m_set (de_fz (dn_cat (de_fz (dn_lst (da_cons (de_callB (call_min2 rfl) vl_min2 T.m_min (da_cons de_int (da_cons (de_v 1) da_nil))) (da_cons (de_callB (call_max2 rfl) vl_max2 T.m_max (da_cons de_int (da_cons (de_v 1) da_nil))) da_nil)))) (de_fz (dn_lc (own := [("spot", 5)]) rfl SS.nd (di_seq (de_v 2)) (blkOk_by (N := N__law_far_at) (sc := defScope S__law_far_at) (by decide +kernel)) (fun s_ H_ C_ cl_ fp_ => (dg_name SS.nd)) (fun s_ H_ C_ cl_ fp_ => (dts_one (dt_chain (ops_lt hu) v_lt (ops_lt hu) v_lt (de_callB (call_min2 rfl) vl_min2 T.m_min (da_cons de_int (da_cons (de_v 1) da_nil))) (de_v 5) (de_callB (call_max2 rfl) vl_max2 T.m_max (da_cons de_int (da_cons (de_v 1) da_nil)))))) (fun s_ H_ C_ cl_ fp_ => (de_v 5)))))))))
  (db_cons (ds_set SS.nd (de_callB (cr_sum rfl) vl_sum T.m_sum (da_cons (de_fz (dn_lc (own := [("low", 7), ("high", 8)]) rfl SS.nd (di_zip T.m_zip (da_cons (de_v 3) (da_cons (de_fz (dn_slL (de_v 3) (dp_so de_int) dp_no)) da_nil))) (blkOk_by (N := N__law_far_at) (sc := defScope S__law_far_at) (by decide +kernel)) (fun s_ H_ C_ cl_ fp_ => (dg_tup rfl (dgs_cons (dg_name SS.nd) (dgs_cons (dg_name SS.nd) dgs_nil)))) (fun s_ H_ C_ cl_ fp_ => dts_nil) (fun s_ H_ C_ cl_ fp_ => (de_mul (de_sub (de_v 8) (de_v 7)) (de_call G__law_slope (hr.mono (by decide)) takes_F (da_cons (de_v 0) (da_cons (de_v 7) da_nil))))))) da_nil)))
  (db_one (ds_ret (de_if (dt_ge (de_v 1) de_int) (de_v 4) (de_sub de_int (de_v 4))))))))

end
end K09

set_option Elab.async false
set_option linter.all false
set_option maxRecDepth 100000
set_option maxHeartbeats 4000000
set_option autoImplicit false
namespace K09
open PySem PySem.Spec PyProof.Rows L2 DE
/-- Price's own ==: of prices made of data, and of a price and a tuple -/
def tsP : List Tag := [.o "Price", .b "tuple"]
def peP (x y : D) : Option Bool := match x, y with
  | .ins C fs, .ins C' gs => if C = "Price" ∧ C' = "Price" then (match fs.lookup ("first" : Str), fs.lookup ("breaks" : Str), gs.lookup ("first" : Str), gs.lookup ("breaks" : Str) with
    | some a, some b, some c, some d => (match toPD [] (.tup [a, b]), toPD [] (.tup [c, d]) with
      | some p, some q => if SeqAt.shaped p && SeqAt.shaped q then some (PyData.eqv p q) else none
      | _, _ => none)
    | _, _, _, _ => none) else none
  | .ins C _, .tup _ => if C = "Price" then some false else none
  | _, _ => none
theorem hpe : ∀ x y, peP x y = some true → ∀ (S : Store), (∃ fs, insAt S x = some (("Price" : Str), fs)) → ∃ fs, insAt S y = some (("Price" : Str), fs) := by
  intro x y h S _
  unfold peP at h
  split at h
  · split at h
    · rename_i c; obtain ⟨_, rfl⟩ := c; exact ⟨_, rfl⟩
    · cases h
  · split at h <;> cases h
  · cases h
/-- the qualified name of a lambda in the def called qual -/
abbrev lq (qual : Str) : Str := (envOfC qual (defScope (.Pass ⟨0, 0, 0, 0⟩)) 0 0 .none).qual ++ "<lambda>"
def forSt (st : Stmt) : List Stmt := match st with
  | .For _ _ b _ _ => b
  | _ => []
section
variable {P : Program} {w : World} {K : PySem.W.Frag} {mg : Str → Option Value} {base : Heap} {CT : Cfg}
/-! ### law -/
abbrev S_law : Stmt := top 38
abbrev N_law : List Str := ["script", "pen", "turn", "plain", "made", "last", "near", "n", "small", "d", "slopes", "heard", "due", "odd", "first", "bad", "slope", "spot", "one", "at"]
theorem sc_law : FnScope N_law ["script"] (defScope S_law) := ⟨rfl, rfl, rfl, by decide +kernel, rfl, by decide +kernel, by decide +kernel⟩
def c_law_0 : CS := (cSet 1 (cCall (fun ds S => if ds.length = 1 then m__law_pen ds S else none) (cCons (cV 0) cNil)))
def c_law_1_0 : CS := (cSet 3 (cCall (fun ds S => if ds.length = 1 then m__law_wide_price ds S else none) (cCons (cV 1) cNil)))
def c_law_1_1 : CS := (cSet 4 (cCall (fun ds S => if ds.length = 2 then kMake "Price" m_Price___init__ ds S else none) (cCons (c2 kIx (cV 3) (cK (.int 0))) (cCons (cCall (fun ds S => if ds.length = 1 then (m__law_listed 3) ds S else none) (cCons (c2 kIx (cV 3) (cK (.int 1))) cNil)) cNil))))
def c_law_1_2 : CS := (cSet 5 (c2 kIx (cFz (cCat (cFz (cLstE (cCons (c2 kIx (cV 3) (cK (.int 0))) cNil))) (cFz (cLc (cItS (c2 kIx (cV 3) (cK (.int 1)))) [17, 16] (gTp 2 (gMore (gNm 17) (gMore (gNm 16) gNone))) cYes (cV 16))))) (c1 kNeg (cK (.int 1)))))
def c_law_1_3 : CS := (cIfS (cT (c2 (kEq true) (cCall (k1 kRepr) (cCons (cTupE (cCons (c1 (kFld ["Price"] "first") (cV 4)) (cCons (c1 (kFld ["Price"] "breaks") (cV 4)) (cCons (c1 (kFld ["Price"] "low") (cV 4)) (cCons (c1 (kFld ["Price"] "high") (cV 4)) cNil))))) cNil)) (cCall (k1 kRepr) (cCons (cTupE (cCons (c2 kIx (cV 3) (cK (.int 0))) (cCons (c2 kIx (cV 3) (cK (.int 1))) (cCons (c2 kIx (cV 3) (cK (.int 0))) (cCons (cV 5) cNil))))) cNil)))) (cRet (cK (.bl false))) cSkip)
def c_law_1_4 : CS := (cSet 6 (cFz (cCat (cCall (k2 kSumL) (cCons (cFz (cLc (cItS (c2 kIx (cV 3) (cK (.int 1)))) [17, 16] (gTp 2 (gMore (gNm 17) (gMore (gNm 16) gNone))) cYes (cFz (cLstE (cCons (c2 kSub (cV 17) (cK (.int 1))) (cCons (cV 17) (cCons (c2 kAdd (cV 17) (cK (.int 1))) cNil))))))) (cCons (cFz (cLstE (cCons (cK (.int 0)) (cCons (cK (.int 1)) (cCons (c1 kNeg (cK (.int 1))) cNil))))) cNil))) (cFz (cLstE (cCons (c2 kSub (cCall (fun ds S => if ds.length = 2 then m__law_draw ds S else none) (cCons (cV 1) (cCons (cK (.int 61)) cNil))) (cK (.int 30))) (cCons (c2 kAdd (c2 kPow (cK (.int 10)) (cK (.int 6))) (cK (.int 5))) (cCons (c2 kSub (c1 kNeg (c2 kPow (cK (.int 10)) (cK (.int 6)))) (cK (.int 5))) (cCons (c2 kPow (cK (.int 10)) (cK (.int 40))) (cCons (c2 kSub (cK (.int 0)) (cCall (fun ds S => if ds.length = 1 then m__law_ten ds S else none) (cCons (cK (.int 4400)) cNil))) cNil))))))))))
def c_law_1_5 : CS := (cFor (cItS (cV 6)) (gNm 7)
  (cIfS (cOr (cT (c2 (kEq true) (cMeth "Price" "slope" 1 m_Price_slope (cV 4) (cCons (cV 7) cNil)) (cCall (fun ds S => if ds.length = 2 then m__law_slope ds S else none) (cCons (cV 3) (cCons (cV 7) cNil))))) (cOr (cT (c2 (kEq true) (cMethK "Price" "at" 1 [0] m_Price_at (cV 4) (cCons (cV 7) cNil)) (cCall (fun ds S => if ds.length = 2 then m__law_far_at ds S else none) (cCons (cV 3) (cCons (cV 7) cNil))))) (cOr (cT (c2 (kEq true) (c2 kSub (cMeth "Price" "at" 1 m_Price_at (cV 4) (cCons (c2 kAdd (cV 7) (cK (.int 1))) cNil)) (cMeth "Price" "at" 1 m_Price_at (cV 4) (cCons (cV 7) cNil))) (cMethK "Price" "slope" 1 [0] m_Price_slope (cV 4) (cCons (cV 7) cNil)))) (cT (c2 kGt (cMeth "Price" "slope" 1 m_Price_slope (cV 4) (cCons (cV 7) cNil)) (cMeth "Price" "slope" 1 m_Price_slope (cV 4) (cCons (c2 kAdd (cV 7) (cK (.int 1))) cNil))))))) (cRet (cK (.bl false))) cSkip))
def c_law_1_6 : CS := (cSet 8 (cFz (cLc (cItS (cV 6)) [7] (gNm 7) (cT (c2 kLt (cCall (k1 kAbs) (cCons (cV 7) cNil)) (cK (.int 60)))) (cV 7))))
def c_law_1_7 : CS := (cIfS (cT (c2 (kEq true) (cFz (cLc (cItS (cV 8)) [7] (gNm 7) cYes (cMeth "Price" "at" 1 m_Price_at (cV 4) (cCons (cV 7) cNil)))) (cFz (cLc (cItS (cV 8)) [7] (gNm 7) cYes (cCall (fun ds S => if ds.length = 2 then m__law_at ds S else none) (cCons (cV 3) (cCons (cV 7) cNil))))))) (cRet (cK (.bl false))) cSkip)
def c_law_1_8 : CS := (cSet 9 (cCall (fun ds S => if ds.length = 2 then m__law_pick ds S else none) (cCons (cV 1) (cCons (cFz (cLstE (cCons (cK (.int 0)) (cCons (cK (.int 1)) (cCons (c1 kNeg (cK (.int 1))) (cCons (cK (.int 5)) (cCons (c2 kPow (cK (.int 10)) (cK (.int 6))) (cCons (c1 kNeg (c2 kPow (cK (.int 10)) (cK (.int 6)))) (cCons (c2 kMul (cK (.int 2)) (c2 kPow (cK (.int 10)) (cK (.int 6)))) cNil))))))))) cNil))))
def c_law_1_9 : CS := (cSet 10 (cFz (cLc (cItS (cFz (cCat (cFz (cLstE (cCons (c2 kIx (cV 3) (cK (.int 0))) cNil))) (cFz (cLc (cItS (c2 kIx (cV 3) (cK (.int 1)))) [17, 16] (gTp 2 (gMore (gNm 17) (gMore (gNm 16) gNone))) cYes (cV 16)))))) [16] (gNm 16) cYes (c2 kAdd (cV 16) (cV 9)))))
def c_law_1_10 : CS := (cSet 11 (cHeard (cMeth "Price" "more" 1 m_Price_more (cV 4) (cCons (cV 9) cNil))))
def c_law_1_11 : CS := (cSet 12 (cIf (cT (c2 kGt (cCall (k1 kAbs) (cCons (c2 kIx (cV 10) (cK (.int 0))) cNil)) (c2 kPow (cK (.int 10)) (cK (.int 6))))) (cTupE (cCons (cK (.str "price")) (cCons (cK (.str "first")) cNil))) (cIf (cT (c2 kGt (cCall (k1 kMaxL) (cCons (cFz (cLc (cItS (cV 10)) [18] (gNm 18) cYes (cCall (k1 kAbs) (cCons (cV 18) cNil)))) cNil)) (c2 kPow (cK (.int 10)) (cK (.int 6))))) (cTupE (cCons (cK (.str "price")) (cCons (cK (.str "breaks")) cNil))) (cK .non))))
def c_law_1_12 : CS := (cIfS (cOr (cAnd (cT (c2 kIsNN (cV 12) (cK .non))) (cT (c2 (kEq true) (cV 11) (cV 12)))) (cAnd (cT (c2 kIsN (cV 12) (cK .non))) (cT (c2 (kNeO "Price" ics ecs tsP peP) (cV 11) (cFz (cLstE (cCons (cCall (fun ds S => if ds.length = 2 then kMake "Price" m_Price___init__ ds S else none) (cCons (c2 kAdd (c2 kIx (cV 3) (cK (.int 0))) (cV 9)) (cCons (cFz (cLc (cItS (c2 kIx (cV 3) (cK (.int 1)))) [17, 16] (gTp 2 (gMore (gNm 17) (gMore (gNm 16) gNone))) cYes (cTupE (cCons (cV 17) (cCons (c2 kAdd (cV 16) (cV 9)) cNil))))) cNil))) cNil))))))) (cRet (cK (.bl false))) cSkip)
def c_law_1_13 : CS := (cIfS (cOr (cNot (cT (c2 (kEqO "Price" ics ecs tsP peP) (cV 4) (cCall (fun ds S => if ds.length = 2 then kMake "Price" m_Price___init__ (arD [1, 0] ds) S else none) (cCons (c2 kIx (cV 3) (cK (.int 1))) (cCons (c2 kIx (cV 3) (cK (.int 0))) cNil)))))) (cOr (cT (c2 (kNeO "Price" ics ecs tsP peP) (cV 4) (cCall (fun ds S => if ds.length = 2 then kMake "Price" m_Price___init__ ds S else none) (cCons (c2 kIx (cV 3) (cK (.int 0))) (cCons (c2 kIx (cV 3) (cK (.int 1))) cNil))))) (cOr (cAnd (cT (c2 (kEqO "Price" ics ecs tsP peP) (cV 4) (cCall (fun ds S => if ds.length = 2 then kMake "Price" m_Price___init__ ds S else none) (cCons (c2 kIx (cV 3) (cK (.int 0))) (cCons (cFz (cLstE (cCons (cTupE (cCons (cK (.int 0)) (cCons (c2 kPow (cK (.int 10)) (cK (.int 6))) cNil))) cNil))) cNil))))) (cT (c2 (kEq true) (c2 kIx (cV 3) (cK (.int 1))) (cTupE (cCons (cTupE (cCons (cK (.int 0)) (cCons (c2 kPow (cK (.int 10)) (cK (.int 6))) cNil))) cNil))))) (cT (c2 (kEqO "Price" ics ecs tsP peP) (cV 4) (cV 3)))))) (cRet (cK (.bl false))) cSkip)
def c_law_1_14 : CS := (cSet 13 (cCall (fun ds S => if ds.length = 2 then m__law_pick ds S else none) (cCons (cV 1) (cCons (cFz (cLstE (cCons (cK .non) (cCons (cK (.bl true)) (cCons (cK (.str "1")) (cCons (cK (.str "0")) (cCons (cTupE (cCons (cK (.int 1)) cNil)) (cCons (cFz (cLstE cNil)) (cCons (cK .dct) cNil))))))))) cNil))))
def c_law_1_15 : CS := (cIfS (cT (c2 (kEq true) (cFz (cLstE (cCons (cHeard (cMeth "Price" "at" 1 m_Price_at (cV 4) (cCons (cV 13) cNil))) (cCons (cHeard (cMeth "Price" "slope" 1 m_Price_slope (cV 4) (cCons (cV 13) cNil))) (cCons (cHeard (cMeth "Price" "more" 1 m_Price_more (cV 4) (cCons (cV 13) cNil))) cNil))))) (cFz (cLstE (cCons (cTupE (cCons (cK (.str "number")) (cCons (cK (.str "n")) cNil))) (cCons (cTupE (cCons (cK (.str "number")) (cCons (cK (.str "n")) cNil))) (cCons (cTupE (cCons (cK (.str "number")) (cCons (cK (.str "d")) cNil))) cNil))))))) (cRet (cK (.bl false))) cSkip)
def c_law_1_16 : CS := (cSet 14 (cCall (fun ds S => if ds.length = 2 then m__law_pick ds S else none) (cCons (cV 1) (cCons (cFz (cLstE (cCons (cK .non) (cCons (cK (.bl true)) (cCons (cK (.str "1")) (cCons (c2 kAdd (c2 kPow (cK (.int 10)) (cK (.int 6))) (cK (.int 1))) (cCons (c2 kSub (c1 kNeg (c2 kPow (cK (.int 10)) (cK (.int 6)))) (cK (.int 1))) (cCons (cTupE cNil) cNil)))))))) cNil))))
def c_law_1_17 : CS := (cSet 15 (cFz (cLstE (cCons (cK .non) (cCons (cK (.int 5)) (cCons (cK (.str "1")) (cCons (cTupE (cCons (cTupE (cCons (cK (.int 0)) cNil)) cNil)) (cCons (cTupE (cCons (cTupE (cCons (cK (.int 0)) (cCons (cK (.int 5)) (cCons (cK (.int 1)) cNil)))) cNil)) (cCons (cTupE (cCons (cTupE (cCons (cK (.int 0)) (cCons (cK (.int 4)) cNil))) (cCons (cTupE (cCons (cK (.int 0)) (cCons (cK (.int 5)) cNil))) cNil))) (cCons (cTupE (cCons (cTupE (cCons (cK (.int 1)) (cCons (cK (.int 5)) cNil))) (cCons (cTupE (cCons (cK (.int 0)) (cCons (cK (.int 6)) cNil))) cNil))) (cCons (cTupE (cCons (cTupE (cCons (cK (.int 0)) (cCons (cK (.int 5)) cNil))) (cCons (cTupE (cCons (cK (.int 1)) (cCons (cK (.int 5)) cNil))) cNil))) (cCons (cTupE (cCons (cTupE (cCons (cK (.int 0)) (cCons (cK (.int 5)) cNil))) (cCons (cTupE (cCons (cK (.int 1)) (cCons (cK (.int 4)) cNil))) cNil))) (cCons (cTupE (cCons (cTupE (cCons (cK (.int 0)) (cCons (cK (.int 0)) cNil))) cNil)) (cCons (cTupE (cCons (cTupE (cCons (cK (.int 0)) (cCons (c1 kNeg (cK (.int 1))) cNil))) cNil)) (cCons (cTupE (cCons (cTupE (cCons (c2 kAdd (c2 kPow (cK (.int 10)) (cK (.int 6))) (cK (.int 1))) (cCons (cK (.int 5)) cNil))) cNil)) (cCons (cTupE (cCons (cTupE (cCons (cK (.int 0)) (cCons (c2 kAdd (c2 kPow (cK (.int 10)) (cK (.int 6))) (cK (.int 1))) cNil))) cNil)) cNil))))))))))))))))
def c_law_1_18 : CS := (cSet 15 (cCall (fun ds S => if ds.length = 2 then m__law_pick ds S else none) (cCons (cV 1) (cCons (cFz (cCat (cV 15) (cFz (cLstE (cCons (cTupE (cCons (cTupE (cCons (cK (.int 0)) (cCons (cK (.bl true)) cNil))) cNil)) (cCons (cTupE (cCons (cTupE (cCons (cK (.str "0")) (cCons (cK (.int 5)) cNil))) cNil)) (cCons (cTupE (cCons (cTupE (cCons (cK .non) (cCons (cK (.int 5)) cNil))) cNil)) (cCons (cCall (k1 kTuple) (cCons (cFz (cLc (cRange1 (cCons (cK (.int 9)) cNil)) [19] (gNm 19) cYes (cTupE (cCons (cV 19) (cCons (c2 kAdd (cV 19) (cK (.int 1))) cNil))))) cNil)) (cCons (cK .dct) cNil))))))))) cNil))))
def c_law_1_19 : CS := (cIfS (cOr (cT (c2 (kEq true) (cHeard (cCall (fun ds S => if ds.length = 2 then kMake "Price" m_Price___init__ ds S else none) (cCons (cV 14) (cCons (cV 15) cNil)))) (cTupE (cCons (cK (.str "price")) (cCons (cK (.str "first")) cNil))))) (cT (c2 (kEq true) (cHeard (cCall (fun ds S => if ds.length = 2 then kMake "Price" m_Price___init__ ds S else none) (cCons (cK (.int 0)) (cCons (cV 15) cNil)))) (cTupE (cCons (cK (.str "price")) (cCons (cK (.str "breaks")) cNil)))))) (cRet (cK (.bl false))) cSkip)
def c_law_2 : CS := (cRet (cK (.bl true)))
def c_law : CS := (cSeq c_law_0
  (cSeq (cFor (cRange1 (cCons (cK (.int 5)) cNil)) (gNm 2)
  (cSeq c_law_1_0
  (cSeq c_law_1_1
  (cSeq c_law_1_2
  (cSeq c_law_1_3
  (cSeq c_law_1_4
  (cSeq c_law_1_5
  (cSeq c_law_1_6
  (cSeq c_law_1_7
  (cSeq c_law_1_8
  (cSeq c_law_1_9
  (cSeq c_law_1_10
  (cSeq c_law_1_11
  (cSeq c_law_1_12
  (cSeq c_law_1_13
  (cSeq c_law_1_14
  (cSeq c_law_1_15
  (cSeq c_law_1_16
  (cSeq c_law_1_17
  (cSeq c_law_1_18
  c_law_1_19))))))))))))))))))))
  c_law_2))
def m_law : Md := runDef N_law 1 c_law
theorem b_law_0 {f : Addr} {qual : Str} (T : TX K mg CT) (G__law_at : Fn P w K mg base CT 2 "_law_at" 2 m__law_at) (G__law_draw : Fn P w K mg base CT 1 "_law_draw" 2 m__law_draw) (G__law_far_at : Fn P w K mg base CT 2 "_law_far_at" 2 m__law_far_at) (G__law_listed : Fn P w K mg base CT 3 "_law_listed" 1 (m__law_listed 3)) (G__law_pen : Fn P w K mg base CT 1 "_law_pen" 1 m__law_pen) (G__law_pick : Fn P w K mg base CT 2 "_law_pick" 2 m__law_pick) (G__law_slope : Fn P w K mg base CT 1 "_law_slope" 2 m__law_slope) (G__law_ten : Fn P w K mg base CT 1 "_law_ten" 1 m__law_ten) (G__law_wide_price : Fn P w K mg base CT 3 "_law_wide_price" 1 m__law_wide_price) (GM_Price : Mkr P w K mg base CT 5 "Price" 2 m_Price___init__) (GM_Price_at : Mt P w K mg base CT 4 "Price" "at" 1 m_Price_at) (GM_Price_more : Mt P w K mg base CT 7 "Price" "more" 1 m_Price_more) (GM_Price_slope : Mt P w K mg base CT 4 "Price" "slope" 1 m_Price_slope) (GK_Price_at : MtK P w K mg base CT 4 "Price" "at" ["n"] [0] m_Price_at) (GK_Price_slope : MtK P w K mg base CT 4 "Price" "slope" ["n"] [0] m_Price_slope) (GK_Price : MkrK P w K mg base CT 5 "Price" ["breaks", "first"] [1, 0] m_Price___init__) (GH : Hrd P w K mg base CT isi ics 0) (GE : Eqo P w K mg base CT 1 "Price" tsP peP) {cc Pt : Addr} (TB : LamX.TabB base mg cc Pt) (hmT : (Pt, lq qual) ∈ CT.T) (huT : ∀ p ∈ CT.T, p.1 = Pt → p.2 = lq qual) (cdv : Value) (A : Around) (outer : List Env) (s : Shared) (H : Hp) (E : XK) (hr : Room 9 (A.deeper (envOfC qual (defScope S_law) s.heap.objs.size f cdv))) (hcd : cdv = .ref cc) (hgA : (A.deeper (envOfC qual (defScope S_law) s.heap.objs.size f cdv)).guards = some []) :
    DSx (cxOf (L2.CX P w) P w K mg base N_law qual (defScope S_law) f cdv A outer s H E) CT (fun cls d _ H => E cls d H) ((defBody S_law).getD 0 (.Pass ⟨0, 0, 0, 0⟩)) c_law_0 := by
  have hu := units64 hr
  have SS := sc_law
  have tk : Takes (cxOf (L2.CX P w) P w K mg base N_law qual (defScope S_law) f cdv A outer s H E) (fun cls d _ H => E cls d H) := takes_of rfl rfl rfl rfl
  have hcode : (cxOf (L2.CX P w) P w K mg base N_law qual (defScope S_law) f cdv A outer s H E).env.code = .ref cc := hcd
  have hg : (cxOf (L2.CX P w) P w K mg base N_law qual (defScope S_law) f cdv A outer s H E).A.guards = some [] := hgA
  exact (ds_set SS.nd (de_call G__law_pen (hr.mono (by decide)) tk (da_cons (de_v 0) da_nil)))
theorem b_law_1_0 {f : Addr} {qual : Str} (T : TX K mg CT) (G__law_at : Fn P w K mg base CT 2 "_law_at" 2 m__law_at) (G__law_draw : Fn P w K mg base CT 1 "_law_draw" 2 m__law_draw) (G__law_far_at : Fn P w K mg base CT 2 "_law_far_at" 2 m__law_far_at) (G__law_listed : Fn P w K mg base CT 3 "_law_listed" 1 (m__law_listed 3)) (G__law_pen : Fn P w K mg base CT 1 "_law_pen" 1 m__law_pen) (G__law_pick : Fn P w K mg base CT 2 "_law_pick" 2 m__law_pick) (G__law_slope : Fn P w K mg base CT 1 "_law_slope" 2 m__law_slope) (G__law_ten : Fn P w K mg base CT 1 "_law_ten" 1 m__law_ten) (G__law_wide_price : Fn P w K mg base CT 3 "_law_wide_price" 1 m__law_wide_price) (GM_Price : Mkr P w K mg base CT 5 "Price" 2 m_Price___init__) (GM_Price_at : Mt P w K mg base CT 4 "Price" "at" 1 m_Price_at) (GM_Price_more : Mt P w K mg base CT 7 "Price" "more" 1 m_Price_more) (GM_Price_slope : Mt P w K mg base CT 4 "Price" "slope" 1 m_Price_slope) (GK_Price_at : MtK P w K mg base CT 4 "Price" "at" ["n"] [0] m_Price_at) (GK_Price_slope : MtK P w K mg base CT 4 "Price" "slope" ["n"] [0] m_Price_slope) (GK_Price : MkrK P w K mg base CT 5 "Price" ["breaks", "first"] [1, 0] m_Price___init__) (GH : Hrd P w K mg base CT isi ics 0) (GE : Eqo P w K mg base CT 1 "Price" tsP peP) {cc Pt : Addr} (TB : LamX.TabB base mg cc Pt) (hmT : (Pt, lq qual) ∈ CT.T) (huT : ∀ p ∈ CT.T, p.1 = Pt → p.2 = lq qual) (cdv : Value) (A : Around) (outer : List Env) (s : Shared) (H : Hp) (E : XK) (hr : Room 9 (A.deeper (envOfC qual (defScope S_law) s.heap.objs.size f cdv))) (hcd : cdv = .ref cc) (hgA : (A.deeper (envOfC qual (defScope S_law) s.heap.objs.size f cdv)).guards = some []) :
    DSx (cxOf (L2.CX P w) P w K mg base N_law qual (defScope S_law) f cdv A outer s H E) CT (fun cls d _ H => E cls d H) ((forSt ((defBody S_law).getD 1 (.Pass ⟨0, 0, 0, 0⟩))).getD 0 (.Pass ⟨0, 0, 0, 0⟩)) c_law_1_0 := by
  have hu := units64 hr
  have SS := sc_law
  have tk : Takes (cxOf (L2.CX P w) P w K mg base N_law qual (defScope S_law) f cdv A outer s H E) (fun cls d _ H => E cls d H) := takes_of rfl rfl rfl rfl
  have hcode : (cxOf (L2.CX P w) P w K mg base N_law qual (defScope S_law) f cdv A outer s H E).env.code = .ref cc := hcd
  have hg : (cxOf (L2.CX P w) P w K mg base N_law qual (defScope S_law) f cdv A outer s H E).A.guards = some [] := hgA
  exact (ds_set SS.nd (de_call G__law_wide_price (hr.mono (by decide)) tk (da_cons (de_v 1) da_nil)))
theorem b_law_1_1 {f : Addr} {qual : Str} (T : TX K mg CT) (G__law_at : Fn P w K mg base CT 2 "_law_at" 2 m__law_at) (G__law_draw : Fn P w K mg base CT 1 "_law_draw" 2 m__law_draw) (G__law_far_at : Fn P w K mg base CT 2 "_law_far_at" 2 m__law_far_at) (G__law_listed : Fn P w K mg base CT 3 "_law_listed" 1 (m__law_listed 3)) (G__law_pen : Fn P w K mg base CT 1 "_law_pen" 1 m__law_pen) (G__law_pick : Fn P w K mg base CT 2 "_law_pick" 2 m__law_pick) (G__law_slope : Fn P w K mg base CT 1 "_law_slope" 2 m__law_slope) (G__law_ten : Fn P w K mg base CT 1 "_law_ten" 1 m__law_ten) (G__law_wide_price : Fn P w K mg base CT 3 "_law_wide_price" 1 m__law_wide_price) (GM_Price : Mkr P w K mg base CT 5 "Price" 2 m_Price___init__) (GM_Price_at : Mt P w K mg base CT 4 "Price" "at" 1 m_Price_at) (GM_Price_more : Mt P w K mg base CT 7 "Price" "more" 1 m_Price_more) (GM_Price_slope : Mt P w K mg base CT 4 "Price" "slope" 1 m_Price_slope) (GK_Price_at : MtK P w K mg base CT 4 "Price" "at" ["n"] [0] m_Price_at) (GK_Price_slope : MtK P w K mg base CT 4 "Price" "slope" ["n"] [0] m_Price_slope) (GK_Price : MkrK P w K mg base CT 5 "Price" ["breaks", "first"] [1, 0] m_Price___init__) (GH : Hrd P w K mg base CT isi ics 0) (GE : Eqo P w K mg base CT 1 "Price" tsP peP) {cc Pt : Addr} (TB : LamX.TabB base mg cc Pt) (hmT : (Pt, lq qual) ∈ CT.T) (huT : ∀ p ∈ CT.T, p.1 = Pt → p.2 = lq qual) (cdv : Value) (A : Around) (outer : List Env) (s : Shared) (H : Hp) (E : XK) (hr : Room 9 (A.deeper (envOfC qual (defScope S_law) s.heap.objs.size f cdv))) (hcd : cdv = .ref cc) (hgA : (A.deeper (envOfC qual (defScope S_law) s.heap.objs.size f cdv)).guards = some []) :
    DSx (cxOf (L2.CX P w) P w K mg base N_law qual (defScope S_law) f cdv A outer s H E) CT (fun cls d _ H => E cls d H) ((forSt ((defBody S_law).getD 1 (.Pass ⟨0, 0, 0, 0⟩))).getD 1 (.Pass ⟨0, 0, 0, 0⟩)) c_law_1_1 := by
  have hu := units64 hr
  have SS := sc_law
  have tk : Takes (cxOf (L2.CX P w) P w K mg base N_law qual (defScope S_law) f cdv A outer s H E) (fun cls d _ H => E cls d H) := takes_of rfl rfl rfl rfl
  have hcode : (cxOf (L2.CX P w) P w K mg base N_law qual (defScope S_law) f cdv A outer s H E).env.code = .ref cc := hcd
  have hg : (cxOf (L2.CX P w) P w K mg base N_law qual (defScope S_law) f cdv A outer s H E).A.guards = some [] := hgA
  exact (ds_set SS.nd (de_make GM_Price (hr.mono (by decide)) tk (da_cons (de_ix (de_v 3) de_int) (da_cons (de_call G__law_listed (hr.mono (by decide)) tk (da_cons (de_ix (de_v 3) de_int) da_nil)) da_nil))))
theorem b_law_1_2 {f : Addr} {qual : Str} (T : TX K mg CT) (G__law_at : Fn P w K mg base CT 2 "_law_at" 2 m__law_at) (G__law_draw : Fn P w K mg base CT 1 "_law_draw" 2 m__law_draw) (G__law_far_at : Fn P w K mg base CT 2 "_law_far_at" 2 m__law_far_at) (G__law_listed : Fn P w K mg base CT 3 "_law_listed" 1 (m__law_listed 3)) (G__law_pen : Fn P w K mg base CT 1 "_law_pen" 1 m__law_pen) (G__law_pick : Fn P w K mg base CT 2 "_law_pick" 2 m__law_pick) (G__law_slope : Fn P w K mg base CT 1 "_law_slope" 2 m__law_slope) (G__law_ten : Fn P w K mg base CT 1 "_law_ten" 1 m__law_ten) (G__law_wide_price : Fn P w K mg base CT 3 "_law_wide_price" 1 m__law_wide_price) (GM_Price : Mkr P w K mg base CT 5 "Price" 2 m_Price___init__) (GM_Price_at : Mt P w K mg base CT 4 "Price" "at" 1 m_Price_at) (GM_Price_more : Mt P w K mg base CT 7 "Price" "more" 1 m_Price_more) (GM_Price_slope : Mt P w K mg base CT 4 "Price" "slope" 1 m_Price_slope) (GK_Price_at : MtK P w K mg base CT 4 "Price" "at" ["n"] [0] m_Price_at) (GK_Price_slope : MtK P w K mg base CT 4 "Price" "slope" ["n"] [0] m_Price_slope) (GK_Price : MkrK P w K mg base CT 5 "Price" ["breaks", "first"] [1, 0] m_Price___init__) (GH : Hrd P w K mg base CT isi ics 0) (GE : Eqo P w K mg base CT 1 "Price" tsP peP) {cc Pt : Addr} (TB : LamX.TabB base mg cc Pt) (hmT : (Pt, lq qual) ∈ CT.T) (huT : ∀ p ∈ CT.T, p.1 = Pt → p.2 = lq qual) (cdv : Value) (A : Around) (outer : List Env) (s : Shared) (H : Hp) (E : XK) (hr : Room 9 (A.deeper (envOfC qual (defScope S_law) s.heap.objs.size f cdv))) (hcd : cdv = .ref cc) (hgA : (A.deeper (envOfC qual (defScope S_law) s.heap.objs.size f cdv)).guards = some []) :
    DSx (cxOf (L2.CX P w) P w K mg base N_law qual (defScope S_law) f cdv A outer s H E) CT (fun cls d _ H => E cls d H) ((forSt ((defBody S_law).getD 1 (.Pass ⟨0, 0, 0, 0⟩))).getD 2 (.Pass ⟨0, 0, 0, 0⟩)) c_law_1_2 := by
  have hu := units64 hr
  have SS := sc_law
  have tk : Takes (cxOf (L2.CX P w) P w K mg base N_law qual (defScope S_law) f cdv A outer s H E) (fun cls d _ H => E cls d H) := takes_of rfl rfl rfl rfl
  have hcode : (cxOf (L2.CX P w) P w K mg base N_law qual (defScope S_law) f cdv A outer s H E).env.code = .ref cc := hcd
  have hg : (cxOf (L2.CX P w) P w K mg base N_law qual (defScope S_law) f cdv A outer s H E).A.guards = some [] := hgA
  exact (ds_set SS.nd (de_ix (de_fz (dn_cat (de_fz (dn_lst (da_cons (de_ix (de_v 3) de_int) da_nil))) (de_fz (dn_lc (own := [("spot", 17), ("slope", 16)]) rfl SS.nd (di_seq (de_ix (de_v 3) de_int)) (blkOk_by (N := N_law) (sc := defScope S_law) (by decide +kernel)) (fun s_ H_ C_ cl_ fp_ => (dg_tup rfl (dgs_cons (dg_name SS.nd) (dgs_cons (dg_name SS.nd) dgs_nil)))) (fun s_ H_ C_ cl_ fp_ => dts_nil) (fun s_ H_ C_ cl_ fp_ => (de_v 16)))))) (de_neg de_int)))
theorem b_law_1_3 {f : Addr} {qual : Str} (T : TX K mg CT) (G__law_at : Fn P w K mg base CT 2 "_law_at" 2 m__law_at) (G__law_draw : Fn P w K mg base CT 1 "_law_draw" 2 m__law_draw) (G__law_far_at : Fn P w K mg base CT 2 "_law_far_at" 2 m__law_far_at) (G__law_listed : Fn P w K mg base CT 3 "_law_listed" 1 (m__law_listed 3)) (G__law_pen : Fn P w K mg base CT 1 "_law_pen" 1 m__law_pen) (G__law_pick : Fn P w K mg base CT 2 "_law_pick" 2 m__law_pick) (G__law_slope : Fn P w K mg base CT 1 "_law_slope" 2 m__law_slope) (G__law_ten : Fn P w K mg base CT 1 "_law_ten" 1 m__law_ten) (G__law_wide_price : Fn P w K mg base CT 3 "_law_wide_price" 1 m__law_wide_price) (GM_Price : Mkr P w K mg base CT 5 "Price" 2 m_Price___init__) (GM_Price_at : Mt P w K mg base CT 4 "Price" "at" 1 m_Price_at) (GM_Price_more : Mt P w K mg base CT 7 "Price" "more" 1 m_Price_more) (GM_Price_slope : Mt P w K mg base CT 4 "Price" "slope" 1 m_Price_slope) (GK_Price_at : MtK P w K mg base CT 4 "Price" "at" ["n"] [0] m_Price_at) (GK_Price_slope : MtK P w K mg base CT 4 "Price" "slope" ["n"] [0] m_Price_slope) (GK_Price : MkrK P w K mg base CT 5 "Price" ["breaks", "first"] [1, 0] m_Price___init__) (GH : Hrd P w K mg base CT isi ics 0) (GE : Eqo P w K mg base CT 1 "Price" tsP peP) {cc Pt : Addr} (TB : LamX.TabB base mg cc Pt) (hmT : (Pt, lq qual) ∈ CT.T) (huT : ∀ p ∈ CT.T, p.1 = Pt → p.2 = lq qual) (cdv : Value) (A : Around) (outer : List Env) (s : Shared) (H : Hp) (E : XK) (hr : Room 9 (A.deeper (envOfC qual (defScope S_law) s.heap.objs.size f cdv))) (hcd : cdv = .ref cc) (hgA : (A.deeper (envOfC qual (defScope S_law) s.heap.objs.size f cdv)).guards = some []) :
    DSx (cxOf (L2.CX P w) P w K mg base N_law qual (defScope S_law) f cdv A outer s H E) CT (fun cls d _ H => E cls d H) ((forSt ((defBody S_law).getD 1 (.Pass ⟨0, 0, 0, 0⟩))).getD 3 (.Pass ⟨0, 0, 0, 0⟩)) c_law_1_3 := by
  have hu := units64 hr
  have SS := sc_law
  have tk : Takes (cxOf (L2.CX P w) P w K mg base N_law qual (defScope S_law) f cdv A outer s H E) (fun cls d _ H => E cls d H) := takes_of rfl rfl rfl rfl
  have hcode : (cxOf (L2.CX P w) P w K mg base N_law qual (defScope S_law) f cdv A outer s H E).env.code = .ref cc := hcd
  have hg : (cxOf (L2.CX P w) P w K mg base N_law qual (defScope S_law) f cdv A outer s H E).A.guards = some [] := hgA
  exact (ds_if (dt_ne hu (de_callB (cr_repr hg hu) vl_repr T.m_repr (da_cons (de_tup (da_cons (de_fld T.a_first (de_v 4)) (da_cons (de_fld T.a_breaks (de_v 4)) (da_cons (de_fld T.a_low (de_v 4)) (da_cons (de_fld T.a_high (de_v 4)) da_nil))))) da_nil)) (de_callB (cr_repr hg hu) vl_repr T.m_repr (da_cons (de_tup (da_cons (de_ix (de_v 3) de_int) (da_cons (de_ix (de_v 3) de_int) (da_cons (de_ix (de_v 3) de_int) (da_cons (de_v 5) da_nil))))) da_nil))) (db_one (ds_ret de_bl)) db_nil)
theorem b_law_1_4 {f : Addr} {qual : Str} (T : TX K mg CT) (G__law_at : Fn P w K mg base CT 2 "_law_at" 2 m__law_at) (G__law_draw : Fn P w K mg base CT 1 "_law_draw" 2 m__law_draw) (G__law_far_at : Fn P w K mg base CT 2 "_law_far_at" 2 m__law_far_at) (G__law_listed : Fn P w K mg base CT 3 "_law_listed" 1 (m__law_listed 3)) (G__law_pen : Fn P w K mg base CT 1 "_law_pen" 1 m__law_pen) (G__law_pick : Fn P w K mg base CT 2 "_law_pick" 2 m__law_pick) (G__law_slope : Fn P w K mg base CT 1 "_law_slope" 2 m__law_slope) (G__law_ten : Fn P w K mg base CT 1 "_law_ten" 1 m__law_ten) (G__law_wide_price : Fn P w K mg base CT 3 "_law_wide_price" 1 m__law_wide_price) (GM_Price : Mkr P w K mg base CT 5 "Price" 2 m_Price___init__) (GM_Price_at : Mt P w K mg base CT 4 "Price" "at" 1 m_Price_at) (GM_Price_more : Mt P w K mg base CT 7 "Price" "more" 1 m_Price_more) (GM_Price_slope : Mt P w K mg base CT 4 "Price" "slope" 1 m_Price_slope) (GK_Price_at : MtK P w K mg base CT 4 "Price" "at" ["n"] [0] m_Price_at) (GK_Price_slope : MtK P w K mg base CT 4 "Price" "slope" ["n"] [0] m_Price_slope) (GK_Price : MkrK P w K mg base CT 5 "Price" ["breaks", "first"] [1, 0] m_Price___init__) (GH : Hrd P w K mg base CT isi ics 0) (GE : Eqo P w K mg base CT 1 "Price" tsP peP) {cc Pt : Addr} (TB : LamX.TabB base mg cc Pt) (hmT : (Pt, lq qual) ∈ CT.T) (huT : ∀ p ∈ CT.T, p.1 = Pt → p.2 = lq qual) (cdv : Value) (A : Around) (outer : List Env) (s : Shared) (H : Hp) (E : XK) (hr : Room 9 (A.deeper (envOfC qual (defScope S_law) s.heap.objs.size f cdv))) (hcd : cdv = .ref cc) (hgA : (A.deeper (envOfC qual (defScope S_law) s.heap.objs.size f cdv)).guards = some []) :
    DSx (cxOf (L2.CX P w) P w K mg base N_law qual (defScope S_law) f cdv A outer s H E) CT (fun cls d _ H => E cls d H) ((forSt ((defBody S_law).getD 1 (.Pass ⟨0, 0, 0, 0⟩))).getD 4 (.Pass ⟨0, 0, 0, 0⟩)) c_law_1_4 := by
  have hu := units64 hr
  have SS := sc_law
  have tk : Takes (cxOf (L2.CX P w) P w K mg base N_law qual (defScope S_law) f cdv A outer s H E) (fun cls d _ H => E cls d H) := takes_of rfl rfl rfl rfl
  have hcode : (cxOf (L2.CX P w) P w K mg base N_law qual (defScope S_law) f cdv A outer s H E).env.code = .ref cc := hcd
  have hg : (cxOf (L2.CX P w) P w K mg base N_law qual (defScope S_law) f cdv A outer s H E).A.guards = some [] := hgA
  exact (ds_set SS.nd (de_fz (dn_cat (de_callB (cr_sumL rfl) vl_sumL T.m_sum (da_cons (de_fz (dn_lc (own := [("spot", 17), ("slope", 16)]) rfl SS.nd (di_seq (de_ix (de_v 3) de_int)) (blkOk_by (N := N_law) (sc := defScope S_law) (by decide +kernel)) (fun s_ H_ C_ cl_ fp_ => (dg_tup rfl (dgs_cons (dg_name SS.nd) (dgs_cons (dg_name SS.nd) dgs_nil)))) (fun s_ H_ C_ cl_ fp_ => dts_nil) (fun s_ H_ C_ cl_ fp_ => (de_fz (dn_lst (da_cons (de_sub (de_v 17) de_int) (da_cons (de_v 17) (da_cons (de_add (de_v 17) de_int) da_nil)))))))) (da_cons (de_fz (dn_lst (da_cons de_int (da_cons de_int (da_cons (de_neg de_int) da_nil))))) da_nil))) (de_fz (dn_lst (da_cons (de_sub (de_call G__law_draw (hr.mono (by decide)) tk (da_cons (de_v 1) (da_cons de_int da_nil))) de_int) (da_cons (de_add (de_pow de_int de_int) de_int) (da_cons (de_sub (de_neg (de_pow de_int de_int)) de_int) (da_cons (de_pow de_int de_int) (da_cons (de_sub de_int (de_call G__law_ten (hr.mono (by decide)) tk (da_cons de_int da_nil))) da_nil))))))))))
theorem b_law_1_5 {f : Addr} {qual : Str} (T : TX K mg CT) (G__law_at : Fn P w K mg base CT 2 "_law_at" 2 m__law_at) (G__law_draw : Fn P w K mg base CT 1 "_law_draw" 2 m__law_draw) (G__law_far_at : Fn P w K mg base CT 2 "_law_far_at" 2 m__law_far_at) (G__law_listed : Fn P w K mg base CT 3 "_law_listed" 1 (m__law_listed 3)) (G__law_pen : Fn P w K mg base CT 1 "_law_pen" 1 m__law_pen) (G__law_pick : Fn P w K mg base CT 2 "_law_pick" 2 m__law_pick) (G__law_slope : Fn P w K mg base CT 1 "_law_slope" 2 m__law_slope) (G__law_ten : Fn P w K mg base CT 1 "_law_ten" 1 m__law_ten) (G__law_wide_price : Fn P w K mg base CT 3 "_law_wide_price" 1 m__law_wide_price) (GM_Price : Mkr P w K mg base CT 5 "Price" 2 m_Price___init__) (GM_Price_at : Mt P w K mg base CT 4 "Price" "at" 1 m_Price_at) (GM_Price_more : Mt P w K mg base CT 7 "Price" "more" 1 m_Price_more) (GM_Price_slope : Mt P w K mg base CT 4 "Price" "slope" 1 m_Price_slope) (GK_Price_at : MtK P w K mg base CT 4 "Price" "at" ["n"] [0] m_Price_at) (GK_Price_slope : MtK P w K mg base CT 4 "Price" "slope" ["n"] [0] m_Price_slope) (GK_Price : MkrK P w K mg base CT 5 "Price" ["breaks", "first"] [1, 0] m_Price___init__) (GH : Hrd P w K mg base CT isi ics 0) (GE : Eqo P w K mg base CT 1 "Price" tsP peP) {cc Pt : Addr} (TB : LamX.TabB base mg cc Pt) (hmT : (Pt, lq qual) ∈ CT.T) (huT : ∀ p ∈ CT.T, p.1 = Pt → p.2 = lq qual) (cdv : Value) (A : Around) (outer : List Env) (s : Shared) (H : Hp) (E : XK) (hr : Room 9 (A.deeper (envOfC qual (defScope S_law) s.heap.objs.size f cdv))) (hcd : cdv = .ref cc) (hgA : (A.deeper (envOfC qual (defScope S_law) s.heap.objs.size f cdv)).guards = some []) :
    DSx (cxOf (L2.CX P w) P w K mg base N_law qual (defScope S_law) f cdv A outer s H E) CT (fun cls d _ H => E cls d H) ((forSt ((defBody S_law).getD 1 (.Pass ⟨0, 0, 0, 0⟩))).getD 5 (.Pass ⟨0, 0, 0, 0⟩)) c_law_1_5 := by
  have hu := units64 hr
  have SS := sc_law
  have tk : Takes (cxOf (L2.CX P w) P w K mg base N_law qual (defScope S_law) f cdv A outer s H E) (fun cls d _ H => E cls d H) := takes_of rfl rfl rfl rfl
  have po : PassesOwn (model P w) (cxOf (L2.CX P w) P w K mg base N_law qual (defScope S_law) f cdv A outer s H E).A (cxOf (L2.CX P w) P w K mg base N_law qual (defScope S_law) f cdv A outer s H E).env (cxOf (L2.CX P w) P w K mg base N_law qual (defScope S_law) f cdv A outer s H E).xe := passes_of rfl
  have hcode : (cxOf (L2.CX P w) P w K mg base N_law qual (defScope S_law) f cdv A outer s H E).env.code = .ref cc := hcd
  have hg : (cxOf (L2.CX P w) P w K mg base N_law qual (defScope S_law) f cdv A outer s H E).A.guards = some [] := hgA
  exact (ds_for po rfl (di_seq (de_v 6)) (dg_name SS.nd)
  (db_one (ds_if (dt_w (dw_or (dt_ne hu (de_meth GM_Price_slope (hr.mono (by decide)) tk (de_v 4) (da_cons (de_v 7) da_nil)) (de_call G__law_slope (hr.mono (by decide)) tk (da_cons (de_v 3) (da_cons (de_v 7) da_nil)))) (dw_or (dt_ne hu (de_methK GK_Price_at (hr.mono (by decide)) tk (de_v 4) (dk_cons (de_v 7) dk_nil)) (de_call G__law_far_at (hr.mono (by decide)) tk (da_cons (de_v 3) (da_cons (de_v 7) da_nil)))) (dw_or (dt_ne hu (de_sub (de_meth GM_Price_at (hr.mono (by decide)) tk (de_v 4) (da_cons (de_add (de_v 7) de_int) da_nil)) (de_meth GM_Price_at (hr.mono (by decide)) tk (de_v 4) (da_cons (de_v 7) da_nil))) (de_methK GK_Price_slope (hr.mono (by decide)) tk (de_v 4) (dk_cons (de_v 7) dk_nil))) (dw_or1 (dt_gt (de_meth GM_Price_slope (hr.mono (by decide)) tk (de_v 4) (da_cons (de_v 7) da_nil)) (de_meth GM_Price_slope (hr.mono (by decide)) tk (de_v 4) (da_cons (de_add (de_v 7) de_int) da_nil)))))))) (db_one (ds_ret de_bl)) db_nil)))
theorem b_law_1_6 {f : Addr} {qual : Str} (T : TX K mg CT) (G__law_at : Fn P w K mg base CT 2 "_law_at" 2 m__law_at) (G__law_draw : Fn P w K mg base CT 1 "_law_draw" 2 m__law_draw) (G__law_far_at : Fn P w K mg base CT 2 "_law_far_at" 2 m__law_far_at) (G__law_listed : Fn P w K mg base CT 3 "_law_listed" 1 (m__law_listed 3)) (G__law_pen : Fn P w K mg base CT 1 "_law_pen" 1 m__law_pen) (G__law_pick : Fn P w K mg base CT 2 "_law_pick" 2 m__law_pick) (G__law_slope : Fn P w K mg base CT 1 "_law_slope" 2 m__law_slope) (G__law_ten : Fn P w K mg base CT 1 "_law_ten" 1 m__law_ten) (G__law_wide_price : Fn P w K mg base CT 3 "_law_wide_price" 1 m__law_wide_price) (GM_Price : Mkr P w K mg base CT 5 "Price" 2 m_Price___init__) (GM_Price_at : Mt P w K mg base CT 4 "Price" "at" 1 m_Price_at) (GM_Price_more : Mt P w K mg base CT 7 "Price" "more" 1 m_Price_more) (GM_Price_slope : Mt P w K mg base CT 4 "Price" "slope" 1 m_Price_slope) (GK_Price_at : MtK P w K mg base CT 4 "Price" "at" ["n"] [0] m_Price_at) (GK_Price_slope : MtK P w K mg base CT 4 "Price" "slope" ["n"] [0] m_Price_slope) (GK_Price : MkrK P w K mg base CT 5 "Price" ["breaks", "first"] [1, 0] m_Price___init__) (GH : Hrd P w K mg base CT isi ics 0) (GE : Eqo P w K mg base CT 1 "Price" tsP peP) {cc Pt : Addr} (TB : LamX.TabB base mg cc Pt) (hmT : (Pt, lq qual) ∈ CT.T) (huT : ∀ p ∈ CT.T, p.1 = Pt → p.2 = lq qual) (cdv : Value) (A : Around) (outer : List Env) (s : Shared) (H : Hp) (E : XK) (hr : Room 9 (A.deeper (envOfC qual (defScope S_law) s.heap.objs.size f cdv))) (hcd : cdv = .ref cc) (hgA : (A.deeper (envOfC qual (defScope S_law) s.heap.objs.size f cdv)).guards = some []) :
    DSx (cxOf (L2.CX P w) P w K mg base N_law qual (defScope S_law) f cdv A outer s H E) CT (fun cls d _ H => E cls d H) ((forSt ((defBody S_law).getD 1 (.Pass ⟨0, 0, 0, 0⟩))).getD 6 (.Pass ⟨0, 0, 0, 0⟩)) c_law_1_6 := by
  have hu := units64 hr
  have SS := sc_law
  have tk : Takes (cxOf (L2.CX P w) P w K mg base N_law qual (defScope S_law) f cdv A outer s H E) (fun cls d _ H => E cls d H) := takes_of rfl rfl rfl rfl
  have hcode : (cxOf (L2.CX P w) P w K mg base N_law qual (defScope S_law) f cdv A outer s H E).env.code = .ref cc := hcd
  have hg : (cxOf (L2.CX P w) P w K mg base N_law qual (defScope S_law) f cdv A outer s H E).A.guards = some [] := hgA
  exact (ds_setLc (own := [("n", 7)]) rfl SS.nd (di_seq (de_v 6)) (blkOk_by (N := N_law) (sc := defScope S_law) (by decide +kernel)) (fun s_ H_ C_ cl_ fp_ => (dg_name SS.nd)) (fun s_ H_ C_ cl_ fp_ => (dts_one (dt_lt hu (de_callB call_abs vl_abs T.m_abs (da_cons (de_v 7) da_nil)) de_int))) (fun s_ H_ C_ cl_ fp_ => (de_v 7)))
theorem b_law_1_7 {f : Addr} {qual : Str} (T : TX K mg CT) (G__law_at : Fn P w K mg base CT 2 "_law_at" 2 m__law_at) (G__law_draw : Fn P w K mg base CT 1 "_law_draw" 2 m__law_draw) (G__law_far_at : Fn P w K mg base CT 2 "_law_far_at" 2 m__law_far_at) (G__law_listed : Fn P w K mg base CT 3 "_law_listed" 1 (m__law_listed 3)) (G__law_pen : Fn P w K mg base CT 1 "_law_pen" 1 m__law_pen) (G__law_pick : Fn P w K mg base CT 2 "_law_pick" 2 m__law_pick) (G__law_slope : Fn P w K mg base CT 1 "_law_slope" 2 m__law_slope) (G__law_ten : Fn P w K mg base CT 1 "_law_ten" 1 m__law_ten) (G__law_wide_price : Fn P w K mg base CT 3 "_law_wide_price" 1 m__law_wide_price) (GM_Price : Mkr P w K mg base CT 5 "Price" 2 m_Price___init__) (GM_Price_at : Mt P w K mg base CT 4 "Price" "at" 1 m_Price_at) (GM_Price_more : Mt P w K mg base CT 7 "Price" "more" 1 m_Price_more) (GM_Price_slope : Mt P w K mg base CT 4 "Price" "slope" 1 m_Price_slope) (GK_Price_at : MtK P w K mg base CT 4 "Price" "at" ["n"] [0] m_Price_at) (GK_Price_slope : MtK P w K mg base CT 4 "Price" "slope" ["n"] [0] m_Price_slope) (GK_Price : MkrK P w K mg base CT 5 "Price" ["breaks", "first"] [1, 0] m_Price___init__) (GH : Hrd P w K mg base CT isi ics 0) (GE : Eqo P w K mg base CT 1 "Price" tsP peP) {cc Pt : Addr} (TB : LamX.TabB base mg cc Pt) (hmT : (Pt, lq qual) ∈ CT.T) (huT : ∀ p ∈ CT.T, p.1 = Pt → p.2 = lq qual) (cdv : Value) (A : Around) (outer : List Env) (s : Shared) (H : Hp) (E : XK) (hr : Room 9 (A.deeper (envOfC qual (defScope S_law) s.heap.objs.size f cdv))) (hcd : cdv = .ref cc) (hgA : (A.deeper (envOfC qual (defScope S_law) s.heap.objs.size f cdv)).guards = some []) :
    DSx (cxOf (L2.CX P w) P w K mg base N_law qual (defScope S_law) f cdv A outer s H E) CT (fun cls d _ H => E cls d H) ((forSt ((defBody S_law).getD 1 (.Pass ⟨0, 0, 0, 0⟩))).getD 7 (.Pass ⟨0, 0, 0, 0⟩)) c_law_1_7 := by
  have hu := units64 hr
  have SS := sc_law
  have tk : Takes (cxOf (L2.CX P w) P w K mg base N_law qual (defScope S_law) f cdv A outer s H E) (fun cls d _ H => E cls d H) := takes_of rfl rfl rfl rfl
  have hcode : (cxOf (L2.CX P w) P w K mg base N_law qual (defScope S_law) f cdv A outer s H E).env.code = .ref cc := hcd
  have hg : (cxOf (L2.CX P w) P w K mg base N_law qual (defScope S_law) f cdv A outer s H E).A.guards = some [] := hgA
  exact (ds_if (dt_ne hu (de_fz (dn_lc (own := [("n", 7)]) rfl SS.nd (di_seq (de_v 8)) (blkOk_by (N := N_law) (sc := defScope S_law) (by decide +kernel)) (fun s_ H_ C_ cl_ fp_ => (dg_name SS.nd)) (fun s_ H_ C_ cl_ fp_ => dts_nil) (fun s_ H_ C_ cl_ fp_ => (de_meth GM_Price_at (hr.mono (by decide)) takes_F (de_v 4) (da_cons (de_v 7) da_nil))))) (de_fz (dn_lc (own := [("n", 7)]) rfl SS.nd (di_seq (de_v 8)) (blkOk_by (N := N_law) (sc := defScope S_law) (by decide +kernel)) (fun s_ H_ C_ cl_ fp_ => (dg_name SS.nd)) (fun s_ H_ C_ cl_ fp_ => dts_nil) (fun s_ H_ C_ cl_ fp_ => (de_call G__law_at (hr.mono (by decide)) takes_F (da_cons (de_v 3) (da_cons (de_v 7) da_nil))))))) (db_one (ds_ret de_bl)) db_nil)
theorem b_law_1_8 {f : Addr} {qual : Str} (T : TX K mg CT) (G__law_at : Fn P w K mg base CT 2 "_law_at" 2 m__law_at) (G__law_draw : Fn P w K mg base CT 1 "_law_draw" 2 m__law_draw) (G__law_far_at : Fn P w K mg base CT 2 "_law_far_at" 2 m__law_far_at) (G__law_listed : Fn P w K mg base CT 3 "_law_listed" 1 (m__law_listed 3)) (G__law_pen : Fn P w K mg base CT 1 "_law_pen" 1 m__law_pen) (G__law_pick : Fn P w K mg base CT 2 "_law_pick" 2 m__law_pick) (G__law_slope : Fn P w K mg base CT 1 "_law_slope" 2 m__law_slope) (G__law_ten : Fn P w K mg base CT 1 "_law_ten" 1 m__law_ten) (G__law_wide_price : Fn P w K mg base CT 3 "_law_wide_price" 1 m__law_wide_price) (GM_Price : Mkr P w K mg base CT 5 "Price" 2 m_Price___init__) (GM_Price_at : Mt P w K mg base CT 4 "Price" "at" 1 m_Price_at) (GM_Price_more : Mt P w K mg base CT 7 "Price" "more" 1 m_Price_more) (GM_Price_slope : Mt P w K mg base CT 4 "Price" "slope" 1 m_Price_slope) (GK_Price_at : MtK P w K mg base CT 4 "Price" "at" ["n"] [0] m_Price_at) (GK_Price_slope : MtK P w K mg base CT 4 "Price" "slope" ["n"] [0] m_Price_slope) (GK_Price : MkrK P w K mg base CT 5 "Price" ["breaks", "first"] [1, 0] m_Price___init__) (GH : Hrd P w K mg base CT isi ics 0) (GE : Eqo P w K mg base CT 1 "Price" tsP peP) {cc Pt : Addr} (TB : LamX.TabB base mg cc Pt) (hmT : (Pt, lq qual) ∈ CT.T) (huT : ∀ p ∈ CT.T, p.1 = Pt → p.2 = lq qual) (cdv : Value) (A : Around) (outer : List Env) (s : Shared) (H : Hp) (E : XK) (hr : Room 9 (A.deeper (envOfC qual (defScope S_law) s.heap.objs.size f cdv))) (hcd : cdv = .ref cc) (hgA : (A.deeper (envOfC qual (defScope S_law) s.heap.objs.size f cdv)).guards = some []) :
    DSx (cxOf (L2.CX P w) P w K mg base N_law qual (defScope S_law) f cdv A outer s H E) CT (fun cls d _ H => E cls d H) ((forSt ((defBody S_law).getD 1 (.Pass ⟨0, 0, 0, 0⟩))).getD 8 (.Pass ⟨0, 0, 0, 0⟩)) c_law_1_8 := by
  have hu := units64 hr
  have SS := sc_law
  have tk : Takes (cxOf (L2.CX P w) P w K mg base N_law qual (defScope S_law) f cdv A outer s H E) (fun cls d _ H => E cls d H) := takes_of rfl rfl rfl rfl
  have hcode : (cxOf (L2.CX P w) P w K mg base N_law qual (defScope S_law) f cdv A outer s H E).env.code = .ref cc := hcd
  have hg : (cxOf (L2.CX P w) P w K mg base N_law qual (defScope S_law) f cdv A outer s H E).A.guards = some [] := hgA
  exact (ds_set SS.nd (de_call G__law_pick (hr.mono (by decide)) tk (da_cons (de_v 1) (da_cons (de_fz (dn_lst (da_cons de_int (da_cons de_int (da_cons (de_neg de_int) (da_cons de_int (da_cons (de_pow de_int de_int) (da_cons (de_neg (de_pow de_int de_int)) (da_cons (de_mul de_int (de_pow de_int de_int)) da_nil))))))))) da_nil))))
theorem b_law_1_9 {f : Addr} {qual : Str} (T : TX K mg CT) (G__law_at : Fn P w K mg base CT 2 "_law_at" 2 m__law_at) (G__law_draw : Fn P w K mg base CT 1 "_law_draw" 2 m__law_draw) (G__law_far_at : Fn P w K mg base CT 2 "_law_far_at" 2 m__law_far_at) (G__law_listed : Fn P w K mg base CT 3 "_law_listed" 1 (m__law_listed 3)) (G__law_pen : Fn P w K mg base CT 1 "_law_pen" 1 m__law_pen) (G__law_pick : Fn P w K mg base CT 2 "_law_pick" 2 m__law_pick) (G__law_slope : Fn P w K mg base CT 1 "_law_slope" 2 m__law_slope) (G__law_ten : Fn P w K mg base CT 1 "_law_ten" 1 m__law_ten) (G__law_wide_price : Fn P w K mg base CT 3 "_law_wide_price" 1 m__law_wide_price) (GM_Price : Mkr P w K mg base CT 5 "Price" 2 m_Price___init__) (GM_Price_at : Mt P w K mg base CT 4 "Price" "at" 1 m_Price_at) (GM_Price_more : Mt P w K mg base CT 7 "Price" "more" 1 m_Price_more) (GM_Price_slope : Mt P w K mg base CT 4 "Price" "slope" 1 m_Price_slope) (GK_Price_at : MtK P w K mg base CT 4 "Price" "at" ["n"] [0] m_Price_at) (GK_Price_slope : MtK P w K mg base CT 4 "Price" "slope" ["n"] [0] m_Price_slope) (GK_Price : MkrK P w K mg base CT 5 "Price" ["breaks", "first"] [1, 0] m_Price___init__) (GH : Hrd P w K mg base CT isi ics 0) (GE : Eqo P w K mg base CT 1 "Price" tsP peP) {cc Pt : Addr} (TB : LamX.TabB base mg cc Pt) (hmT : (Pt, lq qual) ∈ CT.T) (huT : ∀ p ∈ CT.T, p.1 = Pt → p.2 = lq qual) (cdv : Value) (A : Around) (outer : List Env) (s : Shared) (H : Hp) (E : XK) (hr : Room 9 (A.deeper (envOfC qual (defScope S_law) s.heap.objs.size f cdv))) (hcd : cdv = .ref cc) (hgA : (A.deeper (envOfC qual (defScope S_law) s.heap.objs.size f cdv)).guards = some []) :
    DSx (cxOf (L2.CX P w) P w K mg base N_law qual (defScope S_law) f cdv A outer s H E) CT (fun cls d _ H => E cls d H) ((forSt ((defBody S_law).getD 1 (.Pass ⟨0, 0, 0, 0⟩))).getD 9 (.Pass ⟨0, 0, 0, 0⟩)) c_law_1_9 := by
  have hu := units64 hr
  have SS := sc_law
  have tk : Takes (cxOf (L2.CX P w) P w K mg base N_law qual (defScope S_law) f cdv A outer s H E) (fun cls d _ H => E cls d H) := takes_of rfl rfl rfl rfl
  have hcode : (cxOf (L2.CX P w) P w K mg base N_law qual (defScope S_law) f cdv A outer s H E).env.code = .ref cc := hcd
  have hg : (cxOf (L2.CX P w) P w K mg base N_law qual (defScope S_law) f cdv A outer s H E).A.guards = some [] := hgA
  exact (ds_setLc (own := [("slope", 16)]) rfl SS.nd (di_seq (de_fz (dn_cat (de_fz (dn_lst (da_cons (de_ix (de_v 3) de_int) da_nil))) (de_fz (dn_lc (own := [("spot", 17), ("slope", 16)]) rfl SS.nd (di_seq (de_ix (de_v 3) de_int)) (blkOk_by (N := N_law) (sc := defScope S_law) (by decide +kernel)) (fun s_ H_ C_ cl_ fp_ => (dg_tup rfl (dgs_cons (dg_name SS.nd) (dgs_cons (dg_name SS.nd) dgs_nil)))) (fun s_ H_ C_ cl_ fp_ => dts_nil) (fun s_ H_ C_ cl_ fp_ => (de_v 16))))))) (blkOk_by (N := N_law) (sc := defScope S_law) (by decide +kernel)) (fun s_ H_ C_ cl_ fp_ => (dg_name SS.nd)) (fun s_ H_ C_ cl_ fp_ => dts_nil) (fun s_ H_ C_ cl_ fp_ => (de_add (de_v 16) (de_v 9))))
theorem b_law_1_10 {f : Addr} {qual : Str} (T : TX K mg CT) (G__law_at : Fn P w K mg base CT 2 "_law_at" 2 m__law_at) (G__law_draw : Fn P w K mg base CT 1 "_law_draw" 2 m__law_draw) (G__law_far_at : Fn P w K mg base CT 2 "_law_far_at" 2 m__law_far_at) (G__law_listed : Fn P w K mg base CT 3 "_law_listed" 1 (m__law_listed 3)) (G__law_pen : Fn P w K mg base CT 1 "_law_pen" 1 m__law_pen) (G__law_pick : Fn P w K mg base CT 2 "_law_pick" 2 m__law_pick) (G__law_slope : Fn P w K mg base CT 1 "_law_slope" 2 m__law_slope) (G__law_ten : Fn P w K mg base CT 1 "_law_ten" 1 m__law_ten) (G__law_wide_price : Fn P w K mg base CT 3 "_law_wide_price" 1 m__law_wide_price) (GM_Price : Mkr P w K mg base CT 5 "Price" 2 m_Price___init__) (GM_Price_at : Mt P w K mg base CT 4 "Price" "at" 1 m_Price_at) (GM_Price_more : Mt P w K mg base CT 7 "Price" "more" 1 m_Price_more) (GM_Price_slope : Mt P w K mg base CT 4 "Price" "slope" 1 m_Price_slope) (GK_Price_at : MtK P w K mg base CT 4 "Price" "at" ["n"] [0] m_Price_at) (GK_Price_slope : MtK P w K mg base CT 4 "Price" "slope" ["n"] [0] m_Price_slope) (GK_Price : MkrK P w K mg base CT 5 "Price" ["breaks", "first"] [1, 0] m_Price___init__) (GH : Hrd P w K mg base CT isi ics 0) (GE : Eqo P w K mg base CT 1 "Price" tsP peP) {cc Pt : Addr} (TB : LamX.TabB base mg cc Pt) (hmT : (Pt, lq qual) ∈ CT.T) (huT : ∀ p ∈ CT.T, p.1 = Pt → p.2 = lq qual) (cdv : Value) (A : Around) (outer : List Env) (s : Shared) (H : Hp) (E : XK) (hr : Room 9 (A.deeper (envOfC qual (defScope S_law) s.heap.objs.size f cdv))) (hcd : cdv = .ref cc) (hgA : (A.deeper (envOfC qual (defScope S_law) s.heap.objs.size f cdv)).guards = some []) :
    DSx (cxOf (L2.CX P w) P w K mg base N_law qual (defScope S_law) f cdv A outer s H E) CT (fun cls d _ H => E cls d H) ((forSt ((defBody S_law).getD 1 (.Pass ⟨0, 0, 0, 0⟩))).getD 10 (.Pass ⟨0, 0, 0, 0⟩)) c_law_1_10 := by
  have hu := units64 hr
  have SS := sc_law
  have tk : Takes (cxOf (L2.CX P w) P w K mg base N_law qual (defScope S_law) f cdv A outer s H E) (fun cls d _ H => E cls d H) := takes_of rfl rfl rfl rfl
  have hcode : (cxOf (L2.CX P w) P w K mg base N_law qual (defScope S_law) f cdv A outer s H E).env.code = .ref cc := hcd
  have hg : (cxOf (L2.CX P w) P w K mg base N_law qual (defScope S_law) f cdv A outer s H E).A.guards = some [] := hgA
  exact (ds_set SS.nd (de_heard (j := 7) (k := 0) (m := 7) (dfl := none) (ps := []) GH exIsi (hr.mono (by decide)) (by decide) (by decide) TB hcode hmT huT (lamS1_by (N := N_law) (sc := defScope S_law) (by decide +kernel)) rfl rfl (lamB0 fun _ _ _ _ _ _ => rfl) (fun A_ outer_ s_ H_ E_ f_ c_ hr => have hu := units64 hr; (de_meth GM_Price_more (hr.mono (by decide)) (takes_of rfl rfl rfl rfl) (de_v 4) (da_cons (de_v 9) da_nil)))))
theorem b_law_1_11 {f : Addr} {qual : Str} (T : TX K mg CT) (G__law_at : Fn P w K mg base CT 2 "_law_at" 2 m__law_at) (G__law_draw : Fn P w K mg base CT 1 "_law_draw" 2 m__law_draw) (G__law_far_at : Fn P w K mg base CT 2 "_law_far_at" 2 m__law_far_at) (G__law_listed : Fn P w K mg base CT 3 "_law_listed" 1 (m__law_listed 3)) (G__law_pen : Fn P w K mg base CT 1 "_law_pen" 1 m__law_pen) (G__law_pick : Fn P w K mg base CT 2 "_law_pick" 2 m__law_pick) (G__law_slope : Fn P w K mg base CT 1 "_law_slope" 2 m__law_slope) (G__law_ten : Fn P w K mg base CT 1 "_law_ten" 1 m__law_ten) (G__law_wide_price : Fn P w K mg base CT 3 "_law_wide_price" 1 m__law_wide_price) (GM_Price : Mkr P w K mg base CT 5 "Price" 2 m_Price___init__) (GM_Price_at : Mt P w K mg base CT 4 "Price" "at" 1 m_Price_at) (GM_Price_more : Mt P w K mg base CT 7 "Price" "more" 1 m_Price_more) (GM_Price_slope : Mt P w K mg base CT 4 "Price" "slope" 1 m_Price_slope) (GK_Price_at : MtK P w K mg base CT 4 "Price" "at" ["n"] [0] m_Price_at) (GK_Price_slope : MtK P w K mg base CT 4 "Price" "slope" ["n"] [0] m_Price_slope) (GK_Price : MkrK P w K mg base CT 5 "Price" ["breaks", "first"] [1, 0] m_Price___init__) (GH : Hrd P w K mg base CT isi ics 0) (GE : Eqo P w K mg base CT 1 "Price" tsP peP) {cc Pt : Addr} (TB : LamX.TabB base mg cc Pt) (hmT : (Pt, lq qual) ∈ CT.T) (huT : ∀ p ∈ CT.T, p.1 = Pt → p.2 = lq qual) (cdv : Value) (A : Around) (outer : List Env) (s : Shared) (H : Hp) (E : XK) (hr : Room 9 (A.deeper (envOfC qual (defScope S_law) s.heap.objs.size f cdv))) (hcd : cdv = .ref cc) (hgA : (A.deeper (envOfC qual (defScope S_law) s.heap.objs.size f cdv)).guards = some []) :
    DSx (cxOf (L2.CX P w) P w K mg base N_law qual (defScope S_law) f cdv A outer s H E) CT (fun cls d _ H => E cls d H) ((forSt ((defBody S_law).getD 1 (.Pass ⟨0, 0, 0, 0⟩))).getD 11 (.Pass ⟨0, 0, 0, 0⟩)) c_law_1_11 := by
  have hu := units64 hr
  have SS := sc_law
  have tk : Takes (cxOf (L2.CX P w) P w K mg base N_law qual (defScope S_law) f cdv A outer s H E) (fun cls d _ H => E cls d H) := takes_of rfl rfl rfl rfl
  have hcode : (cxOf (L2.CX P w) P w K mg base N_law qual (defScope S_law) f cdv A outer s H E).env.code = .ref cc := hcd
  have hg : (cxOf (L2.CX P w) P w K mg base N_law qual (defScope S_law) f cdv A outer s H E).A.guards = some [] := hgA
  exact (ds_set SS.nd (de_if (dt_gt (de_callB call_abs vl_abs T.m_abs (da_cons (de_ix (de_v 10) de_int) da_nil)) (de_pow de_int de_int)) (de_tup (da_cons de_str (da_cons de_str da_nil))) (de_if (dt_gt (de_callB (cr_max rfl) vl_maxL T.m_max (da_cons (de_fz (dn_lc (own := [("one", 18)]) rfl SS.nd (di_seq (de_v 10)) (blkOk_by (N := N_law) (sc := defScope S_law) (by decide +kernel)) (fun s_ H_ C_ cl_ fp_ => (dg_name SS.nd)) (fun s_ H_ C_ cl_ fp_ => dts_nil) (fun s_ H_ C_ cl_ fp_ => (de_callB call_abs vl_abs T.m_abs (da_cons (de_v 18) da_nil))))) da_nil)) (de_pow de_int de_int)) (de_tup (da_cons de_str (da_cons de_str da_nil))) de_non)))
theorem b_law_1_12 {f : Addr} {qual : Str} (T : TX K mg CT) (G__law_at : Fn P w K mg base CT 2 "_law_at" 2 m__law_at) (G__law_draw : Fn P w K mg base CT 1 "_law_draw" 2 m__law_draw) (G__law_far_at : Fn P w K mg base CT 2 "_law_far_at" 2 m__law_far_at) (G__law_listed : Fn P w K mg base CT 3 "_law_listed" 1 (m__law_listed 3)) (G__law_pen : Fn P w K mg base CT 1 "_law_pen" 1 m__law_pen) (G__law_pick : Fn P w K mg base CT 2 "_law_pick" 2 m__law_pick) (G__law_slope : Fn P w K mg base CT 1 "_law_slope" 2 m__law_slope) (G__law_ten : Fn P w K mg base CT 1 "_law_ten" 1 m__law_ten) (G__law_wide_price : Fn P w K mg base CT 3 "_law_wide_price" 1 m__law_wide_price) (GM_Price : Mkr P w K mg base CT 5 "Price" 2 m_Price___init__) (GM_Price_at : Mt P w K mg base CT 4 "Price" "at" 1 m_Price_at) (GM_Price_more : Mt P w K mg base CT 7 "Price" "more" 1 m_Price_more) (GM_Price_slope : Mt P w K mg base CT 4 "Price" "slope" 1 m_Price_slope) (GK_Price_at : MtK P w K mg base CT 4 "Price" "at" ["n"] [0] m_Price_at) (GK_Price_slope : MtK P w K mg base CT 4 "Price" "slope" ["n"] [0] m_Price_slope) (GK_Price : MkrK P w K mg base CT 5 "Price" ["breaks", "first"] [1, 0] m_Price___init__) (GH : Hrd P w K mg base CT isi ics 0) (GE : Eqo P w K mg base CT 1 "Price" tsP peP) {cc Pt : Addr} (TB : LamX.TabB base mg cc Pt) (hmT : (Pt, lq qual) ∈ CT.T) (huT : ∀ p ∈ CT.T, p.1 = Pt → p.2 = lq qual) (cdv : Value) (A : Around) (outer : List Env) (s : Shared) (H : Hp) (E : XK) (hr : Room 9 (A.deeper (envOfC qual (defScope S_law) s.heap.objs.size f cdv))) (hcd : cdv = .ref cc) (hgA : (A.deeper (envOfC qual (defScope S_law) s.heap.objs.size f cdv)).guards = some []) :
    DSx (cxOf (L2.CX P w) P w K mg base N_law qual (defScope S_law) f cdv A outer s H E) CT (fun cls d _ H => E cls d H) ((forSt ((defBody S_law).getD 1 (.Pass ⟨0, 0, 0, 0⟩))).getD 12 (.Pass ⟨0, 0, 0, 0⟩)) c_law_1_12 := by
  have hu := units64 hr
  have SS := sc_law
  have tk : Takes (cxOf (L2.CX P w) P w K mg base N_law qual (defScope S_law) f cdv A outer s H E) (fun cls d _ H => E cls d H) := takes_of rfl rfl rfl rfl
  have hcode : (cxOf (L2.CX P w) P w K mg base N_law qual (defScope S_law) f cdv A outer s H E).env.code = .ref cc := hcd
  have hg : (cxOf (L2.CX P w) P w K mg base N_law qual (defScope S_law) f cdv A outer s H E).A.guards = some [] := hgA
  exact (ds_if (dt_w (dw_or (dt_w (dw_and (dt_isn (de_v 12) de_non) (dw_and1 (dt_ne hu (de_v 11) (de_v 12))))) (dw_or1 (dt_w (dw_and (dt_is (de_v 12) de_non) (dw_and1 (dt_neo T.IK GE hpe (hr.mono (by decide)) hu (de_v 11) (de_fz (dn_lst (da_cons (de_make GM_Price (hr.mono (by decide)) tk (da_cons (de_add (de_ix (de_v 3) de_int) (de_v 9)) (da_cons (de_fz (dn_lc (own := [("spot", 17), ("slope", 16)]) rfl SS.nd (di_seq (de_ix (de_v 3) de_int)) (blkOk_by (N := N_law) (sc := defScope S_law) (by decide +kernel)) (fun s_ H_ C_ cl_ fp_ => (dg_tup rfl (dgs_cons (dg_name SS.nd) (dgs_cons (dg_name SS.nd) dgs_nil)))) (fun s_ H_ C_ cl_ fp_ => dts_nil) (fun s_ H_ C_ cl_ fp_ => (de_tup (da_cons (de_v 17) (da_cons (de_add (de_v 16) (de_v 9)) da_nil)))))) da_nil))) da_nil)))))))))) (db_one (ds_ret de_bl)) db_nil)
theorem b_law_1_13 {f : Addr} {qual : Str} (T : TX K mg CT) (G__law_at : Fn P w K mg base CT 2 "_law_at" 2 m__law_at) (G__law_draw : Fn P w K mg base CT 1 "_law_draw" 2 m__law_draw) (G__law_far_at : Fn P w K mg base CT 2 "_law_far_at" 2 m__law_far_at) (G__law_listed : Fn P w K mg base CT 3 "_law_listed" 1 (m__law_listed 3)) (G__law_pen : Fn P w K mg base CT 1 "_law_pen" 1 m__law_pen) (G__law_pick : Fn P w K mg base CT 2 "_law_pick" 2 m__law_pick) (G__law_slope : Fn P w K mg base CT 1 "_law_slope" 2 m__law_slope) (G__law_ten : Fn P w K mg base CT 1 "_law_ten" 1 m__law_ten) (G__law_wide_price : Fn P w K mg base CT 3 "_law_wide_price" 1 m__law_wide_price) (GM_Price : Mkr P w K mg base CT 5 "Price" 2 m_Price___init__) (GM_Price_at : Mt P w K mg base CT 4 "Price" "at" 1 m_Price_at) (GM_Price_more : Mt P w K mg base CT 7 "Price" "more" 1 m_Price_more) (GM_Price_slope : Mt P w K mg base CT 4 "Price" "slope" 1 m_Price_slope) (GK_Price_at : MtK P w K mg base CT 4 "Price" "at" ["n"] [0] m_Price_at) (GK_Price_slope : MtK P w K mg base CT 4 "Price" "slope" ["n"] [0] m_Price_slope) (GK_Price : MkrK P w K mg base CT 5 "Price" ["breaks", "first"] [1, 0] m_Price___init__) (GH : Hrd P w K mg base CT isi ics 0) (GE : Eqo P w K mg base CT 1 "Price" tsP peP) {cc Pt : Addr} (TB : LamX.TabB base mg cc Pt) (hmT : (Pt, lq qual) ∈ CT.T) (huT : ∀ p ∈ CT.T, p.1 = Pt → p.2 = lq qual) (cdv : Value) (A : Around) (outer : List Env) (s : Shared) (H : Hp) (E : XK) (hr : Room 9 (A.deeper (envOfC qual (defScope S_law) s.heap.objs.size f cdv))) (hcd : cdv = .ref cc) (hgA : (A.deeper (envOfC qual (defScope S_law) s.heap.objs.size f cdv)).guards = some []) :
    DSx (cxOf (L2.CX P w) P w K mg base N_law qual (defScope S_law) f cdv A outer s H E) CT (fun cls d _ H => E cls d H) ((forSt ((defBody S_law).getD 1 (.Pass ⟨0, 0, 0, 0⟩))).getD 13 (.Pass ⟨0, 0, 0, 0⟩)) c_law_1_13 := by
  have hu := units64 hr
  have SS := sc_law
  have tk : Takes (cxOf (L2.CX P w) P w K mg base N_law qual (defScope S_law) f cdv A outer s H E) (fun cls d _ H => E cls d H) := takes_of rfl rfl rfl rfl
  have hcode : (cxOf (L2.CX P w) P w K mg base N_law qual (defScope S_law) f cdv A outer s H E).env.code = .ref cc := hcd
  have hg : (cxOf (L2.CX P w) P w K mg base N_law qual (defScope S_law) f cdv A outer s H E).A.guards = some [] := hgA
  exact (ds_if (dt_w (dw_or (dt_not (dt_eqo T.IK GE (hr.mono (by decide)) hu (de_v 4) (de_makeK GK_Price (hr.mono (by decide)) tk (dk_cons (de_ix (de_v 3) de_int) (dk_cons (de_ix (de_v 3) de_int) dk_nil))))) (dw_or (dt_neo T.IK GE hpe (hr.mono (by decide)) hu (de_v 4) (de_make GM_Price (hr.mono (by decide)) tk (da_cons (de_ix (de_v 3) de_int) (da_cons (de_ix (de_v 3) de_int) da_nil)))) (dw_or (dt_w (dw_and (dt_eqo T.IK GE (hr.mono (by decide)) hu (de_v 4) (de_make GM_Price (hr.mono (by decide)) tk (da_cons (de_ix (de_v 3) de_int) (da_cons (de_fz (dn_lst (da_cons (de_tup (da_cons de_int (da_cons (de_pow de_int de_int) da_nil))) da_nil))) da_nil)))) (dw_and1 (dt_ne hu (de_ix (de_v 3) de_int) (de_tup (da_cons (de_tup (da_cons de_int (da_cons (de_pow de_int de_int) da_nil))) da_nil)))))) (dw_or1 (dt_eqo T.IK GE (hr.mono (by decide)) hu (de_v 4) (de_v 3))))))) (db_one (ds_ret de_bl)) db_nil)
theorem b_law_1_14 {f : Addr} {qual : Str} (T : TX K mg CT) (G__law_at : Fn P w K mg base CT 2 "_law_at" 2 m__law_at) (G__law_draw : Fn P w K mg base CT 1 "_law_draw" 2 m__law_draw) (G__law_far_at : Fn P w K mg base CT 2 "_law_far_at" 2 m__law_far_at) (G__law_listed : Fn P w K mg base CT 3 "_law_listed" 1 (m__law_listed 3)) (G__law_pen : Fn P w K mg base CT 1 "_law_pen" 1 m__law_pen) (G__law_pick : Fn P w K mg base CT 2 "_law_pick" 2 m__law_pick) (G__law_slope : Fn P w K mg base CT 1 "_law_slope" 2 m__law_slope) (G__law_ten : Fn P w K mg base CT 1 "_law_ten" 1 m__law_ten) (G__law_wide_price : Fn P w K mg base CT 3 "_law_wide_price" 1 m__law_wide_price) (GM_Price : Mkr P w K mg base CT 5 "Price" 2 m_Price___init__) (GM_Price_at : Mt P w K mg base CT 4 "Price" "at" 1 m_Price_at) (GM_Price_more : Mt P w K mg base CT 7 "Price" "more" 1 m_Price_more) (GM_Price_slope : Mt P w K mg base CT 4 "Price" "slope" 1 m_Price_slope) (GK_Price_at : MtK P w K mg base CT 4 "Price" "at" ["n"] [0] m_Price_at) (GK_Price_slope : MtK P w K mg base CT 4 "Price" "slope" ["n"] [0] m_Price_slope) (GK_Price : MkrK P w K mg base CT 5 "Price" ["breaks", "first"] [1, 0] m_Price___init__) (GH : Hrd P w K mg base CT isi ics 0) (GE : Eqo P w K mg base CT 1 "Price" tsP peP) {cc Pt : Addr} (TB : LamX.TabB base mg cc Pt) (hmT : (Pt, lq qual) ∈ CT.T) (huT : ∀ p ∈ CT.T, p.1 = Pt → p.2 = lq qual) (cdv : Value) (A : Around) (outer : List Env) (s : Shared) (H : Hp) (E : XK) (hr : Room 9 (A.deeper (envOfC qual (defScope S_law) s.heap.objs.size f cdv))) (hcd : cdv = .ref cc) (hgA : (A.deeper (envOfC qual (defScope S_law) s.heap.objs.size f cdv)).guards = some []) :
    DSx (cxOf (L2.CX P w) P w K mg base N_law qual (defScope S_law) f cdv A outer s H E) CT (fun cls d _ H => E cls d H) ((forSt ((defBody S_law).getD 1 (.Pass ⟨0, 0, 0, 0⟩))).getD 14 (.Pass ⟨0, 0, 0, 0⟩)) c_law_1_14 := by
  have hu := units64 hr
  have SS := sc_law
  have tk : Takes (cxOf (L2.CX P w) P w K mg base N_law qual (defScope S_law) f cdv A outer s H E) (fun cls d _ H => E cls d H) := takes_of rfl rfl rfl rfl
  have hcode : (cxOf (L2.CX P w) P w K mg base N_law qual (defScope S_law) f cdv A outer s H E).env.code = .ref cc := hcd
  have hg : (cxOf (L2.CX P w) P w K mg base N_law qual (defScope S_law) f cdv A outer s H E).A.guards = some [] := hgA
  exact (ds_set SS.nd (de_call G__law_pick (hr.mono (by decide)) tk (da_cons (de_v 1) (da_cons (de_fz (dn_lst (da_cons de_non (da_cons de_bl (da_cons de_str (da_cons de_str (da_cons (de_tup (da_cons de_int da_nil)) (da_cons (de_fz (dn_lst da_nil)) (da_cons de_dict0 da_nil))))))))) da_nil))))
theorem b_law_1_15 {f : Addr} {qual : Str} (T : TX K mg CT) (G__law_at : Fn P w K mg base CT 2 "_law_at" 2 m__law_at) (G__law_draw : Fn P w K mg base CT 1 "_law_draw" 2 m__law_draw) (G__law_far_at : Fn P w K mg base CT 2 "_law_far_at" 2 m__law_far_at) (G__law_listed : Fn P w K mg base CT 3 "_law_listed" 1 (m__law_listed 3)) (G__law_pen : Fn P w K mg base CT 1 "_law_pen" 1 m__law_pen) (G__law_pick : Fn P w K mg base CT 2 "_law_pick" 2 m__law_pick) (G__law_slope : Fn P w K mg base CT 1 "_law_slope" 2 m__law_slope) (G__law_ten : Fn P w K mg base CT 1 "_law_ten" 1 m__law_ten) (G__law_wide_price : Fn P w K mg base CT 3 "_law_wide_price" 1 m__law_wide_price) (GM_Price : Mkr P w K mg base CT 5 "Price" 2 m_Price___init__) (GM_Price_at : Mt P w K mg base CT 4 "Price" "at" 1 m_Price_at) (GM_Price_more : Mt P w K mg base CT 7 "Price" "more" 1 m_Price_more) (GM_Price_slope : Mt P w K mg base CT 4 "Price" "slope" 1 m_Price_slope) (GK_Price_at : MtK P w K mg base CT 4 "Price" "at" ["n"] [0] m_Price_at) (GK_Price_slope : MtK P w K mg base CT 4 "Price" "slope" ["n"] [0] m_Price_slope) (GK_Price : MkrK P w K mg base CT 5 "Price" ["breaks", "first"] [1, 0] m_Price___init__) (GH : Hrd P w K mg base CT isi ics 0) (GE : Eqo P w K mg base CT 1 "Price" tsP peP) {cc Pt : Addr} (TB : LamX.TabB base mg cc Pt) (hmT : (Pt, lq qual) ∈ CT.T) (huT : ∀ p ∈ CT.T, p.1 = Pt → p.2 = lq qual) (cdv : Value) (A : Around) (outer : List Env) (s : Shared) (H : Hp) (E : XK) (hr : Room 9 (A.deeper (envOfC qual (defScope S_law) s.heap.objs.size f cdv))) (hcd : cdv = .ref cc) (hgA : (A.deeper (envOfC qual (defScope S_law) s.heap.objs.size f cdv)).guards = some []) :
    DSx (cxOf (L2.CX P w) P w K mg base N_law qual (defScope S_law) f cdv A outer s H E) CT (fun cls d _ H => E cls d H) ((forSt ((defBody S_law).getD 1 (.Pass ⟨0, 0, 0, 0⟩))).getD 15 (.Pass ⟨0, 0, 0, 0⟩)) c_law_1_15 := by
  have hu := units64 hr
  have SS := sc_law
  have tk : Takes (cxOf (L2.CX P w) P w K mg base N_law qual (defScope S_law) f cdv A outer s H E) (fun cls d _ H => E cls d H) := takes_of rfl rfl rfl rfl
  have hcode : (cxOf (L2.CX P w) P w K mg base N_law qual (defScope S_law) f cdv A outer s H E).env.code = .ref cc := hcd
  have hg : (cxOf (L2.CX P w) P w K mg base N_law qual (defScope S_law) f cdv A outer s H E).A.guards = some [] := hgA
  exact (ds_if (dt_ne hu (de_fz (dn_lst (da_cons (de_heard (j := 7) (k := 0) (m := 7) (dfl := none) (ps := []) GH exIsi (hr.mono (by decide)) (by decide) (by decide) TB hcode hmT huT (lamS1_by (N := N_law) (sc := defScope S_law) (by decide +kernel)) rfl rfl (lamB0 fun _ _ _ _ _ _ => rfl) (fun A_ outer_ s_ H_ E_ f_ c_ hr => have hu := units64 hr; (de_meth GM_Price_at (hr.mono (by decide)) (takes_of rfl rfl rfl rfl) (de_v 4) (da_cons (de_v 13) da_nil)))) (da_cons (de_heard (j := 7) (k := 0) (m := 7) (dfl := (some 0)) (ps := ["a1"]) GH exIsi (hr.mono (by decide)) (by decide) (by decide) TB hcode hmT huT (lamS1_by (N := N_law) (sc := defScope S_law) (by decide +kernel)) ⟨_, _, rfl⟩ rfl (lamB1 fun _ _ _ _ _ _ _ => ⟨_, rfl, fun _ => rfl⟩) (fun A_ outer_ s_ H_ E_ f_ c_ hr => have hu := units64 hr; (de_meth GM_Price_slope (hr.mono (by decide)) (takes_of rfl rfl rfl rfl) (de_v 4) (da_cons (de_v 13) da_nil)))) (da_cons (de_heard (j := 7) (k := 0) (m := 7) (dfl := (some 0)) (ps := ["a2"]) GH exIsi (hr.mono (by decide)) (by decide) (by decide) TB hcode hmT huT (lamS1_by (N := N_law) (sc := defScope S_law) (by decide +kernel)) ⟨_, _, rfl⟩ rfl (lamB1 fun _ _ _ _ _ _ _ => ⟨_, rfl, fun _ => rfl⟩) (fun A_ outer_ s_ H_ E_ f_ c_ hr => have hu := units64 hr; (de_meth GM_Price_more (hr.mono (by decide)) (takes_of rfl rfl rfl rfl) (de_v 4) (da_cons (de_v 13) da_nil)))) da_nil))))) (de_fz (dn_lst (da_cons (de_tup (da_cons de_str (da_cons de_str da_nil))) (da_cons (de_tup (da_cons de_str (da_cons de_str da_nil))) (da_cons (de_tup (da_cons de_str (da_cons de_str da_nil))) da_nil)))))) (db_one (ds_ret de_bl)) db_nil)
theorem b_law_1_16 {f : Addr} {qual : Str} (T : TX K mg CT) (G__law_at : Fn P w K mg base CT 2 "_law_at" 2 m__law_at) (G__law_draw : Fn P w K mg base CT 1 "_law_draw" 2 m__law_draw) (G__law_far_at : Fn P w K mg base CT 2 "_law_far_at" 2 m__law_far_at) (G__law_listed : Fn P w K mg base CT 3 "_law_listed" 1 (m__law_listed 3)) (G__law_pen : Fn P w K mg base CT 1 "_law_pen" 1 m__law_pen) (G__law_pick : Fn P w K mg base CT 2 "_law_pick" 2 m__law_pick) (G__law_slope : Fn P w K mg base CT 1 "_law_slope" 2 m__law_slope) (G__law_ten : Fn P w K mg base CT 1 "_law_ten" 1 m__law_ten) (G__law_wide_price : Fn P w K mg base CT 3 "_law_wide_price" 1 m__law_wide_price) (GM_Price : Mkr P w K mg base CT 5 "Price" 2 m_Price___init__) (GM_Price_at : Mt P w K mg base CT 4 "Price" "at" 1 m_Price_at) (GM_Price_more : Mt P w K mg base CT 7 "Price" "more" 1 m_Price_more) (GM_Price_slope : Mt P w K mg base CT 4 "Price" "slope" 1 m_Price_slope) (GK_Price_at : MtK P w K mg base CT 4 "Price" "at" ["n"] [0] m_Price_at) (GK_Price_slope : MtK P w K mg base CT 4 "Price" "slope" ["n"] [0] m_Price_slope) (GK_Price : MkrK P w K mg base CT 5 "Price" ["breaks", "first"] [1, 0] m_Price___init__) (GH : Hrd P w K mg base CT isi ics 0) (GE : Eqo P w K mg base CT 1 "Price" tsP peP) {cc Pt : Addr} (TB : LamX.TabB base mg cc Pt) (hmT : (Pt, lq qual) ∈ CT.T) (huT : ∀ p ∈ CT.T, p.1 = Pt → p.2 = lq qual) (cdv : Value) (A : Around) (outer : List Env) (s : Shared) (H : Hp) (E : XK) (hr : Room 9 (A.deeper (envOfC qual (defScope S_law) s.heap.objs.size f cdv))) (hcd : cdv = .ref cc) (hgA : (A.deeper (envOfC qual (defScope S_law) s.heap.objs.size f cdv)).guards = some []) :
    DSx (cxOf (L2.CX P w) P w K mg base N_law qual (defScope S_law) f cdv A outer s H E) CT (fun cls d _ H => E cls d H) ((forSt ((defBody S_law).getD 1 (.Pass ⟨0, 0, 0, 0⟩))).getD 16 (.Pass ⟨0, 0, 0, 0⟩)) c_law_1_16 := by
  have hu := units64 hr
  have SS := sc_law
  have tk : Takes (cxOf (L2.CX P w) P w K mg base N_law qual (defScope S_law) f cdv A outer s H E) (fun cls d _ H => E cls d H) := takes_of rfl rfl rfl rfl
  have hcode : (cxOf (L2.CX P w) P w K mg base N_law qual (defScope S_law) f cdv A outer s H E).env.code = .ref cc := hcd
  have hg : (cxOf (L2.CX P w) P w K mg base N_law qual (defScope S_law) f cdv A outer s H E).A.guards = some [] := hgA
  exact (ds_set SS.nd (de_call G__law_pick (hr.mono (by decide)) tk (da_cons (de_v 1) (da_cons (de_fz (dn_lst (da_cons de_non (da_cons de_bl (da_cons de_str (da_cons (de_add (de_pow de_int de_int) de_int) (da_cons (de_sub (de_neg (de_pow de_int de_int)) de_int) (da_cons (de_tup da_nil) da_nil)))))))) da_nil))))
theorem b_law_1_17 {f : Addr} {qual : Str} (T : TX K mg CT) (G__law_at : Fn P w K mg base CT 2 "_law_at" 2 m__law_at) (G__law_draw : Fn P w K mg base CT 1 "_law_draw" 2 m__law_draw) (G__law_far_at : Fn P w K mg base CT 2 "_law_far_at" 2 m__law_far_at) (G__law_listed : Fn P w K mg base CT 3 "_law_listed" 1 (m__law_listed 3)) (G__law_pen : Fn P w K mg base CT 1 "_law_pen" 1 m__law_pen) (G__law_pick : Fn P w K mg base CT 2 "_law_pick" 2 m__law_pick) (G__law_slope : Fn P w K mg base CT 1 "_law_slope" 2 m__law_slope) (G__law_ten : Fn P w K mg base CT 1 "_law_ten" 1 m__law_ten) (G__law_wide_price : Fn P w K mg base CT 3 "_law_wide_price" 1 m__law_wide_price) (GM_Price : Mkr P w K mg base CT 5 "Price" 2 m_Price___init__) (GM_Price_at : Mt P w K mg base CT 4 "Price" "at" 1 m_Price_at) (GM_Price_more : Mt P w K mg base CT 7 "Price" "more" 1 m_Price_more) (GM_Price_slope : Mt P w K mg base CT 4 "Price" "slope" 1 m_Price_slope) (GK_Price_at : MtK P w K mg base CT 4 "Price" "at" ["n"] [0] m_Price_at) (GK_Price_slope : MtK P w K mg base CT 4 "Price" "slope" ["n"] [0] m_Price_slope) (GK_Price : MkrK P w K mg base CT 5 "Price" ["breaks", "first"] [1, 0] m_Price___init__) (GH : Hrd P w K mg base CT isi ics 0) (GE : Eqo P w K mg base CT 1 "Price" tsP peP) {cc Pt : Addr} (TB : LamX.TabB base mg cc Pt) (hmT : (Pt, lq qual) ∈ CT.T) (huT : ∀ p ∈ CT.T, p.1 = Pt → p.2 = lq qual) (cdv : Value) (A : Around) (outer : List Env) (s : Shared) (H : Hp) (E : XK) (hr : Room 9 (A.deeper (envOfC qual (defScope S_law) s.heap.objs.size f cdv))) (hcd : cdv = .ref cc) (hgA : (A.deeper (envOfC qual (defScope S_law) s.heap.objs.size f cdv)).guards = some []) :
    DSx (cxOf (L2.CX P w) P w K mg base N_law qual (defScope S_law) f cdv A outer s H E) CT (fun cls d _ H => E cls d H) ((forSt ((defBody S_law).getD 1 (.Pass ⟨0, 0, 0, 0⟩))).getD 17 (.Pass ⟨0, 0, 0, 0⟩)) c_law_1_17 := by
  have hu := units64 hr
  have SS := sc_law
  have tk : Takes (cxOf (L2.CX P w) P w K mg base N_law qual (defScope S_law) f cdv A outer s H E) (fun cls d _ H => E cls d H) := takes_of rfl rfl rfl rfl
  have hcode : (cxOf (L2.CX P w) P w K mg base N_law qual (defScope S_law) f cdv A outer s H E).env.code = .ref cc := hcd
  have hg : (cxOf (L2.CX P w) P w K mg base N_law qual (defScope S_law) f cdv A outer s H E).A.guards = some [] := hgA
  exact (ds_set SS.nd (de_fz (dn_lst (da_cons de_non (da_cons de_int (da_cons de_str (da_cons (de_tup (da_cons (de_tup (da_cons de_int da_nil)) da_nil)) (da_cons (de_tup (da_cons (de_tup (da_cons de_int (da_cons de_int (da_cons de_int da_nil)))) da_nil)) (da_cons (de_tup (da_cons (de_tup (da_cons de_int (da_cons de_int da_nil))) (da_cons (de_tup (da_cons de_int (da_cons de_int da_nil))) da_nil))) (da_cons (de_tup (da_cons (de_tup (da_cons de_int (da_cons de_int da_nil))) (da_cons (de_tup (da_cons de_int (da_cons de_int da_nil))) da_nil))) (da_cons (de_tup (da_cons (de_tup (da_cons de_int (da_cons de_int da_nil))) (da_cons (de_tup (da_cons de_int (da_cons de_int da_nil))) da_nil))) (da_cons (de_tup (da_cons (de_tup (da_cons de_int (da_cons de_int da_nil))) (da_cons (de_tup (da_cons de_int (da_cons de_int da_nil))) da_nil))) (da_cons (de_tup (da_cons (de_tup (da_cons de_int (da_cons de_int da_nil))) da_nil)) (da_cons (de_tup (da_cons (de_tup (da_cons de_int (da_cons (de_neg de_int) da_nil))) da_nil)) (da_cons (de_tup (da_cons (de_tup (da_cons (de_add (de_pow de_int de_int) de_int) (da_cons de_int da_nil))) da_nil)) (da_cons (de_tup (da_cons (de_tup (da_cons de_int (da_cons (de_add (de_pow de_int de_int) de_int) da_nil))) da_nil)) da_nil))))))))))))))))
theorem b_law_1_18 {f : Addr} {qual : Str} (T : TX K mg CT) (G__law_at : Fn P w K mg base CT 2 "_law_at" 2 m__law_at) (G__law_draw : Fn P w K mg base CT 1 "_law_draw" 2 m__law_draw) (G__law_far_at : Fn P w K mg base CT 2 "_law_far_at" 2 m__law_far_at) (G__law_listed : Fn P w K mg base CT 3 "_law_listed" 1 (m__law_listed 3)) (G__law_pen : Fn P w K mg base CT 1 "_law_pen" 1 m__law_pen) (G__law_pick : Fn P w K mg base CT 2 "_law_pick" 2 m__law_pick) (G__law_slope : Fn P w K mg base CT 1 "_law_slope" 2 m__law_slope) (G__law_ten : Fn P w K mg base CT 1 "_law_ten" 1 m__law_ten) (G__law_wide_price : Fn P w K mg base CT 3 "_law_wide_price" 1 m__law_wide_price) (GM_Price : Mkr P w K mg base CT 5 "Price" 2 m_Price___init__) (GM_Price_at : Mt P w K mg base CT 4 "Price" "at" 1 m_Price_at) (GM_Price_more : Mt P w K mg base CT 7 "Price" "more" 1 m_Price_more) (GM_Price_slope : Mt P w K mg base CT 4 "Price" "slope" 1 m_Price_slope) (GK_Price_at : MtK P w K mg base CT 4 "Price" "at" ["n"] [0] m_Price_at) (GK_Price_slope : MtK P w K mg base CT 4 "Price" "slope" ["n"] [0] m_Price_slope) (GK_Price : MkrK P w K mg base CT 5 "Price" ["breaks", "first"] [1, 0] m_Price___init__) (GH : Hrd P w K mg base CT isi ics 0) (GE : Eqo P w K mg base CT 1 "Price" tsP peP) {cc Pt : Addr} (TB : LamX.TabB base mg cc Pt) (hmT : (Pt, lq qual) ∈ CT.T) (huT : ∀ p ∈ CT.T, p.1 = Pt → p.2 = lq qual) (cdv : Value) (A : Around) (outer : List Env) (s : Shared) (H : Hp) (E : XK) (hr : Room 9 (A.deeper (envOfC qual (defScope S_law) s.heap.objs.size f cdv))) (hcd : cdv = .ref cc) (hgA : (A.deeper (envOfC qual (defScope S_law) s.heap.objs.size f cdv)).guards = some []) :
    DSx (cxOf (L2.CX P w) P w K mg base N_law qual (defScope S_law) f cdv A outer s H E) CT (fun cls d _ H => E cls d H) ((forSt ((defBody S_law).getD 1 (.Pass ⟨0, 0, 0, 0⟩))).getD 18 (.Pass ⟨0, 0, 0, 0⟩)) c_law_1_18 := by
  have hu := units64 hr
  have SS := sc_law
  have tk : Takes (cxOf (L2.CX P w) P w K mg base N_law qual (defScope S_law) f cdv A outer s H E) (fun cls d _ H => E cls d H) := takes_of rfl rfl rfl rfl
  have hcode : (cxOf (L2.CX P w) P w K mg base N_law qual (defScope S_law) f cdv A outer s H E).env.code = .ref cc := hcd
  have hg : (cxOf (L2.CX P w) P w K mg base N_law qual (defScope S_law) f cdv A outer s H E).A.guards = some [] := hgA
  exact (ds_set SS.nd (de_call G__law_pick (hr.mono (by decide)) tk (da_cons (de_v 1) (da_cons (de_fz (dn_cat (de_v 15) (de_fz (dn_lst (da_cons (de_tup (da_cons (de_tup (da_cons de_int (da_cons de_bl da_nil))) da_nil)) (da_cons (de_tup (da_cons (de_tup (da_cons de_str (da_cons de_int da_nil))) da_nil)) (da_cons (de_tup (da_cons (de_tup (da_cons de_non (da_cons de_int da_nil))) da_nil)) (da_cons (de_callTy call_tuple_of vl_tuple T.m_tuple (da_cons (de_fz (dn_lc (own := [("at", 19)]) rfl SS.nd (di_range1 T.m_range (da_cons de_int da_nil)) (blkOk_by (N := N_law) (sc := defScope S_law) (by decide +kernel)) (fun s_ H_ C_ cl_ fp_ => (dg_name SS.nd)) (fun s_ H_ C_ cl_ fp_ => dts_nil) (fun s_ H_ C_ cl_ fp_ => (de_tup (da_cons (de_v 19) (da_cons (de_add (de_v 19) de_int) da_nil)))))) da_nil)) (da_cons de_dict1 da_nil))))))))) da_nil))))
theorem b_law_1_19 {f : Addr} {qual : Str} (T : TX K mg CT) (G__law_at : Fn P w K mg base CT 2 "_law_at" 2 m__law_at) (G__law_draw : Fn P w K mg base CT 1 "_law_draw" 2 m__law_draw) (G__law_far_at : Fn P w K mg base CT 2 "_law_far_at" 2 m__law_far_at) (G__law_listed : Fn P w K mg base CT 3 "_law_listed" 1 (m__law_listed 3)) (G__law_pen : Fn P w K mg base CT 1 "_law_pen" 1 m__law_pen) (G__law_pick : Fn P w K mg base CT 2 "_law_pick" 2 m__law_pick) (G__law_slope : Fn P w K mg base CT 1 "_law_slope" 2 m__law_slope) (G__law_ten : Fn P w K mg base CT 1 "_law_ten" 1 m__law_ten) (G__law_wide_price : Fn P w K mg base CT 3 "_law_wide_price" 1 m__law_wide_price) (GM_Price : Mkr P w K mg base CT 5 "Price" 2 m_Price___init__) (GM_Price_at : Mt P w K mg base CT 4 "Price" "at" 1 m_Price_at) (GM_Price_more : Mt P w K mg base CT 7 "Price" "more" 1 m_Price_more) (GM_Price_slope : Mt P w K mg base CT 4 "Price" "slope" 1 m_Price_slope) (GK_Price_at : MtK P w K mg base CT 4 "Price" "at" ["n"] [0] m_Price_at) (GK_Price_slope : MtK P w K mg base CT 4 "Price" "slope" ["n"] [0] m_Price_slope) (GK_Price : MkrK P w K mg base CT 5 "Price" ["breaks", "first"] [1, 0] m_Price___init__) (GH : Hrd P w K mg base CT isi ics 0) (GE : Eqo P w K mg base CT 1 "Price" tsP peP) {cc Pt : Addr} (TB : LamX.TabB base mg cc Pt) (hmT : (Pt, lq qual) ∈ CT.T) (huT : ∀ p ∈ CT.T, p.1 = Pt → p.2 = lq qual) (cdv : Value) (A : Around) (outer : List Env) (s : Shared) (H : Hp) (E : XK) (hr : Room 9 (A.deeper (envOfC qual (defScope S_law) s.heap.objs.size f cdv))) (hcd : cdv = .ref cc) (hgA : (A.deeper (envOfC qual (defScope S_law) s.heap.objs.size f cdv)).guards = some []) :
    DSx (cxOf (L2.CX P w) P w K mg base N_law qual (defScope S_law) f cdv A outer s H E) CT (fun cls d _ H => E cls d H) ((forSt ((defBody S_law).getD 1 (.Pass ⟨0, 0, 0, 0⟩))).getD 19 (.Pass ⟨0, 0, 0, 0⟩)) c_law_1_19 := by
  have hu := units64 hr
  have SS := sc_law
  have tk : Takes (cxOf (L2.CX P w) P w K mg base N_law qual (defScope S_law) f cdv A outer s H E) (fun cls d _ H => E cls d H) := takes_of rfl rfl rfl rfl
  have hcode : (cxOf (L2.CX P w) P w K mg base N_law qual (defScope S_law) f cdv A outer s H E).env.code = .ref cc := hcd
  have hg : (cxOf (L2.CX P w) P w K mg base N_law qual (defScope S_law) f cdv A outer s H E).A.guards = some [] := hgA
  exact (ds_if (dt_w (dw_or (dt_ne hu (de_heard (j := 7) (k := 0) (m := 7) (dfl := none) (ps := []) GH exIsi (hr.mono (by decide)) (by decide) (by decide) TB hcode hmT huT (lamS1_by (N := N_law) (sc := defScope S_law) (by decide +kernel)) rfl rfl (lamB0 fun _ _ _ _ _ _ => rfl) (fun A_ outer_ s_ H_ E_ f_ c_ hr => have hu := units64 hr; (de_make GM_Price (hr.mono (by decide)) (takes_of rfl rfl rfl rfl) (da_cons (de_v 14) (da_cons (de_v 15) da_nil))))) (de_tup (da_cons de_str (da_cons de_str da_nil)))) (dw_or1 (dt_ne hu (de_heard (j := 7) (k := 0) (m := 7) (dfl := (some 0)) (ps := ["a1"]) GH exIsi (hr.mono (by decide)) (by decide) (by decide) TB hcode hmT huT (lamS1_by (N := N_law) (sc := defScope S_law) (by decide +kernel)) ⟨_, _, rfl⟩ rfl (lamB1 fun _ _ _ _ _ _ _ => ⟨_, rfl, fun _ => rfl⟩) (fun A_ outer_ s_ H_ E_ f_ c_ hr => have hu := units64 hr; (de_make GM_Price (hr.mono (by decide)) (takes_of rfl rfl rfl rfl) (da_cons de_int (da_cons (de_v 15) da_nil))))) (de_tup (da_cons de_str (da_cons de_str da_nil))))))) (db_one (ds_ret de_bl)) db_nil)
theorem b_law_2 {f : Addr} {qual : Str} (T : TX K mg CT) (G__law_at : Fn P w K mg base CT 2 "_law_at" 2 m__law_at) (G__law_draw : Fn P w K mg base CT 1 "_law_draw" 2 m__law_draw) (G__law_far_at : Fn P w K mg base CT 2 "_law_far_at" 2 m__law_far_at) (G__law_listed : Fn P w K mg base CT 3 "_law_listed" 1 (m__law_listed 3)) (G__law_pen : Fn P w K mg base CT 1 "_law_pen" 1 m__law_pen) (G__law_pick : Fn P w K mg base CT 2 "_law_pick" 2 m__law_pick) (G__law_slope : Fn P w K mg base CT 1 "_law_slope" 2 m__law_slope) (G__law_ten : Fn P w K mg base CT 1 "_law_ten" 1 m__law_ten) (G__law_wide_price : Fn P w K mg base CT 3 "_law_wide_price" 1 m__law_wide_price) (GM_Price : Mkr P w K mg base CT 5 "Price" 2 m_Price___init__) (GM_Price_at : Mt P w K mg base CT 4 "Price" "at" 1 m_Price_at) (GM_Price_more : Mt P w K mg base CT 7 "Price" "more" 1 m_Price_more) (GM_Price_slope : Mt P w K mg base CT 4 "Price" "slope" 1 m_Price_slope) (GK_Price_at : MtK P w K mg base CT 4 "Price" "at" ["n"] [0] m_Price_at) (GK_Price_slope : MtK P w K mg base CT 4 "Price" "slope" ["n"] [0] m_Price_slope) (GK_Price : MkrK P w K mg base CT 5 "Price" ["breaks", "first"] [1, 0] m_Price___init__) (GH : Hrd P w K mg base CT isi ics 0) (GE : Eqo P w K mg base CT 1 "Price" tsP peP) {cc Pt : Addr} (TB : LamX.TabB base mg cc Pt) (hmT : (Pt, lq qual) ∈ CT.T) (huT : ∀ p ∈ CT.T, p.1 = Pt → p.2 = lq qual) (cdv : Value) (A : Around) (outer : List Env) (s : Shared) (H : Hp) (E : XK) (hr : Room 9 (A.deeper (envOfC qual (defScope S_law) s.heap.objs.size f cdv))) (hcd : cdv = .ref cc) (hgA : (A.deeper (envOfC qual (defScope S_law) s.heap.objs.size f cdv)).guards = some []) :
    DSx (cxOf (L2.CX P w) P w K mg base N_law qual (defScope S_law) f cdv A outer s H E) CT (fun cls d _ H => E cls d H) ((defBody S_law).getD 2 (.Pass ⟨0, 0, 0, 0⟩)) c_law_2 := by
  have hu := units64 hr
  have SS := sc_law
  have tk : Takes (cxOf (L2.CX P w) P w K mg base N_law qual (defScope S_law) f cdv A outer s H E) (fun cls d _ H => E cls d H) := takes_of rfl rfl rfl rfl
  have hcode : (cxOf (L2.CX P w) P w K mg base N_law qual (defScope S_law) f cdv A outer s H E).env.code = .ref cc := hcd
  have hg : (cxOf (L2.CX P w) P w K mg base N_law qual (defScope S_law) f cdv A outer s H E).A.guards = some [] := hgA
  exact (ds_ret de_bl)
theorem b_law {f : Addr} {qual : Str} (T : TX K mg CT) (G__law_at : Fn P w K mg base CT 2 "_law_at" 2 m__law_at) (G__law_draw : Fn P w K mg base CT 1 "_law_draw" 2 m__law_draw) (G__law_far_at : Fn P w K mg base CT 2 "_law_far_at" 2 m__law_far_at) (G__law_listed : Fn P w K mg base CT 3 "_law_listed" 1 (m__law_listed 3)) (G__law_pen : Fn P w K mg base CT 1 "_law_pen" 1 m__law_pen) (G__law_pick : Fn P w K mg base CT 2 "_law_pick" 2 m__law_pick) (G__law_slope : Fn P w K mg base CT 1 "_law_slope" 2 m__law_slope) (G__law_ten : Fn P w K mg base CT 1 "_law_ten" 1 m__law_ten) (G__law_wide_price : Fn P w K mg base CT 3 "_law_wide_price" 1 m__law_wide_price) (GM_Price : Mkr P w K mg base CT 5 "Price" 2 m_Price___init__) (GM_Price_at : Mt P w K mg base CT 4 "Price" "at" 1 m_Price_at) (GM_Price_more : Mt P w K mg base CT 7 "Price" "more" 1 m_Price_more) (GM_Price_slope : Mt P w K mg base CT 4 "Price" "slope" 1 m_Price_slope) (GK_Price_at : MtK P w K mg base CT 4 "Price" "at" ["n"] [0] m_Price_at) (GK_Price_slope : MtK P w K mg base CT 4 "Price" "slope" ["n"] [0] m_Price_slope) (GK_Price : MkrK P w K mg base CT 5 "Price" ["breaks", "first"] [1, 0] m_Price___init__) (GH : Hrd P w K mg base CT isi ics 0) (GE : Eqo P w K mg base CT 1 "Price" tsP peP) {cc Pt : Addr} (TB : LamX.TabB base mg cc Pt) (hmT : (Pt, lq qual) ∈ CT.T) (huT : ∀ p ∈ CT.T, p.1 = Pt → p.2 = lq qual) (cdv : Value) (A : Around) (outer : List Env) (s : Shared) (H : Hp) (E : XK) (hr : Room 9 (A.deeper (envOfC qual (defScope S_law) s.heap.objs.size f cdv))) (hcd : cdv = .ref cc) (hgA : (A.deeper (envOfC qual (defScope S_law) s.heap.objs.size f cdv)).guards = some []) :
    DBx (cxOf (L2.CX P w) P w K mg base N_law qual (defScope S_law) f cdv A outer s H E) CT (fun cls d _ H => E cls d H) (defBody S_law) c_law := by
  have hu := units64 hr
  have SS := sc_law
  have tk : Takes (cxOf (L2.CX P w) P w K mg base N_law qual (defScope S_law) f cdv A outer s H E) (fun cls d _ H => E cls d H) := takes_of rfl rfl rfl rfl
  have po : PassesOwn (model P w) (cxOf (L2.CX P w) P w K mg base N_law qual (defScope S_law) f cdv A outer s H E).A (cxOf (L2.CX P w) P w K mg base N_law qual (defScope S_law) f cdv A outer s H E).env (cxOf (L2.CX P w) P w K mg base N_law qual (defScope S_law) f cdv A outer s H E).xe := passes_of rfl
  have hcode : (cxOf (L2.CX P w) P w K mg base N_law qual (defScope S_law) f cdv A outer s H E).env.code = .ref cc := hcd
  have hg : (cxOf (L2.CX P w) P w K mg base N_law qual (defScope S_law) f cdv A outer s H E).A.guards = some [] := hgA
  exact (db_cons (b_law_0 T G__law_at G__law_draw G__law_far_at G__law_listed G__law_pen G__law_pick G__law_slope G__law_ten G__law_wide_price GM_Price GM_Price_at GM_Price_more GM_Price_slope GK_Price_at GK_Price_slope GK_Price GH GE TB hmT huT cdv A outer s H E hr hcd hgA)
  (db_cons (ds_for po rfl (di_range1 T.m_range (da_cons de_int da_nil)) (dg_name SS.nd)
  (db_cons (b_law_1_0 T G__law_at G__law_draw G__law_far_at G__law_listed G__law_pen G__law_pick G__law_slope G__law_ten G__law_wide_price GM_Price GM_Price_at GM_Price_more GM_Price_slope GK_Price_at GK_Price_slope GK_Price GH GE TB hmT huT cdv A outer s H E hr hcd hgA)
  (db_cons (b_law_1_1 T G__law_at G__law_draw G__law_far_at G__law_listed G__law_pen G__law_pick G__law_slope G__law_ten G__law_wide_price GM_Price GM_Price_at GM_Price_more GM_Price_slope GK_Price_at GK_Price_slope GK_Price GH GE TB hmT huT cdv A outer s H E hr hcd hgA)
  (db_cons (b_law_1_2 T G__law_at G__law_draw G__law_far_at G__law_listed G__law_pen G__law_pick G__law_slope G__law_ten G__law_wide_price GM_Price GM_Price_at GM_Price_more GM_Price_slope GK_Price_at GK_Price_slope GK_Price GH GE TB hmT huT cdv A outer s H E hr hcd hgA)
  (db_cons (b_law_1_3 T G__law_at G__law_draw G__law_far_at G__law_listed G__law_pen G__law_pick G__law_slope G__law_ten G__law_wide_price GM_Price GM_Price_at GM_Price_more GM_Price_slope GK_Price_at GK_Price_slope GK_Price GH GE TB hmT huT cdv A outer s H E hr hcd hgA)
  (db_cons (b_law_1_4 T G__law_at G__law_draw G__law_far_at G__law_listed G__law_pen G__law_pick G__law_slope G__law_ten G__law_wide_price GM_Price GM_Price_at GM_Price_more GM_Price_slope GK_Price_at GK_Price_slope GK_Price GH GE TB hmT huT cdv A outer s H E hr hcd hgA)
  (db_cons (b_law_1_5 T G__law_at G__law_draw G__law_far_at G__law_listed G__law_pen G__law_pick G__law_slope G__law_ten G__law_wide_price GM_Price GM_Price_at GM_Price_more GM_Price_slope GK_Price_at GK_Price_slope GK_Price GH GE TB hmT huT cdv A outer s H E hr hcd hgA)
  (db_cons (b_law_1_6 T G__law_at G__law_draw G__law_far_at G__law_listed G__law_pen G__law_pick G__law_slope G__law_ten G__law_wide_price GM_Price GM_Price_at GM_Price_more GM_Price_slope GK_Price_at GK_Price_slope GK_Price GH GE TB hmT huT cdv A outer s H E hr hcd hgA)
  (db_cons (b_law_1_7 T G__law_at G__law_draw G__law_far_at G__law_listed G__law_pen G__law_pick G__law_slope G__law_ten G__law_wide_price GM_Price GM_Price_at GM_Price_more GM_Price_slope GK_Price_at GK_Price_slope GK_Price GH GE TB hmT huT cdv A outer s H E hr hcd hgA)
  (db_cons (b_law_1_8 T G__law_at G__law_draw G__law_far_at G__law_listed G__law_pen G__law_pick G__law_slope G__law_ten G__law_wide_price GM_Price GM_Price_at GM_Price_more GM_Price_slope GK_Price_at GK_Price_slope GK_Price GH GE TB hmT huT cdv A outer s H E hr hcd hgA)
  (db_cons (b_law_1_9 T G__law_at G__law_draw G__law_far_at G__law_listed G__law_pen G__law_pick G__law_slope G__law_ten G__law_wide_price GM_Price GM_Price_at GM_Price_more GM_Price_slope GK_Price_at GK_Price_slope GK_Price GH GE TB hmT huT cdv A outer s H E hr hcd hgA)
  (db_cons (b_law_1_10 T G__law_at G__law_draw G__law_far_at G__law_listed G__law_pen G__law_pick G__law_slope G__law_ten G__law_wide_price GM_Price GM_Price_at GM_Price_more GM_Price_slope GK_Price_at GK_Price_slope GK_Price GH GE TB hmT huT cdv A outer s H E hr hcd hgA)
  (db_cons (b_law_1_11 T G__law_at G__law_draw G__law_far_at G__law_listed G__law_pen G__law_pick G__law_slope G__law_ten G__law_wide_price GM_Price GM_Price_at GM_Price_more GM_Price_slope GK_Price_at GK_Price_slope GK_Price GH GE TB hmT huT cdv A outer s H E hr hcd hgA)
  (db_cons (b_law_1_12 T G__law_at G__law_draw G__law_far_at G__law_listed G__law_pen G__law_pick G__law_slope G__law_ten G__law_wide_price GM_Price GM_Price_at GM_Price_more GM_Price_slope GK_Price_at GK_Price_slope GK_Price GH GE TB hmT huT cdv A outer s H E hr hcd hgA)
  (db_cons (b_law_1_13 T G__law_at G__law_draw G__law_far_at G__law_listed G__law_pen G__law_pick G__law_slope G__law_ten G__law_wide_price GM_Price GM_Price_at GM_Price_more GM_Price_slope GK_Price_at GK_Price_slope GK_Price GH GE TB hmT huT cdv A outer s H E hr hcd hgA)
  (db_cons (b_law_1_14 T G__law_at G__law_draw G__law_far_at G__law_listed G__law_pen G__law_pick G__law_slope G__law_ten G__law_wide_price GM_Price GM_Price_at GM_Price_more GM_Price_slope GK_Price_at GK_Price_slope GK_Price GH GE TB hmT huT cdv A outer s H E hr hcd hgA)
  (db_cons (b_law_1_15 T G__law_at G__law_draw G__law_far_at G__law_listed G__law_pen G__law_pick G__law_slope G__law_ten G__law_wide_price GM_Price GM_Price_at GM_Price_more GM_Price_slope GK_Price_at GK_Price_slope GK_Price GH GE TB hmT huT cdv A outer s H E hr hcd hgA)
  (db_cons (b_law_1_16 T G__law_at G__law_draw G__law_far_at G__law_listed G__law_pen G__law_pick G__law_slope G__law_ten G__law_wide_price GM_Price GM_Price_at GM_Price_more GM_Price_slope GK_Price_at GK_Price_slope GK_Price GH GE TB hmT huT cdv A outer s H E hr hcd hgA)
  (db_cons (b_law_1_17 T G__law_at G__law_draw G__law_far_at G__law_listed G__law_pen G__law_pick G__law_slope G__law_ten G__law_wide_price GM_Price GM_Price_at GM_Price_more GM_Price_slope GK_Price_at GK_Price_slope GK_Price GH GE TB hmT huT cdv A outer s H E hr hcd hgA)
  (db_cons (b_law_1_18 T G__law_at G__law_draw G__law_far_at G__law_listed G__law_pen G__law_pick G__law_slope G__law_ten G__law_wide_price GM_Price GM_Price_at GM_Price_more GM_Price_slope GK_Price_at GK_Price_slope GK_Price GH GE TB hmT huT cdv A outer s H E hr hcd hgA)
  (db_one (b_law_1_19 T G__law_at G__law_draw G__law_far_at G__law_listed G__law_pen G__law_pick G__law_slope G__law_ten G__law_wide_price GM_Price GM_Price_at GM_Price_more GM_Price_slope GK_Price_at GK_Price_slope GK_Price GH GE TB hmT huT cdv A outer s H E hr hcd hgA))))))))))))))))))))))
  (db_one (b_law_2 T G__law_at G__law_draw G__law_far_at G__law_listed G__law_pen G__law_pick G__law_slope G__law_ten G__law_wide_price GM_Price GM_Price_at GM_Price_more GM_Price_slope GK_Price_at GK_Price_slope GK_Price GH GE TB hmT huT cdv A outer s H E hr hcd hgA))))

end
end K09

set_option Elab.async false
set_option linter.all false
set_option maxRecDepth 100000
set_option maxHeartbeats 4000000
set_option autoImplicit false
namespace K09
open PySem PySem.Spec PyProof.Rows L2 DE
/-- what the def _law_heard leans on -/
structure THd (K : PySem.W.Frag) (mg : Str → Option Value) (CT : Cfg) (me : Addr) : Prop where
  IK : IsK K CT isi ics ecsH
  m_isinstance : mg "isinstance" = none
  c_ManyError : mg "ManyError" = some (.ref me)
  exm : ∀ C ∈ ecsH, ∀ Cc, CT C = some Cc → PySem.W.exmOne K (.ref Cc) (.ref me) = some true
  c_TooMany : mg "TooMany" = some (.ref (adr CT "TooMany")) ∧ CT "TooMany" = some (adr CT "TooMany")
  c_BadText : mg "BadText" = some (.ref (adr CT "BadText")) ∧ CT "BadText" = some (adr CT "BadText")
  c_BadKind : mg "BadKind" = some (.ref (adr CT "BadKind")) ∧ CT "BadKind" = some (adr CT "BadKind")
  c_BadPrice : mg "BadPrice" = some (.ref (adr CT "BadPrice")) ∧ CT "BadPrice" = some (adr CT "BadPrice")
  c_BadBox : mg "BadBox" = some (.ref (adr CT "BadBox")) ∧ CT "BadBox" = some (adr CT "BadBox")
  c_BadDay : mg "BadDay" = some (.ref (adr CT "BadDay")) ∧ CT "BadDay" = some (adr CT "BadDay")
  c_BadValue : mg "BadValue" = some (.ref (adr CT "BadValue")) ∧ CT "BadValue" = some (adr CT "BadValue")
  c_BadNumber : mg "BadNumber" = some (.ref (adr CT "BadNumber")) ∧ CT "BadNumber" = some (adr CT "BadNumber")
  c_BadPaper : mg "BadPaper" = some (.ref (adr CT "BadPaper")) ∧ CT "BadPaper" = some (adr CT "BadPaper")
  c_Misfit : mg "Misfit" = some (.ref (adr CT "Misfit")) ∧ CT "Misfit" = some (adr CT "Misfit")
  c_Nothing : mg "Nothing" = some (.ref (adr CT "Nothing")) ∧ CT "Nothing" = some (adr CT "Nothing")
  c_NoName : mg "NoName" = some (.ref (adr CT "NoName")) ∧ CT "NoName" = some (adr CT "NoName")
  x_what : ∀ C ∈ ecsH, ∀ Ca, CT C = some Ca → XfC K Ca ∧ PySem.W.findIn K (.ref Ca) "what" = some none
  x_most : ∀ C ∈ ecsH, ∀ Ca, CT C = some Ca → XfC K Ca ∧ PySem.W.findIn K (.ref Ca) "most" = some none
  x_line : ∀ C ∈ ecsH, ∀ Ca, CT C = some Ca → XfC K Ca ∧ PySem.W.findIn K (.ref Ca) "line" = some none
  x_word : ∀ C ∈ ecsH, ∀ Ca, CT C = some Ca → XfC K Ca ∧ PySem.W.findIn K (.ref Ca) "word" = some none
  x_part : ∀ C ∈ ecsH, ∀ Ca, CT C = some Ca → XfC K Ca ∧ PySem.W.findIn K (.ref Ca) "part" = some none
  x_name : ∀ C ∈ ecsH, ∀ Ca, CT C = some Ca → XfC K Ca ∧ PySem.W.findIn K (.ref Ca) "name" = some none
theorem heard_eq : cAsg (cTupE (cCons (cK .non) (cCons (cK .non) cNil))) (gTp 2 (gMore (gNm 1) (gMore (gNm 2) gNone))) = cPar [1, 2] (cCons (cK .non) (cCons (cK .non) cNil)) := by
  funext ρ S
  have h : ([D.non, D.non] : List D).length ≤ sizeLine := (by decide : 2 ≤ sizeLine)
  have e : cTupE (cCons (cK .non) (cCons (cK .non) cNil)) ρ S = some (.ok (.tup [.non, .non]) S) := by
    show (if ([D.non, D.non] : List D).length ≤ sizeLine then DE.ret (D.tup [.non, .non]) S else none) = _
    rw [if_pos h]; rfl
  unfold cAsg cStep
  rw [e]
  rfl
section
variable {P : Program} {w : World} {K : PySem.W.Frag} {mg : Str → Option Value} {base : Heap} {CT : Cfg}
abbrev S__law_heard : Stmt := top 31
theorem sc__law_heard : FnScope Nh ["ask"] (defScope S__law_heard) := ⟨rfl, rfl, rfl, by decide +kernel, rfl, by decide +kernel, by decide +kernel⟩
theorem b__law_heard {g me : Addr} (TH : THd K mg CT me) (cdg : Value) (A : Around) (outer : List Env) (s : Shared) (H : Hp) (ask : C D) (hr : Room 0 (A.deeper (envOfC "_law_heard" (defScope S__law_heard) s.heap.objs.size g cdg)))
    (hask : ∀ (W : WX) (pn : List (Addr × Obj)) (xe : Value → Shared → Prop) (p1 p2 : Pos), Takes ((cxOf C8.CX0 P w K mg base Nh "_law_heard" (defScope S__law_heard) g cdg A outer s H C8.E0).tr pn xe) W → DEx ((cxOf C8.CX0 P w K mg base Nh "_law_heard" (defScope S__law_heard) g cdg A outer s H C8.E0).tr pn xe) CT W (.Call (.Name "ask" p1) [] [] p2) ask) :
    DBx (cxOf C8.CX0 P w K mg base Nh "_law_heard" (defScope S__law_heard) g cdg A outer s H C8.E0) CT WF (defBody S__law_heard) (heardC isi ics ecsH ask) := by
  have hu := units64 hr
  have SS := sc__law_heard
  have tk : Takes (cxOf C8.CX0 P w K mg base Nh "_law_heard" (defScope S__law_heard) g cdg A outer s H C8.E0) WF := takes_F
  exact (db_cons (heard_eq ▸ ds_asg (de_tup (da_cons de_non (da_cons de_non da_nil))) (dg_tup rfl (dgs_cons (dg_name SS.nd) (dgs_cons (dg_name SS.nd) dgs_nil))))
  (db_cons (ds_tryT (i := 3) rfl rfl SS.nd rfl rfl ⟨rfl, by decide, .inl TH.c_ManyError⟩ tk TH.exm (fun W pn xe tk po => db_one (ds_set (i := 1) SS.nd (hask W pn xe _ _ tk))) (fun a pn => db_one (ds_set (i := 2) SS.nd (de_v 3))))
  (db_cons (ds_if (dt_is (de_v 2) de_non) (db_one (ds_ret (de_fz (dn_lst (da_cons (de_v 1) da_nil))))) db_nil)
  (db_cons (ds_if (dt_tr (de_callB call_isA (vl_isi TH.IK) TH.m_isinstance (da_cons (de_v 2) (da_cons (de_gcls TH.c_TooMany.1 TH.c_TooMany.2) da_nil)))) (db_one (ds_ret (de_tup (da_cons de_str (da_cons (de_xf TH.x_what (de_v 2)) (da_cons (de_xf TH.x_most (de_v 2)) da_nil)))))) db_nil)
  (db_cons (ds_if (dt_tr (de_callB call_isA (vl_isi TH.IK) TH.m_isinstance (da_cons (de_v 2) (da_cons (de_gcls TH.c_BadText.1 TH.c_BadText.2) da_nil)))) (db_one (ds_ret (de_tup (da_cons de_str (da_cons (de_xf TH.x_line (de_v 2)) (da_cons (de_xf TH.x_word (de_v 2)) da_nil)))))) db_nil)
  (db_cons (ds_set (i := 4) SS.nd (de_fz (dn_lst (da_cons de_str (da_cons de_str (da_cons de_str (da_cons de_str (da_cons de_str (da_cons de_str (da_cons de_str (da_cons de_str (da_cons de_str da_nil))))))))))))
  (db_cons (ds_set (i := 5) SS.nd (de_fz (dn_lst (da_cons (de_callB call_isA (vl_isi TH.IK) TH.m_isinstance (da_cons (de_v 2) (da_cons (de_gcls TH.c_BadKind.1 TH.c_BadKind.2) da_nil))) (da_cons (de_callB call_isA (vl_isi TH.IK) TH.m_isinstance (da_cons (de_v 2) (da_cons (de_gcls TH.c_BadPrice.1 TH.c_BadPrice.2) da_nil))) (da_cons (de_callB call_isA (vl_isi TH.IK) TH.m_isinstance (da_cons (de_v 2) (da_cons (de_gcls TH.c_BadBox.1 TH.c_BadBox.2) da_nil))) (da_cons (de_callB call_isA (vl_isi TH.IK) TH.m_isinstance (da_cons (de_v 2) (da_cons (de_gcls TH.c_BadDay.1 TH.c_BadDay.2) da_nil))) (da_cons (de_callB call_isA (vl_isi TH.IK) TH.m_isinstance (da_cons (de_v 2) (da_cons (de_gcls TH.c_BadValue.1 TH.c_BadValue.2) da_nil))) (da_cons (de_callB call_isA (vl_isi TH.IK) TH.m_isinstance (da_cons (de_v 2) (da_cons (de_gcls TH.c_BadNumber.1 TH.c_BadNumber.2) da_nil))) da_nil)))))))))
  (db_cons (ds_set (i := 5) SS.nd (de_fz (dn_cat (de_v 5) (de_fz (dn_lst (da_cons (de_callB call_isA (vl_isi TH.IK) TH.m_isinstance (da_cons (de_v 2) (da_cons (de_gcls TH.c_BadPaper.1 TH.c_BadPaper.2) da_nil))) (da_cons (de_callB call_isA (vl_isi TH.IK) TH.m_isinstance (da_cons (de_v 2) (da_cons (de_gcls TH.c_Misfit.1 TH.c_Misfit.2) da_nil))) (da_cons (de_callB call_isA (vl_isi TH.IK) TH.m_isinstance (da_cons (de_v 2) (da_cons (de_gcls TH.c_Nothing.1 TH.c_Nothing.2) da_nil))) da_nil))))))))
  (db_cons (ds_if (dt_in de_bl (de_v 5) (by rfl)) (db_one (ds_ret (de_tup (da_cons (de_ix (de_v 4) (de_index (pe_bm PySem.F.plainAttrs_list PySem.F.slot_list_index PySem.F.type_list_index mt_index (de_v 5) (pa_cons de_bl pa_nil)))) (da_cons (de_xf TH.x_part (de_v 2)) da_nil))))) db_nil)
  (db_one (ds_ret (de_if (dt_tr (de_callB call_isA (vl_isi TH.IK) TH.m_isinstance (da_cons (de_v 2) (da_cons (de_gcls TH.c_NoName.1 TH.c_NoName.2) da_nil)))) (de_tup (da_cons de_str (da_cons (de_xf TH.x_name (de_v 2)) da_nil))) (de_tup (da_cons de_str (da_cons (de_xf TH.x_word (de_v 2)) da_nil)))))))))))))))
end
end K09

set_option Elab.async false
set_option linter.all false
set_option maxRecDepth 100000
set_option maxHeartbeats 1000000
set_option autoImplicit false
namespace K09
open PySem PySem.Spec PyProof.Rows L2 DE
theorem toPDs_ints {S : Store} (ns : List Int) : toPDs S (ns.map D.int) = some (ns.map PyData.int) := by
  induction ns with
  | nil => rfl
  | cons n ns ih => rw [List.map_cons, toPDs, ih]; rfl
theorem eqNil {S : Store} {Q : D → Store → Prop} (cells : List Int) : EvP (kEq true (.lst (cells.map D.int)) (.lst []) S) Q = Q (.bl (decide (cells ≠ []))) S := by
  have h1 : toPDr S (.lst (cells.map D.int)) = some (.list (cells.map PyData.int)) := by
    show (toPDs S _).map _ = _
    rw [toPDs_ints]; rfl
  have h2 : toPDr S (.lst []) = some (.list []) := rfl
  have s1 : SeqAt.shaped (.list (cells.map PyData.int)) = true := by
    have a : ∀ ns : List Int, PyData.canLayAll0 (ns.map PyData.int) = true ∧ PyData.depthAll (ns.map PyData.int) = 0 := fun ns => by
      induction ns with
      | nil => exact ⟨by simp [PyData.canLayAll0], by simp [PyData.depthAll]⟩
      | cons x xs ih => exact ⟨by simp [PyData.canLayAll0, PyData.canLay0, ih.1], by simp [PyData.depthAll, PyData.depth, ih.2]⟩
    unfold SeqAt.shaped
    simp [PyData.canLay0, PyData.depth, a cells]
  have s2 : SeqAt.shaped (.list []) = true := by simp [SeqAt.shaped, PyData.canLay0, PyData.depth, PyData.canLayAll0, PyData.depthAll]
  have e : PyData.eqv (.list (cells.map PyData.int)) (.list []) = decide (cells = []) := by
    cases cells <;> simp [PyData.eqv, PyData.eqvAll]
  unfold kEq
  rw [h1, h2]
  simp only [s1, s2, e, Bool.and_self, if_true, evp_ret]
  by_cases c : cells = [] <;> simp [c]
theorem mulOk_l {i j : Int} (h1 : -(2 ^ 64) < i) (h2 : i < 2 ^ 64) : mulOk i j = true := by
  unfold mulOk; simp only [h1, h2, decide_true, Bool.and_self, Bool.true_or]
theorem mulOk_r {i j : Int} (h1 : -(2 ^ 64) < j) (h2 : j < 2 ^ 64) : mulOk i j = true := by
  unfold mulOk; simp only [h1, h2, decide_true, Bool.and_self, Bool.or_true]
theorem atI_ints {cells : List Int} {i : Int} (h0 : 0 ≤ i) (h1 : i < cells.length) : ∃ c, L2.atI (cells.map D.int) i = some (.int c) := by
  have hl : i.toNat < cells.length := by omega
  refine ⟨cells[i.toNat], ?_⟩
  unfold L2.atI L2.ixN
  rw [if_pos h0, if_pos (by rw [List.length_map]; exact h1)]
  show (cells.map D.int)[i.toNat]? = _
  rw [List.getElem?_map, List.getElem?_eq_getElem hl]; rfl
theorem draw_ok {n b : Nat} {S : Store} {many : Int} (hp : Pen n b S) (hb : b < 100000) (hm : 0 < many) (hm2 : many < 1073741824) :
    EvP (m__law_draw [.ref n, .int many] S) fun d S' => ∃ r, d = .int r ∧ 0 ≤ r ∧ r < many ∧ Pen n (b + 1) S' ∧ Same n S S' := by
  obtain ⟨cells, at_, rest, hS, ha, hab, hc⟩ := hp
  have hn : n < S.length := by
    rcases Nat.lt_or_ge n S.length with h | h
    · exact h
    · rw [List.getElem?_eq_none h] at hS; cases hS
  have hlst : lstAt S n = some [.lst (cells.map D.int), .int at_, .int rest] := by unfold lstAt; rw [hS]
  have hmod : ∀ z : Int, 0 ≤ z.fmod many ∧ z.fmod many < many := fun z => ⟨Int.fmod_nonneg_of_pos z hm, Int.fmod_lt_of_pos z hm⟩
  have hdv : many ≠ 0 := by omega
  have hdv2 : many.natAbs < 1073741824 := by omega
  have done : ∀ (z at' rest' : Int) (S' : Store), S'[n]? = some (some (.lst [.lst (cells.map D.int), .int at', .int rest'])) → 0 ≤ at' → at' ≤ (b : Int) + 1 → Same n S S' → (∃ r, D.int (z.fmod many) = .int r ∧ 0 ≤ r ∧ r < many ∧ Pen n (b + 1) S' ∧ Same n S S') :=
    fun z at' rest' S' h1 h2 h3 h4 => ⟨_, rfl, (hmod z).1, (hmod z).2, ⟨cells, at', rest', h1, h2, by omega, hc⟩, h4⟩
  refine evp_run rfl ?_
  show StP (c__law_draw [some (.ref n), some (.int many), none, none, none, none] S) _
  unfold c__law_draw
  have i0 : ∀ {Q : D → Store → Prop}, EvP (kIx (.ref n) (.int 0) S) Q = Q (.lst (cells.map D.int)) S := h_ixRef hlst rfl
  have i1 : ∀ {Q : D → Store → Prop}, EvP (kIx (.ref n) (.int 1) S) Q = Q (.int at_) S := h_ixRef hlst rfl
  have i2 : ∀ {Q : D → Store → Prop}, EvP (kIx (.ref n) (.int 2) S) Q = Q (.int rest) S := h_ixRef hlst rfl
  have w2 : ∀ {y : Int} {k : Store → Prop}, asL S n 2 (.int y) k = k (S.set n (some (.lst [.lst (cells.map D.int), .int at_, .int y]))) := asL_eq (j := 2) hlst rfl
  have w1 : ∀ {y : Int} {k : Store → Prop}, asL S n 1 (.int y) k = k (S.set n (some (.lst [.lst (cells.map D.int), .int y, .int rest]))) := asL_eq (j := 1) hlst rfl
  obtain ⟨S1, hS1⟩ : ∃ S1, S1 = S.set n (some (.lst [.lst (cells.map D.int), .int (at_ + 1), .int rest])) := ⟨_, rfl⟩
  have w1' : ∀ {k : Store → Prop}, asL S n 1 (.int (at_ + 1)) k = k S1 := by intro k; rw [w1, ← hS1]
  have hl1 : lstAt S1 n = some [.lst (cells.map D.int), .int (at_ + 1), .int rest] := by rw [hS1]; exact lstAt_set hn
  have j0 : ∀ {Q : D → Store → Prop}, EvP (kIx (.ref n) (.int 0) S1) Q = Q (.lst (cells.map D.int)) S1 := h_ixRef hl1 rfl
  have w2' : ∀ {y : Int} {k : Store → Prop}, asL S1 n 2 (.int y) k = k (S1.set n (some (.lst [.lst (cells.map D.int), .int (at_ + 1), .int y]))) := asL_eq (j := 2) hl1 rfl
  by_cases h0 : 0 < rest
  · simp only [↓h_seq, ↓stp_if, ↓h_cT, ↓evp_c2, ↓evp_c1, ↓evp_cV0, ↓evp_cVs, ↓evp_cK, ↓asB_bl, ↓evp_gt, i2, h0, decide_true, if_true, ↓stp_set, ↓evp_cCall, ↓evp_cCons, ↓evp_cNil, ↓evp_k1, ↓evp_int, List.set_cons_succ, List.set_cons_zero, ↓asF_nx, ↓h_setIx, ↓evp_div, ↓asR_ref, w2, ↓stp_ret, ↓evp_mod, ↓asF_rt, ↓stp_skip]
    refine ⟨hdv, hdv2, hdv, .inl ⟨_, rfl, done _ at_ _ _ (List.getElem?_set_self hn) ha (by omega) Same.set⟩⟩
  · have ha5 : at_ < 100000 := by omega
    have q1 : mulOk 61487 at_ = true := mulOk_l (by decide) (by decide)
    have q2 : mulOk 73609 at_ = true := mulOk_l (by decide) (by decide)
    have q3 : mulOk 2 at_ = true := mulOk_l (by decide) (by decide)
    have q4 : mulOk (61487 * at_) at_ = true := mulOk_r (by omega) (by omega)
    have q5 : ∀ z, mulOk z (2 * at_ + 1201) = true := fun z => mulOk_r (by omega) (by omega)
    have q6 : ∀ z, mulOk 2 z = true := fun z => mulOk_l (by decide) (by decide)
    have z0 : ([] : List D).length ≤ sizeLine := Nat.zero_le _
    have p1 : ∀ cell : Int, (0 : Int) ≤ 5 ∧ (5 : Int) ≤ 1000000 ∧ (cell.fmod 2147483563 + 73609 * at_ + 1201).natAbs < 2 ^ 64 := fun cell => by
      have h1 := Int.fmod_nonneg_of_pos cell (b := 2147483563) (by decide)
      have h2 := Int.fmod_lt_of_pos cell (b := 2147483563) (by decide)
      refine ⟨by decide, by decide, ?_⟩
      omega
    have p2 : ∀ m : Int, (0 : Int) ≤ 3 ∧ (3 : Int) ≤ 1000000 ∧ (m.fmod 2147483549 * (2 * at_ + 1201) + 61487 * at_ * at_ + 73609).natAbs < 2 ^ 64 := fun m => by
      have h1 := Int.fmod_nonneg_of_pos m (b := 2147483549) (by decide)
      have h2 := Int.fmod_lt_of_pos m (b := 2147483549) (by decide)
      generalize m.fmod 2147483549 = x at h1 h2 ⊢
      have e1 : x * (2 * at_ + 1201) ≤ 2147483549 * 201201 := Int.mul_le_mul (by omega) (by omega) (by omega) (by omega)
      have e2 : 0 ≤ x * (2 * at_ + 1201) := Int.mul_nonneg h1 (by omega)
      have e3 : 61487 * at_ * at_ ≤ 6148700000 * 100000 := Int.mul_le_mul (by omega) (by omega) (by omega) (by omega)
      have e4 : 0 ≤ 61487 * at_ * at_ := Int.mul_nonneg (by omega) ha
      generalize x * (2 * at_ + 1201) = y at *
      generalize 61487 * at_ * at_ = w at *
      refine ⟨by decide, by decide, ?_⟩
      omega
    have p3 : (0 : Int) ≤ 18 ∧ (18 : Int) ≤ 1000000 ∧ (10 : Int).natAbs < 2 ^ 64 := by decide
    have r1 : (2147483563 : Int) ≠ 0 := by decide
    have r2 : (2147483549 : Int) ≠ 0 := by decide
    have r3 : (2147483579 : Int) ≠ 0 := by decide
    have r4 : (64 : Int) ≠ 0 := by decide
    have r5 : (64 : Int).natAbs < 1073741824 := by decide
    have fin1 : ∀ z : Int, (∃ d, Fl.rt (D.int (z.fmod many)) = Fl.rt d ∧ ∃ r, d = .int r ∧ 0 ≤ r ∧ r < many ∧ Pen n (b + 1) S1 ∧ DE.Same n S S1) := fun z => ⟨_, rfl, done z (at_ + 1) rest S1 (by rw [hS1]; exact List.getElem?_set_self hn) (by omega) (by omega) (by rw [hS1]; exact Same.set)⟩
    have fin2 : ∀ z y : Int, (∃ d, Fl.rt (D.int (z.fmod many)) = Fl.rt d ∧ ∃ r, d = .int r ∧ 0 ≤ r ∧ r < many ∧ Pen n (b + 1) (S1.set n (some (.lst [.lst (cells.map D.int), .int (at_ + 1), .int y]))) ∧ DE.Same n S (S1.set n (some (.lst [.lst (cells.map D.int), .int (at_ + 1), .int y])))) := fun z y =>
      ⟨_, rfl, done z (at_ + 1) y _ (List.getElem?_set_self (by rw [hS1, List.length_set]; exact hn)) (by omega) (by omega) (by rw [hS1, List.set_set]; exact Same.set)⟩
    by_cases c0 : cells = []
    · have c1 : decide (cells ≠ []) = false := by simp [c0]
      have c2 : (List.map D.int cells).length = 0 := by simp [c0]
      have c3 : ¬ at_ < ((0 : Nat) : Int) := by omega
      simp only [↓h_seq, ↓stp_if, ↓h_cT, ↓evp_c2, ↓evp_c1, ↓evp_cV0, ↓evp_cVs, ↓evp_cK, ↓asB_bl, ↓evp_gt, i2, h0, decide_false, Bool.false_eq_true, if_false, ↓stp_set, ↓evp_cCall, ↓evp_cCons, ↓evp_cNil, ↓evp_k1, ↓evp_int, List.set_cons_succ, List.set_cons_zero, ↓asF_nx, ↓h_setIx, ↓evp_div, ↓asR_ref, i1, w1', ↓stp_ret, ↓evp_mod, ↓asF_rt, ↓stp_skip, ↓evp_add, ↓evp_mul, j0, ↓evp_cFz, ↓evp_cLstE, ↓eqNil, q1, z0, true_and, c1, ↓evp_cAnd, ↓h_lenl, c2, ↓evp_lt, c3, ↓evp_pow, p1, p2, q2, q3, q4, q5, r1, r2, r3, r4, r5, hdv, ne_eq, not_false_eq_true, fin1, true_or]
      exact ⟨⟨by decide, by decide, trivial⟩, ⟨by decide, by decide, trivial⟩, trivial⟩
    · have c1 : decide (cells ≠ []) = true := by simp [c0]
      have hl0 : (0 : Int) < (cells.map D.int).length := by
        cases cells with
        | nil => exact absurd rfl c0
        | cons c cs => rw [List.length_map, List.length_cons]; omega
      have hl1' : ((cells.map D.int).length : Int) ≠ 0 := by omega
      obtain ⟨cell, hcell⟩ := atI_ints (cells := cells) (i := at_.fmod (cells.map D.int).length) (Int.fmod_nonneg_of_pos _ hl0) (by have := Int.fmod_lt_of_pos at_ hl0; rwa [List.length_map] at this ⊢)
      have hc1 : ∀ {Q : D → Store → Prop}, EvP (kIx (.lst (cells.map D.int)) (.int (at_.fmod (cells.map D.int).length)) S1) Q = Q (.int cell) S1 := h_ix rfl hcell
      simp only [↓h_seq, ↓stp_if, ↓h_cT, ↓evp_c2, ↓evp_c1, ↓evp_cV0, ↓evp_cVs, ↓evp_cK, ↓asB_bl, ↓evp_gt, i2, h0, decide_false, Bool.false_eq_true, if_false, ↓stp_set, ↓evp_cCall, ↓evp_cCons, ↓evp_cNil, ↓evp_k1, ↓evp_int, List.set_cons_succ, List.set_cons_zero, ↓asF_nx, ↓h_setIx, ↓evp_div, ↓asR_ref, i1, w1', ↓stp_ret, ↓evp_mod, ↓asF_rt, ↓stp_skip, ↓evp_add, ↓evp_mul, j0, ↓evp_cFz, ↓evp_cLstE, ↓eqNil, q1, z0, true_and, c1, ↓evp_cAnd, ↓h_lenl, ↓evp_lt, ↓evp_pow, p1, p2, p3, q2, q3, q4, q5, q6, r1, r2, r3, r4, r5, hdv, hdv2, ne_eq, not_false_eq_true, fin1, fin2, true_or, hl1', if_true, hc1, ↓evp_ge, ↓evp_abs, ↓evp_sub, ↓evp_intb, w2']
      have z9 : ((0 : Int) ≤ 5 ∧ (5 : Int) ≤ 1000000 ∧ True) ∧ ((0 : Int) ≤ 3 ∧ (3 : Int) ≤ 1000000 ∧ True) ∧ True := ⟨⟨by decide, by decide, trivial⟩, ⟨by decide, by decide, trivial⟩, trivial⟩
      split
      · generalize (if cell < 0 then -cell else cell) = z
        split
        · trivial
        · exact z9
      · exact z9
/-- one of some, by the pen -/
theorem pick_ok {n b : Nat} {S : Store} {ds : List D} (hp : Pen n b S) (hb : b < 100000) (h1 : ds ≠ []) (h2 : ds.length < 1000000) :
    EvP (m__law_pick [.ref n, .lst ds] S) fun d S' => d ∈ ds ∧ Pen n (b + 1) S' ∧ Same n S S' := by
  refine evp_run rfl ?_
  show StP (c__law_pick [some (.ref n), some (.lst ds)] S) _
  unfold c__law_pick
  have hl : 0 < ds.length := List.length_pos_iff.mpr h1
  simp only [↓stp_ret, ↓evp_c2, ↓evp_cV0, ↓evp_cVs, ↓evp_cCall, ↓evp_cCons, ↓evp_cNil, ↓evp_k1, ↓h_lenl, List.length_cons, List.length_nil, if_true]
  refine (draw_ok hp hb (by omega) (by omega)).mono fun d S' h => ?_
  obtain ⟨r, rfl, r0, r1, p, sm⟩ := h
  have e : L2.atI ds r = some ds[r.toNat] := by
    unfold L2.atI L2.ixN
    rw [if_pos r0, if_pos r1]
    exact List.getElem?_eq_getElem (by omega)
  rw [h_ix rfl e]
  exact .inl ⟨_, rfl, List.getElem_mem _, p, sm⟩
end K09

set_option Elab.async false
set_option linter.all false
set_option maxRecDepth 100000
set_option maxHeartbeats 1000000
set_option autoImplicit false
namespace K09
open PySem PySem.Spec PyProof.Rows L2 DE
theorem cut_scr {S : Store} {L : List D → Store → Prop} {ns : List Int} (h : ns.length ≤ 63) : EvP (kSlL (.scr ns) none (some 63) S) L = L (ns.map D.int) S := by
  unfold kSlL
  simp only
  rw [if_pos (by omega), evp_ret]
  have : DE.cutD (ns.map D.int) none (some 63) = ns.map D.int := by
    unfold DE.cutD
    have e0 : HT.sIx (ns.map D.int).length 0 none = 0 := rfl
    have e1 : ns.length ≤ HT.sIx (ns.map D.int).length (ns.map D.int).length (some 63) := by
      rw [List.length_map]
      show ns.length ≤ (if (63 : Int) < 0 then ((63 : Int) + ns.length).toNat else min (Int.toNat 63) ns.length)
      rw [if_neg (by decide)]
      have : Int.toNat 63 = 63 := rfl
      omega
    rw [e0, List.drop_zero, Nat.sub_zero]
    exact List.take_of_length_le (Nat.le_trans (Nat.le_of_eq (List.length_map ..)) e1)
  rw [this]
theorem pen_ok {S : Store} {ns : List Int} (h : ns.length ≤ 63) : EvP (m__law_pen [.scr ns] S) fun d S' => d = .ref S.length ∧ Pen S.length 0 S' ∧ Same S.length S S' := by
  refine evp_run rfl ?_
  show StP (c__law_pen [some (.scr ns), none] S) _
  unfold c__law_pen
  have hz : (ns.map D.int).length ≤ sizeLine := by rw [List.length_map]; exact Nat.le_trans h (by decide)
  have fin : ∀ ds : List D, ds = ns.map D.int → Pen S.length 0 (S ++ [some (.lst [.lst ds, .int 0, .int 0])]) ∧ Same S.length S (S ++ [some (.lst [.lst ds, .int 0, .int 0])]) := fun ds e => by
    subst e
    refine ⟨⟨ns, 0, 0, ?_, by omega, by omega, h⟩, by simp, fun m _ l => ?_⟩
    · simp
    · rw [List.getElem?_append_left l]
  simp only [↓stp_ret, ↓evp_cLv, ↓evp_cLstE, ↓evp_cCons, ↓evp_cNil, ↓evp_cFz, ↓evp_cLc, ↓h_cItS, ↓evp_cSlL, ↓evp_cV0, ↓evp_cVs, ↓evp_pno, ↓h_pso, ↓evp_cK, ↓asI_int, cut_scr h, ↓asS_lst]
  refine ⟨hz, evp_map (fun d => d) (fun d hd => ?_) ?_⟩
  · obtain ⟨i, _, rfl⟩ := List.mem_map.mp hd
    refine ⟨_, rfl, ?_⟩
    show EvP (cCall (k1 kInt) (cCons (cV 1) cNil) [some (.scr ns), some (.int i)] S) _
    simp only [↓evp_cCall, ↓evp_cCons, ↓evp_cNil, ↓evp_cV0, ↓evp_cVs, ↓evp_k1, ↓evp_int]
    exact ⟨trivial, trivial⟩
  · rw [List.map_id']
    exact ⟨(by decide : 3 ≤ sizeLine), .inl ⟨_, rfl, rfl, fin _ rfl⟩⟩
end K09

set_option Elab.async false
set_option linter.all false
set_option maxRecDepth 100000
set_option maxHeartbeats 1000000
set_option autoImplicit false
namespace K09
open PySem PySem.Spec PyProof.Rows L2 DE
section
variable {S : Store} {Q : D → Store → Prop} {d : D}
theorem evp_isi {t u : Tag} {b : Bool} {c : D} (h : tagOf ics ecs S d = some t) (hc : clsTag c = some u) (h2 : isi t u = some b) : EvP (kIsi isi ics ecs d c S) Q = Q (.bl b) S := by
  unfold kIsi
  rw [h, hc]
  simp only [h2]
  exact propext Iff.rfl
theorem isi_int {t : String} (h : t ∈ bts) : isi (.b t) (.b "int") = some (decide (t = "int" ∨ t = "bool")) := by
  simp only [bts, List.mem_cons, List.not_mem_nil, or_false] at h
  rcases h with rfl | rfl | rfl | rfl | rfl | rfl | rfl <;> decide +kernel
theorem isi_bool {t : String} (h : t ∈ bts) : isi (.b t) (.b "bool") = some (decide (t = "bool")) := by
  simp only [bts, List.mem_cons, List.not_mem_nil, or_false] at h
  rcases h with rfl | rfl | rfl | rfl | rfl | rfl | rfl <;> decide +kernel
theorem p_integer {t : String} (h : tagOf ics ecs S d = some (.b t)) (ht : t ∈ bts) : EvP (m_is_integer [d] S) Q = Q (.bl (decide (t = "int"))) S := by
  have key : m_is_integer [d] S = some (.ok (.bl (decide (t = "int"))) S) := by
    obtain ⟨a, S', e, q⟩ := evp_get (Q := fun x S' => x = .bl (decide (t = "int")) ∧ S' = S) (o := m_is_integer [d] S) (by
      refine evp_run rfl ?_
      show StP (c_is_integer [some d] S) _
      unfold c_is_integer
      simp only [↓stp_ret, ↓h_cAndV, ↓evp_cCall, ↓evp_cCons, ↓evp_cNil, ↓evp_cV0, ↓evp_cK, ↓evp_k2, evp_isi h (show clsTag (.ty "int") = some (.b "int") from rfl) (isi_int ht), evp_isi h (show clsTag (.ty "bool") = some (.b "bool") from rfl) (isi_bool ht), ↓asB_bl, ↓evp_c1, ↓evp_not]
      by_cases c1 : t = "int"
      · subst c1
        simp
      · by_cases c2 : t = "bool"
        · subst c2; simp
        · simp [c1, c2])
    obtain ⟨rfl, rfl⟩ := q
    exact e
  rw [key]; exact propext Iff.rfl
/-- what is_within says -/
def withinD (m : Int) : D → Bool
  | .int v => decide (-m ≤ v ∧ v ≤ m)
  | _ => false
theorem tag_int {t : String} (h : tagOf ics ecs S d = some (.b t)) : (t = "int" ∧ ∃ v, d = .int v) ∨ (t ≠ "int" ∧ ∀ v, d ≠ .int v) := by
  by_cases c : ∃ v, d = .int v
  · obtain ⟨v, rfl⟩ := c
    exact .inl ⟨by cases h; rfl, v, rfl⟩
  · refine .inr ⟨fun e => ?_, fun v e => c ⟨v, e⟩⟩
    subst e
    cases d
    case int v => exact c ⟨v, rfl⟩
    case ref n =>
      have h' : (match S[n]? with
        | some (some (.lst _)) => some (Tag.b "list")
        | some (some (.ins C _)) => if C ∈ ics then some (.o C) else none
        | _ => none) = some (.b "int") := h
      split at h'
      · simp at h'
      · split at h' <;> simp at h'
      · simp at h'
    case ins C fs =>
      have h' : (if C ∈ ics then some (Tag.o C) else none) = some (.b "int") := h
      split at h' <;> simp at h'
    case exc C fs =>
      have h' : (if C ∈ ecs then some (Tag.o C) else none) = some (.b "int") := h
      split at h' <;> simp at h'
    all_goals (simp [tagOf] at h; done)
theorem p_within {t : String} {m : Int} (h : tagOf ics ecs S d = some (.b t)) (ht : t ∈ bts) : EvP (m_is_within [d, .int m] S) Q = Q (.bl (withinD m d)) S := by
  have key : m_is_within [d, .int m] S = some (.ok (.bl (withinD m d)) S) := by
    obtain ⟨a, S', e, q⟩ := evp_get (Q := fun x S' => x = .bl (withinD m d) ∧ S' = S) (o := m_is_within [d, .int m] S) (by
      refine evp_run rfl ?_
      show StP (c_is_within [some d, some (.int m)] S) _
      unfold c_is_within
      simp only [↓stp_ret, ↓h_cAndV, ↓evp_cCall, ↓evp_cCons, ↓evp_cNil, ↓evp_cV0, ↓evp_cK, List.length_cons, List.length_nil, if_true, p_integer h ht, ↓asB_bl]
      rcases tag_int h with ⟨rfl, v, rfl⟩ | ⟨c1, c2⟩
      · simp only [decide_true, if_true, ↓h_chain, ↓evp_c1, ↓evp_cV0, ↓evp_cVs, ↓evp_neg, ↓evp_le, ↓asB_bl]
        by_cases q1 : -m ≤ v
        · by_cases q2 : v ≤ m <;> simp [q1, q2, withinD]
        · simp [q1, withinD]
      · have w0 : withinD m d = false := by
          unfold withinD; split
          · exact absurd rfl (c2 _)
          · rfl
        simp [c1, w0])
    obtain ⟨rfl, rfl⟩ := q
    exact e
  rw [key]; exact propext Iff.rfl
end
end K09

set_option Elab.async false
set_option linter.all false
set_option maxRecDepth 100000
set_option maxHeartbeats 1000000
set_option autoImplicit false
namespace K09
open PySem PySem.Spec PyProof.Rows L2 DE
section
variable {S : Store} {Q : D → Store → Prop} {d : D}
theorem evp_det {o : Ev D} {a : D} (h : EvP o fun x S' => x = a ∧ S' = S) : o = some (.ok a S) := by
  obtain ⟨a', S', e, rfl, rfl⟩ := evp_get h
  exact e
theorem e_integer {t : String} (h : tagOf ics ecs S d = some (.b t)) (ht : t ∈ bts) : m_is_integer [d] S = some (.ok (.bl (decide (t = "int"))) S) :=
  evp_det (by rw [p_integer h ht]; exact ⟨rfl, rfl⟩)
def runOut (o : Option OutS) : Ev D := match o with
  | some (.go (.rt d) _ S') => some (.ok d S')
  | some (.go .nx _ S') => some (.ok .non S')
  | some (.ex x _ S') => some (.ex x S')
  | _ => none
theorem run_eq {N : List Str} {n : Nat} {c : CS} {ds : List D} {o : Option OutS} (hl : ds.length = n) (h : c (startD N ds) S = o) : runDef N n c ds S = runOut o := by
  unfold runDef
  rw [if_pos hl, h]
  rfl
theorem e_need_int {v : Int} {p : D} : m_need_whole [.int v, p] S = some (.ok .non S) := by
  have k : m_is_integer [.int v] S = some (.ok (.bl true) S) := e_integer (t := "int") rfl (by decide)
  have k2 : c_need_whole [some (.int v), some p] S = some (.go .nx [some (.int v), some p] S) := by
    unfold c_need_whole cIfS cStep cNot cTr cCall thenC cCons cV cNil thenC
    simp [bindO, DE.ret, k, truthD, liftS, cSkip]
  exact run_eq (N := N_need_whole) (n := 2) (ds := [.int v, p]) (c := c_need_whole) rfl k2
theorem e_need_no {t : String} {p : D} (h : tagOf ics ecs S d = some (.b t)) (ht : t ∈ bts) (hi : t ≠ "int") : m_need_whole [d, p] S = some (.ex ⟨"BadNumber", [("part", p)]⟩ S) := by
  have k : m_is_integer [d] S = some (.ok (.bl false) S) := by rw [e_integer h ht]; simp [hi]
  have k2 : c_need_whole [some d, some p] S = some (.ex ⟨"BadNumber", [("part", p)]⟩ [some d, some p] S) := by
    unfold c_need_whole cIfS cStep cNot cTr cCall thenC cCons cV cNil thenC
    simp [bindO, DE.ret, k, truthD, liftS, cRaise1, cStep, cCons, thenC, cV, cNil]
  exact run_eq (N := N_need_whole) (n := 2) (ds := [d, p]) (c := c_need_whole) rfl k2
end
end K09

set_option Elab.async false
set_option linter.all false
set_option maxRecDepth 100000
set_option maxHeartbeats 1000000
set_option autoImplicit false
namespace K09
open PySem PySem.Spec PyProof.Rows L2 DE
section
variable {S : Store}
/-! ### prices: first, and breaks as pairs -/
abbrev Brs := List (Int × Int)
def pairT (p : Int × Int) : D := .tup [.int p.1, .int p.2]
/-- .. as a tuple or as a list -/
def pairK (k : Bool) (p : Int × Int) : D := match k with
  | true => .tup [.int p.1, .int p.2]
  | false => .lst [.int p.1, .int p.2]
def brsT (bs : Brs) : D := .tup (bs.map pairT)
/-- the price as a finished object -/
def priceF (a : Int) (bs : Brs) : List (Str × D) := [("first", .int a), ("breaks", brsT bs), ("low", .int a), ("high", .int ((bs.map (·.2)).getLastD a))]
def priceD (a : Int) (bs : Brs) : D := .ins "Price" (priceF a bs)
/-- the slope of the step from n to n + 1 -/
def slopeP (a : Int) : Brs → Int → Int
  | [], _ => a
  | (s, l) :: bs, n => if s ≤ n then slopeP l bs n else slopeP a bs n
def pos (x : Int) : Int := if 0 > x then 0 else x
def atP (a : Int) : Brs → Int → Int → Int
  | [], _, acc => acc
  | (s, l) :: bs, n, acc => atP l bs n (acc + (l - a) * (pos (n - s) - pos (0 - s)))
def asC (f : Fl) (go : Prop) (out : Prop) (rt : D → Prop) : Prop := match f with
  | .nx => go
  | .ct => go
  | .bk => out
  | .rt d => rt d
theorem asC_nx {go out : Prop} {rt : D → Prop} : asC .nx go out rt = go := propext Iff.rfl
theorem asC_ct {go out : Prop} {rt : D → Prop} : asC .ct go out rt = go := propext Iff.rfl
theorem asC_bk {go out : Prop} {rt : D → Prop} : asC .bk go out rt = out := propext Iff.rfl
theorem asC_rt {go out : Prop} {rt : D → Prop} {d : D} : asC (.rt d) go out rt = rt d := propext Iff.rfl
theorem stp_nil {g : CG} {s : CS} {ρ : DEnv} {F : Fl → DEnv → Store → Prop} : StP (forL g s [] ρ S) F = F .nx ρ S := propext Iff.rfl
theorem stp_cons {g : CG} {s : CS} {d : D} {ds : List D} {ρ ρ1 : DEnv} {S1 : Store} {F : Fl → DEnv → Store → Prop} (hg : g d ρ S = some (ρ1, S1))
    (h : StP (s ρ1 S1) fun f ρ2 S2 => asC f (StP (forL g s ds ρ2 S2) F) (F .nx ρ2 S2) fun d => F (.rt d) ρ2 S2) : StP (forL g s (d :: ds) ρ S) F := by
  unfold forL
  rw [hg]
  match e : s ρ1 S1, h with
  | some (.go .nx ρ2 S2), h => simp only [e]; exact h
  | some (.go .ct ρ2 S2), h => simp only [e]; exact h
  | some (.go .bk ρ2 S2), h => simp only [e]; exact h
  | some (.go (.rt d) ρ2 S2), h => simp only [e]; exact h
theorem p_price_at {a n : Int} {bs : Brs} (hb : ∀ l ∈ a :: bs.map (·.2), -(2 ^ 40) ≤ l ∧ l ≤ 2 ^ 40) :
    EvP (m_price_at [priceD a bs, .int n] S) fun d S' => d = .int (atP a bs n (a * n)) ∧ S' = S := by
  refine evp_run rfl ?_
  show StP (c_price_at [some (priceD a bs), some (.int n), none, none, none, none] S) _
  unfold c_price_at
  have f1 : ∀ {Q : D → Store → Prop}, EvP (kFld ["Price"] "first" (priceD a bs) S) Q = Q (.int a) S := propext Iff.rfl
  have f2 : ∀ {Q : D → Store → Prop}, EvP (kFld ["Price"] "breaks" (priceD a bs) S) Q = Q (brsT bs) S := propext Iff.rfl
  have hm : mulOk a n = true := mulOk_l (by have := hb a (.head _); omega) (by have := hb a (.head _); omega)
  simp only [↓h_seq, ↓stp_par, ↓evp_cCons, ↓evp_cNil, ↓evp_c2, ↓evp_c1, ↓evp_cV0, ↓evp_cVs, f1, ↓evp_mul, hm, ↓asF_nx, ↓stp_for, ↓h_cItS, List.zip_cons_cons, List.zip_nil_right, List.foldl_cons, List.foldl_nil, List.set_cons_succ, List.set_cons_zero, f2, true_and]
  refine ⟨rfl, ?_⟩
  unfold brsT
  rw [asS_tup]
  generalize priceD a bs = pd
  generalize hF : (fun f ρ' S' => asF f _ _ : Fl → DEnv → Store → Prop) = F
  have hend : ∀ (acc a' : Int) (x4 x5 : Option D), acc = atP a bs n (a * n) → F .nx [some pd, some (.int n), some (.int acc), some (.int a'), x4, x5] S := by
    intro acc a' x4 x5 e
    rw [← hF, e]
    simp only [↓asF_nx, ↓stp_ret, ↓evp_cV0, ↓evp_cVs]
    exact .inl ⟨_, rfl, rfl, trivial⟩
  clear hF
  generalize a * n = acc at hend ⊢
  have hend' : ∀ (a' : Int) (x4 x5 : Option D), F .nx [some pd, some (.int n), some (.int (atP a bs n acc)), some (.int a'), x4, x5] S := fun a' x4 x5 => hend _ a' x4 x5 rfl
  clear hend f1 f2 hm
  refine (?key : ∀ x4 x5 : Option D, StP (forL _ _ (bs.map pairT) [some pd, some (.int n), some (.int acc), some (.int a), x4, x5] S) F) none none
  induction bs generalizing a acc with
  | nil =>
    intro x4 x5
    rw [List.map_nil, stp_nil]
    exact hend' a x4 x5
  | cons p bs ih =>
    intro x4 x5
    obtain ⟨s, l⟩ := p
    have b1 := hb a (.head _)
    have b2 := hb l (.tail _ (.head _))
    have hm2 : ∀ z, mulOk (l - a) z = true := fun z => mulOk_l (by omega) (by omega)
    rw [List.map_cons]
    refine stp_cons (ρ1 := [some pd, some (.int n), some (.int acc), some (.int a), some (.int s), some (.int l)]) (S1 := S) rfl ?_
    simp only [↓h_seq, ↓stp_set, ↓evp_c2, ↓evp_cV0, ↓evp_cVs, ↓evp_cK, ↓evp_cCall, ↓evp_cCons, ↓evp_cNil, ↓evp_k2, ↓evp_sub, ↓evp_max2, ↓evp_mul, hm2, true_and, ↓evp_add, List.set_cons_succ, List.set_cons_zero, ↓asF_nx, ↓asC_nx]
    exact ih (fun l' h => hb l' (.tail _ h)) _ (fun a' x4 x5 => hend' a' x4 x5) _ _
end
end K09

set_option Elab.async false
set_option linter.all false
set_option maxRecDepth 100000
set_option maxHeartbeats 1000000
set_option autoImplicit false
namespace K09
open PySem PySem.Spec PyProof.Rows L2 DE
section
variable {S : Store}
/-- the law's own price: first, and breaks -/
def plainD (a : Int) (bs : Brs) : D := .tup [.int a, brsT bs]
/-- the law's own slope: the last break at or below n -/
theorem p_law_slope {a n : Int} {bs : Brs} : EvP (m__law_slope [plainD a bs, .int n] S) fun d S' => d = .int (slopeP a bs n) ∧ S' = S := by
  refine evp_run rfl ?_
  show StP (c__law_slope [some (plainD a bs), some (.int n), none, none, none] S) _
  unfold c__law_slope
  have f1 : ∀ {Q : D → Store → Prop}, EvP (kIx (plainD a bs) (.int 0) S) Q = Q (.int a) S := h_ix rfl rfl
  have f2 : ∀ {Q : D → Store → Prop}, EvP (kIx (plainD a bs) (.int 1) S) Q = Q (brsT bs) S := h_ix rfl rfl
  simp only [↓h_seq, ↓stp_set, ↓evp_c2, ↓evp_cV0, ↓evp_cVs, ↓evp_cK, f1, List.set_cons_succ, List.set_cons_zero, ↓asF_nx, ↓stp_for, ↓h_cItS, f2]
  unfold brsT
  rw [asS_tup]
  generalize plainD a bs = pd
  generalize hF : (fun f ρ' S' => asF f _ _ : Fl → DEnv → Store → Prop) = F
  have hend : ∀ (r : Int) (x4 x5 : Option D), r = slopeP a bs n → F .nx [some pd, some (.int n), some (.int r), x4, x5] S := by
    intro r x4 x5 e
    rw [← hF, e]
    simp only [↓asF_nx, ↓stp_ret, ↓evp_cV0, ↓evp_cVs]
    exact .inl ⟨_, rfl, rfl, trivial⟩
  clear hF f1 f2
  have hend' : ∀ (x4 x5 : Option D), F .nx [some pd, some (.int n), some (.int (slopeP a bs n)), x4, x5] S := fun x4 x5 => hend _ x4 x5 rfl
  clear hend
  refine (?key : ∀ x4 x5 : Option D, StP (forL _ _ (bs.map pairT) [some pd, some (.int n), some (.int a), x4, x5] S) F) none none
  induction bs generalizing a with
  | nil =>
    intro x4 x5
    rw [List.map_nil, stp_nil]
    exact hend' x4 x5
  | cons p bs ih =>
    intro x4 x5
    obtain ⟨s, l⟩ := p
    rw [List.map_cons]
    refine stp_cons (ρ1 := [some pd, some (.int n), some (.int a), some (.int s), some (.int l)]) (S1 := S) rfl ?_
    simp only [↓stp_set, ↓evp_cIf, ↓h_cT, ↓evp_c2, ↓evp_cV0, ↓evp_cVs, ↓evp_le, ↓asB_bl]
    by_cases q : s ≤ n
    · simp only [q, decide_true, if_true, ↓evp_cV0, ↓evp_cVs, List.set_cons_succ, List.set_cons_zero, ↓asC_nx]
      exact ih (fun x4 x5 => by have := hend' x4 x5; unfold slopeP at this; rwa [if_pos q] at this) _ _
    · simp only [q, decide_false, Bool.false_eq_true, if_false, ↓evp_cV0, ↓evp_cVs, List.set_cons_succ, List.set_cons_zero, ↓asC_nx]
      exact ih (fun x4 x5 => by have := hend' x4 x5; unfold slopeP at this; rwa [if_neg q] at this) _ _
end
end K09

set_option Elab.async false
set_option linter.all false
set_option maxRecDepth 100000
set_option maxHeartbeats 1000000
set_option autoImplicit false
namespace K09
open PySem PySem.Spec PyProof.Rows L2 DE
section
variable {S : Store} {L : List D → Store → Prop} {ρ : DEnv}
theorem evp_range1 {c : C (List D)} : EvP (cRange1 c ρ S) L = EvP (c ρ S) fun ds S => ∃ j, ds = [.int j] ∧ (-(2 ^ 62) ≤ j ∧ j < 2 ^ 62) ∧ L (rangeD 0 j) S := by
  unfold cRange1; rw [evp_then]; congr; funext ds S
  refine propext ⟨fun h => ?_, fun ⟨j, e, h, q⟩ => ?_⟩
  · split at h
    · rename_i j
      rw [evp_dite, evp_ret] at h
      exact ⟨j, rfl, h.1, h.2⟩
    · exact h.elim
  · subst e
    show EvP (if _ then _ else _) L
    rw [if_pos h, evp_ret]; exact q
theorem rangeD_length {lo hi : Int} : (rangeD lo hi).length = (hi - lo).toNat := by simp [rangeD]
theorem p_law_ten {k : Nat} {kk r : Int} (hk : k < 100000) (hkk : kk = k) (hr : r = (10 : Int) ^ k) : EvP (m__law_ten [.int kk] S) fun d S' => d = .int r ∧ S' = S := by
  refine evp_run rfl ?_
  show StP (c__law_ten [some (.int kk), none, none] S) _
  unfold c__law_ten
  simp only [↓h_seq, ↓stp_set, ↓evp_cK, List.set_cons_succ, List.set_cons_zero, ↓asF_nx, ↓stp_for, ↓evp_range1, ↓evp_cCons, ↓evp_cNil, ↓evp_cV0]
  refine ⟨_, rfl, ⟨by omega, by omega⟩, ?_⟩
  refine stp_forL (I := fun i ρ S' => (∃ x, ρ = [some (.int kk), some (.int ((10 : Int) ^ i)), x]) ∧ S' = S) k (by rw [rangeD_length]; omega) (fun i d ρ S' _ h => ?_) ⟨⟨_, rfl⟩, rfl⟩ fun ρ S' h => ?_
  · obtain ⟨⟨x, rfl⟩, rfl⟩ := h
    refine ⟨_, _, rfl, ?_⟩
    show StP (cSet 1 (c2 kMul (cV 1) (cK (.int 10))) [some (.int kk), some (.int ((10 : Int) ^ i)), some d] S') _
    simp only [↓stp_set, ↓evp_c2, ↓evp_cV0, ↓evp_cVs, ↓evp_cK, ↓evp_mul, List.set_cons_succ, List.set_cons_zero]
    exact ⟨mulOk_r (by decide) (by decide), .inl trivial, ⟨_, by rw [Int.pow_succ]⟩, trivial⟩
  · obtain ⟨⟨x, rfl⟩, rfl⟩ := h
    simp only [↓asF_nx, ↓stp_ret, ↓evp_cV0, ↓evp_cVs]
    exact .inl ⟨_, rfl, by rw [hr], trivial⟩
end
end K09

set_option Elab.async false
set_option linter.all false
set_option maxRecDepth 100000
set_option maxHeartbeats 1000000
set_option autoImplicit false
namespace K09
open PySem PySem.Spec PyProof.Rows L2 DE
section
variable {S : Store} {Q : D → Store → Prop}
theorem evp_isiT {t : String} {us : List Tag} {b : Bool} {d : D} (h : tagOf ics ecs S d = some (.b t)) (h2 : isiAny isi (.b t) us = some b) : EvP (kIsiT isi ics ecs us d S) Q = Q (.bl b) S := by
  unfold kIsiT
  rw [h]
  simp only [h2]
  exact propext Iff.rfl
theorem e_fixed_int {k : Nat} {v : Int} : m_fixed (k + 1) [.int v] S = some (.ok (.int v) S) := evp_det (by
  refine evp_run rfl ?_
  show StP (c_fixed (m_fixed k) [some (.int v), none] S) _
  unfold c_fixed
  have h0 : ∀ {Q : D → Store → Prop}, EvP (kIsiT isi ics ecs [.b "list", .b "tuple"] (.int v) S) Q = Q (.bl false) S := evp_isiT (t := "int") rfl (by decide +kernel)
  simp only [↓h_seq, ↓stp_if, ↓evp_cTr, ↓evp_c1, ↓evp_cV0, h0, ↓stp_skip, ↓stp_ret]
  refine ⟨false, rfl, ?_⟩
  simp only [Bool.false_eq_true, if_false, ↓stp_skip, ↓asF_nx, ↓stp_ret, ↓evp_cV0]
  exact .inl ⟨_, rfl, rfl, trivial⟩)
/-- a tuple or list of what comes through, as a tuple -/
theorem e_fixed_seq {k : Nat} {x : D} {ds es : List D} (hx : x = .tup ds ∨ x = .lst ds) (hl : ds.length ≤ sizeLine) (h : ∀ (i : Nat) (d e : D), ds[i]? = some d → es[i]? = some e → m_fixed k [d] S = some (.ok e S)) (hle : es.length = ds.length) :
    m_fixed (k + 1) [x] S = some (.ok (.tup es) S) := evp_det (by
  refine evp_run rfl ?_
  show StP (c_fixed (m_fixed k) [some x, none] S) _
  unfold c_fixed
  have h0 : ∀ {Q : D → Store → Prop}, EvP (kIsiT isi ics ecs [.b "list", .b "tuple"] x S) Q = Q (.bl true) S := by
    rcases hx with rfl | rfl
    · exact evp_isiT (t := "tuple") rfl (by decide +kernel)
    · exact evp_isiT (t := "list") rfl (by decide +kernel)
  have h1 : ∀ {K : List D → Prop}, asS x K = K ds := by rcases hx with rfl | rfl <;> exact propext Iff.rfl
  simp only [↓h_seq, ↓stp_if, ↓evp_cTr, ↓evp_c1, ↓evp_cV0, h0, ↓stp_skip, ↓stp_ret]
  refine ⟨true, rfl, ?_⟩
  simp only [if_true, ↓stp_ret, ↓evp_cCall, ↓evp_cCons, ↓evp_cNil, ↓evp_cFz, ↓evp_cLc, ↓h_cItS, ↓evp_cV0, h1]
  refine ⟨hl, evp_lcL (I := fun i acc S' => acc = es.take i ∧ S' = S) (fun i d acc S' e hI => ?_) ⟨rfl, rfl⟩ fun acc S' hI => ?_⟩
  · obtain ⟨rfl, rfl⟩ := hI
    have li : i < es.length := by
      rw [hle]
      rcases Nat.lt_or_ge i ds.length with q | q
      · exact q
      · rw [List.getElem?_eq_none q] at e; cases e
    have ei : es[i]? = some es[i] := List.getElem?_eq_getElem li
    refine ⟨_, _, rfl, ?_⟩
    rw [evp_yes, if_pos rfl]
    show EvP (cCall (fun ds S => if ds.length = 1 then m_fixed k ds S else none) (cCons (cV 1) cNil) [some x, some d] S') _
    simp only [↓evp_cCall, ↓evp_cCons, ↓evp_cNil, ↓evp_cV0, ↓evp_cVs, List.length_cons, List.length_nil, if_true, h i d _ e ei, ↓evp_ok]
    exact ⟨by rw [List.take_add_one, ei]; rfl, trivial⟩
  · obtain ⟨rfl, rfl⟩ := hI
    rw [List.take_of_length_le (by omega)]
    simp only [↓evp_k1]
    have kt : ∀ {Q : D → Store → Prop}, EvP (kTuple (.lst es) S') Q = Q (.tup es) S' := by
      intro Q
      show EvP (if es.length ≤ sizeLine then DE.ret (.tup es) S' else none) Q = _
      rw [if_pos (by rw [hle]; exact hl)]; exact propext Iff.rfl
    rw [kt, asF_rt]
    exact .inl ⟨_, rfl, rfl, rfl⟩)
end
end K09

set_option Elab.async false
set_option linter.all false
set_option maxRecDepth 100000
set_option maxHeartbeats 400000
set_option autoImplicit false
namespace K09
open PySem PySem.Spec PyProof.Rows L2 DE
def pr (a b : Int) : D := .tup [.int a, .int b]
/-- the values that are no breaks of a price whose first slope is 0 -/
def bads : List D := [.non, .int 5, .str "1", .tup [.tup [.int 0]], .tup [.tup [.int 0, .int 5, .int 1]], .tup [pr 0 4, pr 0 5], .tup [pr 1 5, pr 0 6], .tup [pr 0 5, pr 1 5], .tup [pr 0 5, pr 1 4], .tup [pr 0 0], .tup [pr 0 (-1)], .tup [pr 1000001 5], .tup [pr 0 1000001],
  .tup [.tup [.int 0, .bl true]], .tup [.tup [.str "0", .int 5]], .tup [.tup [.non, .int 5]], .tup [pr 0 1, pr 1 2, pr 2 3, pr 3 4, pr 4 5, pr 5 6, pr 6 7, pr 7 8, pr 8 9], .dct]
theorem e_bads (S : Store) : ∀ d ∈ bads, m_are_breaks [d, .int 0] S = some (.ok (.bl false) S) := by
  intro d h
  simp only [bads, List.mem_cons, List.not_mem_nil, or_false] at h
  rcases h with rfl | rfl | rfl | rfl | rfl | rfl | rfl | rfl | rfl | rfl | rfl | rfl | rfl | rfl | rfl | rfl | rfl | rfl <;> rfl
end K09

set_option Elab.async false
set_option linter.all false
set_option maxRecDepth 100000
set_option maxHeartbeats 400000
set_option autoImplicit false
namespace K09
open PySem PySem.Spec PyProof.Rows L2 DE
/-- the values that are no first slope -/
def firsts : List D := [.non, .bl true, .str "1", .int (10 ^ 6 + 1), .int (-10 ^ 6 - 1), .tup []]
theorem e_firsts (S : Store) (b : D) : ∀ d ∈ firsts, kMake "Price" m_Price___init__ [d, b] S = some (.ex ⟨"BadPrice", [("part", .str "first")]⟩ (S ++ [some (.ins "Price" [])])) := by
  intro d h
  simp only [firsts, List.mem_cons, List.not_mem_nil, or_false] at h
  rcases h with rfl | rfl | rfl | rfl | rfl | rfl <;> rfl
theorem e_breaks (S : Store) : ∀ d ∈ bads, kMake "Price" m_Price___init__ [.int 0, d] S = some (.ex ⟨"BadPrice", [("part", .str "breaks")]⟩ (S ++ [some (.ins "Price" [])])) := by
  intro d h
  simp only [bads, List.mem_cons, List.not_mem_nil, or_false] at h
  rcases h with rfl | rfl | rfl | rfl | rfl | rfl | rfl | rfl | rfl | rfl | rfl | rfl | rfl | rfl | rfl | rfl | rfl | rfl <;> rfl
end K09

set_option Elab.async false
set_option linter.all false
set_option maxRecDepth 100000
set_option maxHeartbeats 400000
set_option autoImplicit false
namespace K09
open PySem PySem.Spec PyProof.Rows L2 DE
section
variable {S : Store} {Q : D → Store → Prop} {L : List D → Store → Prop} {ρ : DEnv}
theorem e_listed_tup {ds : List D} : m_is_listed [.tup ds] S = some (.ok (.bl true) S) := rfl
theorem e_listed_lst {ds : List D} : m_is_listed [.lst ds] S = some (.ok (.bl true) S) := rfl
def winP (p : Int × Int) : Bool := withinD 1000000 (.int p.1) && withinD 1000000 (.int p.2)
theorem evp_cZip {c : C (List D)} : EvP (cZip c ρ S) L = EvP (c ρ S) fun ds S => (∃ xs ys, ds = [.lst xs, .lst ys] ∧ L (pairsD xs ys) S) ∨ ∃ xs ys, ds = [.tup xs, .tup ys] ∧ L (pairsD xs ys) S := by
  unfold cZip; rw [evp_then]; congr; funext ds S
  refine propext ⟨fun h => ?_, fun h => ?_⟩
  · split at h
    · rename_i xs ys; exact .inl ⟨xs, ys, rfl, h⟩
    · rename_i xs ys; exact .inr ⟨xs, ys, rfl, h⟩
    · exact h.elim
  · rcases h with ⟨xs, ys, rfl, h⟩ | ⟨xs, ys, rfl, h⟩ <;> exact h
/-- the body of the first loop: one pair -/
theorem within_pair {k : Bool} {p : Int × Int} {x a y3 y4 y5 y6 : Option D} (h : Q (.bl (winP p)) S) :
    EvP (cCall (k1 kAll) (cCons (cFz (cLc (cItS (cV 2)) [5] (gNm 5) cYes (cCall (fun ds S => if ds.length = 2 then m_is_within ds S else none) (cCons (cV 5) (cCons (cK (.int 1000000)) cNil))))) cNil) [x, a, some (pairK k p), y3, y4, y5, y6] S) Q := by
  have s2 : ([D.int p.1, D.int p.2] : List D).length ≤ sizeLine := (by decide : 2 ≤ sizeLine)
  have hp : ∀ {K : List D → Prop}, asS (pairK k p) K = K [.int p.1, .int p.2] := by cases k <;> exact propext Iff.rfl
  simp only [↓evp_cCall, ↓evp_cCons, ↓evp_cNil, ↓evp_cFz, ↓evp_cLc, ↓h_cItS, ↓evp_cV0, ↓evp_cVs, hp, s2, true_and]
  refine evp_map (fun d => .bl (withinD 1000000 d)) (fun d hd => ?_) ?_
  · refine ⟨_, rfl, ?_⟩
    show EvP (cCall (fun ds S => if ds.length = 2 then m_is_within ds S else none) (cCons (cV 5) (cCons (cK (.int 1000000)) cNil)) [x, a, _, y3, y4, some d, y6] S) _
    have ht : tagOf ics ecs S d = some (.b "int") := by
      simp only [List.mem_cons, List.not_mem_nil, or_false] at hd
      rcases hd with rfl | rfl <;> rfl
    simp only [↓evp_cCall, ↓evp_cCons, ↓evp_cNil, ↓evp_cV0, ↓evp_cVs, ↓evp_cK, List.length_cons, List.length_nil, if_true, p_within ht (by decide)]
    exact ⟨trivial, trivial⟩
  · show EvP (kAll (.lst [.bl (withinD 1000000 (.int p.1)), .bl (withinD 1000000 (.int p.2))]) S) Q
    have e : kAll (.lst [.bl (withinD 1000000 (.int p.1)), .bl (withinD 1000000 (.int p.2))]) S = DE.ret (.bl (winP p)) S := by
      unfold winP
      generalize withinD 1000000 (.int p.1) = b1
      generalize withinD 1000000 (.int p.2) = b2
      cases b1 <;> cases b2 <;> rfl
    rw [e]; exact h
end
end K09

set_option Elab.async false
set_option linter.all false
set_option maxRecDepth 100000
set_option maxHeartbeats 400000
set_option autoImplicit false
namespace K09
open PySem PySem.Spec PyProof.Rows L2 DE
section
variable {S : Store} {Q : D → Store → Prop} {L : List D → Store → Prop} {ρ : DEnv}
theorem cut1 {ds : List D} : DE.cutD ds (some 1) none = ds.drop 1 := by
  unfold DE.cutD
  have e0 : HT.sIx ds.length 0 (some 1) = min 1 ds.length := by
    show (if (1 : Int) < 0 then ((1 : Int) + ds.length).toNat else min (Int.toNat 1) ds.length) = _
    rw [if_neg (by decide)]; rfl
  have e1 : HT.sIx ds.length ds.length none = ds.length := rfl
  rw [e0, e1]
  cases ds with
  | nil => rfl
  | cons d ds =>
    have : min 1 (d :: ds).length = 1 := by rw [List.length_cons]; omega
    rw [this]
    simp
theorem evp_tail {ds : List D} (h : ds.length ≤ sizeLine) : EvP (kSlL (.lst ds) (some 1) none S) L = L (ds.drop 1) S := by
  unfold kSlL
  simp only [lstD]
  rw [if_pos h, evp_ret, cut1]
theorem trvs_bls (bs : List Bool) : trvs (bs.map D.bl) = some bs := by
  induction bs with
  | nil => rfl
  | cons b bs ih => rw [List.map_cons, trvs, ih]; rfl
theorem evp_all {bs : List Bool} : EvP (kAll (.lst (bs.map D.bl)) S) Q = Q (.bl (bs.all id)) S := by
  unfold kAll
  simp only [seqD, lstD]
  rw [trvs_bls]; exact propext Iff.rfl
theorem evp_any {bs : List Bool} : EvP (kAny (.lst (bs.map D.bl)) S) Q = Q (.bl (bs.any id)) S := by
  unfold kAny
  simp only [seqD, lstD]
  rw [trvs_bls]; exact propext Iff.rfl
/-- neighbours in a row of ints, told by a test -/
def nbr (t : Int → Int → Bool) (ns : List Int) : List Bool := (ns.zip (ns.drop 1)).map fun p => t p.1 p.2
theorem nbr_map {a : C D} {t : Int → Int → Bool} {ns : List Int} {x1 x2 x3 x4 x5 x6 x7 : Option D}
    (ha : ∀ (i j : Int), EvP (a [x1, x2, x3, x4, x5, some (.int i), some (.int j)] S) fun y S' => y = .bl (t i j) ∧ S' = S) (h : L ((nbr t ns).map D.bl) S) :
    EvP (lcL (gTp 2 (gMore (gNm 5) (gMore (gNm 6) gNone))) cYes a [x1, x2, x3, x4, x5, x6, x7] (pairsD (ns.map D.int) ((ns.map D.int).drop 1)) S) L := by
  have e : pairsD (ns.map D.int) ((ns.map D.int).drop 1) = (ns.zip (ns.drop 1)).map fun p => .tup [.int p.1, .int p.2] := by
    unfold pairsD
    rw [← List.map_drop, List.zip_map, List.map_map]
    rfl
  rw [e]
  refine evp_map (fun d => match d with | .tup [.int i, .int j] => .bl (t i j) | d => d) (fun d hd => ?_) ?_
  · obtain ⟨p, _, rfl⟩ := List.mem_map.mp hd
    exact ⟨_, rfl, ha p.1 p.2⟩
  · rw [List.map_map]
    unfold nbr at h
    rw [List.map_map] at h
    exact h
end
end K09

set_option Elab.async false
set_option linter.all false
set_option maxRecDepth 100000
set_option maxHeartbeats 400000
set_option autoImplicit false
namespace K09
open PySem PySem.Spec PyProof.Rows L2 DE
section
variable {S : Store}
def areB (a : Int) (bs : Brs) : Bool := bs.all winP && !(nbr (fun i j => decide (j ≤ i)) (bs.map (·.1))).any id && (nbr (fun i j => decide (i < j)) (a :: bs.map (·.2))).all id
theorem firsts_map {L : List D → Store → Prop} {k : Bool} {bs : Brs} {x1 x2 x3 x4 x5 x6 x7 : Option D} (h : L ((bs.map (·.1)).map D.int) S) :
    EvP (lcL (gNm 2) cYes (c2 kIx (cV 2) (cK (.int 0))) [x1, x2, x3, x4, x5, x6, x7] (bs.map (pairK k)) S) L := by
  refine evp_mapP (pairK k) (fun p => .int p.1) (fun p hd => ?_) ?_
  · refine ⟨_, rfl, ?_⟩
    show EvP (c2 kIx (cV 2) (cK (.int 0)) [x1, x2, some (pairK k p), x4, x5, x6, x7] S) _
    simp only [↓evp_c2, ↓evp_cV0, ↓evp_cVs, ↓evp_cK]
    rw [h_ix (x := pairK k p) (d := .int p.1) (ds := [.int p.1, .int p.2]) (by cases k <;> rfl) rfl]
    exact ⟨rfl, rfl⟩
  · rw [List.map_map] at h; exact h
theorem seconds_map {L : List D → Store → Prop} {k : Bool} {bs : Brs} {x1 x2 x3 x4 x5 x6 x7 : Option D} (h : L ((bs.map (·.2)).map D.int) S) :
    EvP (lcL (gNm 2) cYes (c2 kIx (cV 2) (cK (.int 1))) [x1, x2, x3, x4, x5, x6, x7] (bs.map (pairK k)) S) L := by
  refine evp_mapP (pairK k) (fun p => .int p.2) (fun p hd => ?_) ?_
  · refine ⟨_, rfl, ?_⟩
    show EvP (c2 kIx (cV 2) (cK (.int 1)) [x1, x2, some (pairK k p), x4, x5, x6, x7] S) _
    simp only [↓evp_c2, ↓evp_cV0, ↓evp_cVs, ↓evp_cK]
    rw [h_ix (x := pairK k p) (d := .int p.2) (ds := [.int p.1, .int p.2]) (by cases k <;> rfl) rfl]
    exact ⟨rfl, rfl⟩
  · rw [List.map_map] at h; exact h
end
end K09

set_option Elab.async false
set_option linter.all false
set_option maxRecDepth 100000
set_option maxHeartbeats 400000
set_option autoImplicit false
namespace K09
open PySem PySem.Spec PyProof.Rows L2 DE
section
variable {S : Store}
theorem evp_starFz {c r : C (List D)} {ρ : DEnv} {L : List D → Store → Prop} : EvP (cStar (cFz c) r ρ S) L = EvP (c ρ S) fun xs S => EvP (r ρ S) fun ys S => L (xs ++ ys) S := by
  unfold cStar
  rw [evp_then, evp_cFz]; congr; funext xs S
  show EvP (bindO _ _) L = _
  rw [evp_bind]; rfl
theorem p_are_breaks {a : Int} {k : Bool} {bs : Brs} {x : D} (hx : x = .tup (bs.map (pairK k)) ∨ x = .lst (bs.map (pairK k))) (hl : bs.length ≤ 8) :
    m_are_breaks [x, .int a] S = some (.ok (.bl (areB a bs)) S) := evp_det (by
  refine evp_run rfl ?_
  show StP (c_are_breaks [some x, some (.int a), none, none, none, none, none] S) _
  unfold c_are_breaks
  have h1 : m_is_listed [x] S = some (.ok (.bl true) S) := by rcases hx with rfl | rfl <;> rfl
  have h2 : ∀ {Q : D → Store → Prop}, EvP (kLen x S) Q = Q (.int bs.length) S := by
    intro Q
    rcases hx with rfl | rfl
    · rw [h_lent, List.length_map]
    · rw [h_lenl, List.length_map]
  have h3 : ∀ {K : List D → Prop}, asS x K = K (bs.map (pairK k)) := by rcases hx with rfl | rfl <;> exact propext Iff.rfl
  have h4 : decide ((8 : Int) < bs.length) = false := by simp; omega
  have hz : (bs.map (pairK k)).length ≤ sizeLine := by rw [List.length_map]; exact Nat.le_trans hl (by decide)
  clear hx
  simp only [↓h_seq, ↓stp_if, ↓evp_cOr, ↓evp_cNot, ↓evp_cTr, ↓evp_cCall, ↓evp_cCons, ↓evp_cNil, ↓evp_cV0, ↓evp_cVs, List.length_cons, List.length_nil, if_true, h1, ↓evp_ok]
  refine ⟨true, rfl, ?_⟩
  simp only [Bool.not_true, Bool.false_eq_true, if_false, ↓h_cT, ↓evp_c2, ↓evp_cCall, ↓evp_cCons, ↓evp_cNil, ↓evp_cV0, ↓evp_cVs, ↓evp_k1, h2, ↓evp_cK, ↓evp_gt, h4, ↓asB_bl, ↓stp_skip, ↓asF_nx, ↓stp_for, ↓h_cItS, h3]
  generalize hF : (fun f ρ' S' => asF f _ _ : Fl → DEnv → Store → Prop) = F
  have hno : bs.all winP = false → ∀ ρ, F (.rt (.bl false)) ρ S := by
    intro e ρ
    rw [← hF]
    simp only [↓asF_rt]
    exact .inl ⟨_, rfl, by unfold areB; rw [e]; rfl, trivial⟩
  have hgo : bs.all winP = true → ∀ y2, F .nx [some x, some (.int a), y2, none, none, none, none] S := by
    intro e y2
    rw [← hF]
    simp only [↓asF_nx, ↓stp_par, ↓evp_cCons, ↓evp_cNil, ↓evp_cFz, ↓evp_cLc, ↓h_cItS, ↓evp_cV0, ↓evp_cVs, h3, hz, true_and]
    refine firsts_map ?_
    simp only [↓evp_cLstE, ↓evp_cCons, ↓evp_cV0, ↓evp_cVs, ↓evp_starFz, ↓evp_cLc, ↓h_cItS, h3, hz, true_and, ↓evp_cNil]
    refine seconds_map ?_
    have hz1 : (bs.map (·.1)).length ≤ sizeLine := by rw [List.length_map] at hz ⊢; exact hz
    have hz1' : ((bs.map (·.1)).map D.int).length ≤ sizeLine := by rw [List.length_map]; exact hz1
    have hz2 : ((a :: bs.map (·.2)).map D.int).length ≤ sizeLine := by simp; exact Nat.le_trans (Nat.succ_le_succ hl) (by decide)
    have hp1 : (pairsD ((bs.map (·.1)).map D.int) (((bs.map (·.1)).map D.int).drop 1)).length ≤ sizeLine := by
      unfold pairsD; rw [List.length_map, List.length_zip]; exact Nat.le_trans (Nat.min_le_left _ _) hz1'
    have hp2 : (pairsD ((a :: bs.map (·.2)).map D.int) (((a :: bs.map (·.2)).map D.int).drop 1)).length ≤ sizeLine := by
      unfold pairsD; rw [List.length_map, List.length_zip]; exact Nat.le_trans (Nat.min_le_left _ _) hz2
    have ec : D.int a :: ((bs.map (·.2)).map D.int ++ []) = (a :: bs.map (·.2)).map D.int := by simp
    rw [ec]
    generalize hs1 : bs.map (·.1) = n1 at *
    generalize hs2 : a :: bs.map (·.2) = n2 at *
    refine ⟨hz2, rfl, ?_⟩
    show EvP (cZip _ [some x, some (.int a), y2, some (.lst (n1.map D.int)), some (.lst (n2.map D.int)), none, none] S) _
    simp only [↓evp_cZip, ↓evp_cCons, ↓evp_cNil, ↓evp_cV0, ↓evp_cVs, ↓evp_cFz, ↓evp_cSlL, ↓evp_pno, ↓h_pso, ↓evp_cK, ↓asI_int, evp_tail hz1']
    refine .inl ⟨_, _, rfl, hp1, ?_⟩
    show EvP (lcL _ _ _ [some x, some (.int a), y2, some (.lst (n1.map D.int)), some (.lst (n2.map D.int)), none, none] _ S) _
    refine nbr_map (t := fun i j => decide (j ≤ i)) (fun i j => ?_) ?_
    · simp only [↓evp_c2, ↓evp_cV0, ↓evp_cVs, ↓evp_ge]
      exact ⟨trivial, trivial⟩
    · rw [evp_any]
      refine ⟨_, rfl, ?_⟩
      have ea : areB a bs = (!(nbr (fun i j => decide (j ≤ i)) n1).any id && (nbr (fun i j => decide (i < j)) n2).all id) := by
        unfold areB; rw [e, hs1, hs2, Bool.true_and]
      cases c : (nbr (fun i j => decide (j ≤ i)) n1).any id with
      | true =>
        rw [if_pos rfl]
        simp only [↓stp_ret, ↓evp_cK, ↓asF_rt]
        exact .inl ⟨_, rfl, by rw [ea, c]; rfl, trivial⟩
      | false =>
        rw [if_neg (by decide)]
        show StP (cRet _ [some x, some (.int a), y2, some (.lst (n1.map D.int)), some (.lst (n2.map D.int)), none, none] S) _
        simp only [↓stp_ret, ↓evp_cCall, ↓evp_cCons, ↓evp_cNil, ↓evp_cFz, ↓evp_cLc, ↓evp_cZip, ↓evp_cV0, ↓evp_cVs, ↓evp_cSlL, ↓evp_pno, ↓h_pso, ↓evp_cK, ↓asI_int, evp_tail hz2]
        refine .inl ⟨_, _, rfl, hp2, ?_⟩
        show EvP (lcL _ _ _ [some x, some (.int a), y2, some (.lst (n1.map D.int)), some (.lst (n2.map D.int)), none, none] _ S) _
        refine nbr_map (t := fun i j => decide (i < j)) (fun i j => ?_) ?_
        · simp only [↓evp_c2, ↓evp_cV0, ↓evp_cVs, ↓evp_lt]
          exact ⟨trivial, trivial⟩
        · rw [evp_k1, evp_all]
          exact .inl ⟨_, rfl, by rw [ea, c]; rfl, rfl⟩
  clear hF h1 h2 h3
  refine (?key : ∀ (cs : Brs) (y2 : Option D), (∀ y2, cs.all winP = true → F .nx [some x, some (.int a), y2, none, none, none, none] S) → (cs.all winP = false → ∀ ρ, F (.rt (.bl false)) ρ S) → StP (forL _ _ (cs.map (pairK k)) [some x, some (.int a), y2, none, none, none, none] S) F) bs none (fun y2 e => hgo e y2) hno
  intro cs
  induction cs with
  | nil =>
    intro y2 g1 g2
    rw [List.map_nil, stp_nil]
    exact g1 y2 rfl
  | cons p cs ih =>
    intro y2 g1 g2
    rw [List.map_cons]
    refine stp_cons (ρ1 := [some x, some (.int a), some (pairK k p), none, none, none, none]) (S1 := S) rfl ?_
    have l1 : m_is_listed [pairK k p] S = some (.ok (.bl true) S) := by cases k <;> rfl
    have l2 : ∀ {Q : D → Store → Prop}, EvP (kLen (pairK k p) S) Q = Q (.int 2) S := by cases k <;> exact propext Iff.rfl
    have l3 : ∀ {Q : D → Store → Prop}, EvP (kEq true (.int 2) (.int 2) S) Q = Q (.bl false) S := propext Iff.rfl
    rw [stp_if, evp_cOr, evp_cNot, evp_cTr]
    simp only [↓evp_cCall, ↓evp_cCons, ↓evp_cNil, ↓evp_cV0, ↓evp_cVs, List.length_cons, List.length_nil, if_true, l1, ↓evp_ok]
    refine ⟨true, rfl, ?_⟩
    simp only [Bool.not_true, Bool.false_eq_true, if_false]
    rw [evp_cOr, h_cT]
    simp only [↓evp_c2, ↓evp_cCall, ↓evp_cCons, ↓evp_cNil, ↓evp_cV0, ↓evp_cVs, ↓evp_k1, l2, ↓evp_cK, l3, ↓asB_bl, Bool.false_eq_true, if_false]
    rw [evp_cNot, evp_cTr]
    refine within_pair ?_
    refine ⟨winP p, rfl, ?_⟩
    cases c : winP p with
    | true =>
      simp only [Bool.not_true, Bool.false_eq_true, if_false, ↓stp_skip, ↓asC_nx]
      exact ih _ (fun y2 e => g1 y2 (by rw [List.all_cons, c, e]; rfl)) (fun e => g2 (by rw [List.all_cons, c, e]; rfl))
    | false =>
      simp only [Bool.not_false, if_true, ↓stp_ret, ↓evp_cK, ↓asC_rt]
      exact g2 (by rw [List.all_cons, c]; rfl) _)
end
end K09

set_option Elab.async false
set_option linter.all false
set_option maxRecDepth 100000
set_option maxHeartbeats 400000
set_option autoImplicit false
namespace K09
open PySem PySem.Spec PyProof.Rows L2 DE
section
variable {S : Store}
theorem w_fld {v : C D} {cs : List Str} {f : Str} {n : Nat} {ρ : DEnv} {F : Fl → DEnv → Store → Prop}
    (h : EvP (v (some (.ref n) :: ρ) S) fun y S1 => ∃ C fs, S1[n]? = some (some (.ins C fs)) ∧ (C ∈ cs ∧ fs.length < 1000) ∧ F .nx (some (.ref n) :: ρ) (S1.set n (some (.ins C (putFD f y fs))))) :
    StP (cFld cs f v (cV 0) (some (.ref n) :: ρ) S) F := by
  unfold cFld cStep
  rw [stp_lift]
  refine h.mono fun y S1 h => ?_
  obtain ⟨C, fs, e, c, q⟩ := h
  rw [stp_lift, evp_cV0]
  simp only [e]
  rw [if_pos c]
  exact q
theorem e_fixed_brs {k : Bool} {bs : Brs} {x : D} (hx : x = .tup (bs.map (pairK k)) ∨ x = .lst (bs.map (pairK k))) (hl : bs.length ≤ 8) : m_fixed 3 [x] S = some (.ok (brsT bs) S) := by
  refine e_fixed_seq (k := 2) (es := bs.map pairT) hx (by rw [List.length_map]; exact Nat.le_trans hl (by decide)) (fun i d e h1 h2 => ?_) (by rw [List.length_map, List.length_map])
  rw [List.getElem?_map] at h1 h2
  obtain ⟨p, hp, rfl⟩ := Option.map_eq_some_iff.mp h1
  rw [hp] at h2; cases h2
  refine e_fixed_seq (k := 1) (ds := [.int p.1, .int p.2]) (es := [.int p.1, .int p.2]) (by cases k <;> first | exact .inl rfl | exact .inr rfl) (by decide : 2 ≤ sizeLine) (fun i d e h1 h2 => ?_) rfl
  rw [h1] at h2; cases h2
  have hd := List.mem_of_getElem? h1
  simp only [List.mem_cons, List.not_mem_nil, or_false] at hd
  rcases hd with rfl | rfl <;> exact e_fixed_int
end
end K09

set_option Elab.async false
set_option linter.all false
set_option maxRecDepth 100000
set_option maxHeartbeats 400000
set_option autoImplicit false
namespace K09
open PySem PySem.Spec PyProof.Rows L2 DE
section
variable {S : Store}
def pdP (p : Int × Int) : PyData := .tuple [.int p.1, .int p.2]
theorem toPDs_pairs {S : Store} (bs : Brs) : toPDs S (bs.map pairT) = some (bs.map pdP) := by
  induction bs with
  | nil => rfl
  | cons p bs ih => rw [List.map_cons, toPDs, ih]; rfl
theorem pairs_ok (bs : Brs) : PyData.canLayAll0 (bs.map pdP) = true ∧ PyData.depthAll (bs.map pdP) ≤ 1 := by
  induction bs with
  | nil => exact ⟨by simp [PyData.canLayAll0], by simp [PyData.depthAll]⟩
  | cons p bs ih =>
    refine ⟨by simp [PyData.canLayAll0, PyData.canLay0, pdP, ih.1], ?_⟩
    have := ih.2
    simp [PyData.depthAll, PyData.depth, pdP]
    omega
theorem shaped_brs (bs : Brs) : SeqAt.shaped (.tuple (bs.map pdP)) = true := by
  unfold SeqAt.shaped
  have := pairs_ok bs
  simp [PyData.canLay0, PyData.depth, this.1]
  omega
theorem neNil {Q : D → Store → Prop} (bs : Brs) : EvP (kEq true (brsT bs) (.tup []) S) Q = Q (.bl (decide (bs ≠ []))) S := by
  have h1 : toPDr S (brsT bs) = some (.tuple (bs.map pdP)) := by
    show (toPDs S _).map _ = _
    rw [toPDs_pairs]; rfl
  have h2 : toPDr S (.tup []) = some (.tuple []) := rfl
  have s2 : SeqAt.shaped (.tuple []) = true := shaped_brs []
  have e : PyData.eqv (.tuple (bs.map pdP)) (.tuple []) = decide (bs = []) := by
    cases bs <;> simp [PyData.eqv, PyData.eqvAll]
  unfold kEq
  rw [h1, h2]
  simp only [shaped_brs, s2, e, Bool.and_self, if_true, evp_ret]
  by_cases c : bs = [] <;> simp [c]
theorem evp_det' {o : Ev D} {a : D} {S1 : Store} (h : EvP o fun x S' => x = a ∧ S' = S1) : o = some (.ok a S1) := by
  obtain ⟨a', S', e, rfl, rfl⟩ := evp_get h
  exact e
theorem e_init {n : Nat} {a : Int} {k : Bool} {bs : Brs} {x : D} (hS : S[n]? = some (some (.ins "Price" []))) (ha : withinD 1000000 (.int a) = true) (hx : x = .tup (bs.map (pairK k)) ∨ x = .lst (bs.map (pairK k))) (hl : bs.length ≤ 8) (hb : areB a bs = true) :
    m_Price___init__ [.ref n, .int a, x] S = some (.ok .non (S.set n (some (.ins "Price" (priceF a bs))))) := evp_det' (by
  have hn : n < S.length := by
    rcases Nat.lt_or_ge n S.length with h | h
    · exact h
    · rw [List.getElem?_eq_none h] at hS; cases hS
  refine evp_run rfl ?_
  show StP (c_Price___init__ [some (.ref n), some (.int a), some x] S) _
  unfold c_Price___init__
  have h1 : m_are_breaks [x, .int a] S = some (.ok (.bl true) S) := by rw [p_are_breaks hx hl, hb]
  have hw : ∀ {Q : D → Store → Prop}, EvP (m_is_within [.int a, .int 1000000] S) Q = Q (.bl true) S := by intro Q; rw [p_within (t := "int") rfl (by decide), ha]
  simp only [↓h_seq, ↓stp_if, ↓evp_cNot, ↓evp_cTr, ↓evp_cCall, ↓evp_cCons, ↓evp_cNil, ↓evp_cV0, ↓evp_cVs, ↓evp_cK, List.length_cons, List.length_nil, if_true, hw]
  refine ⟨true, rfl, ?_⟩
  simp only [Bool.not_true, Bool.false_eq_true, if_false, ↓stp_skip, ↓asF_nx, ↓h_seq, ↓stp_if, ↓evp_cNot, ↓evp_cTr, ↓evp_cCall, ↓evp_cCons, ↓evp_cNil, ↓evp_cV0, ↓evp_cVs, List.length_cons, List.length_nil, if_true, h1, ↓evp_ok]
  refine ⟨true, rfl, ?_⟩
  simp only [Bool.not_true, Bool.false_eq_true, if_false, ↓stp_skip, ↓asF_nx, ↓h_seq]
  refine w_fld ?_
  simp only [↓evp_cV0, ↓evp_cVs]
  refine ⟨_, _, hS, ⟨.head _, by decide⟩, ?_⟩
  simp only [↓asF_nx, ↓h_seq]
  refine w_fld ?_
  simp only [↓evp_cCall, ↓evp_cCons, ↓evp_cNil, ↓evp_cV0, ↓evp_cVs, List.length_cons, List.length_nil, if_true, e_fixed_brs hx hl, ↓evp_ok]
  refine ⟨_, _, List.getElem?_set_self hn, ⟨.head _, (by decide : 1 < 1000)⟩, ?_⟩
  simp only [↓asF_nx, ↓h_seq]
  refine w_fld ?_
  simp only [↓evp_cV0, ↓evp_cVs]
  refine ⟨_, _, List.getElem?_set_self (by rw [List.length_set]; exact hn), ⟨.head _, (by decide : 2 < 1000)⟩, ?_⟩
  simp only [↓asF_nx]
  refine w_fld ?_
  rw [List.set_set, List.set_set]
  have g0 : putFD "low" (.int a) (putFD "breaks" (brsT bs) (putFD "first" (.int a) [])) = ([("first", .int a), ("breaks", brsT bs), ("low", .int a)] : List (Str × D)) := rfl
  rw [g0]
  generalize hSS : S.set n (some (.ins "Price" [("first", .int a), ("breaks", brsT bs), ("low", .int a)])) = SS
  have hget : SS[n]? = some (some (.ins "Price" [("first", .int a), ("breaks", brsT bs), ("low", .int a)])) := by rw [← hSS]; exact List.getElem?_set_self hn
  have hk : ∀ {Q : D → Store → Prop}, EvP (kFld ["Price"] "breaks" (.ref n) SS) Q = Q (brsT bs) SS := by
    intro Q
    unfold kFld insAt
    simp only [hget]
    exact propext Iff.rfl
  have fin : ∀ h : Int, h = (bs.map (·.2)).getLastD a → SS.set n (some (.ins "Price" (putFD "high" (.int h) [("first", .int a), ("breaks", brsT bs), ("low", .int a)]))) = S.set n (some (.ins "Price" (priceF a bs))) := by
    intro h e
    rw [← hSS, List.set_set, e]
    rfl
  have z0 : ([] : List D).length ≤ sizeLine := Nat.zero_le _
  simp only [↓evp_cIf, ↓h_cT, ↓evp_c2, ↓evp_c1, ↓evp_cV0, ↓evp_cVs, hk, ↓evp_cTupE, ↓evp_cNil, z0, true_and, neNil, ↓asB_bl]
  by_cases c : bs = []
  · subst c
    simp only [ne_eq, not_true_eq_false, decide_false, Bool.false_eq_true, if_false, ↓evp_cV0, ↓evp_cVs]
    refine ⟨_, _, hget, ⟨.head _, (by decide : 3 < 1000)⟩, .inr ?_⟩
    first | exact fin a rfl | exact ⟨rfl, trivial, fin a rfl⟩ | exact ⟨trivial, fin a rfl⟩
  · have hlen : 0 < bs.length := List.length_pos_iff.mpr c
    have eL : L2.atI (bs.map pairT) (-1) = some (pairT (bs.getLast c)) := by
      unfold L2.atI L2.ixN
      rw [if_neg (by decide), if_pos (by rw [List.length_map]; omega)]
      show (bs.map pairT)[((-1 : Int) + (bs.map pairT).length).toNat]? = _
      have : ((-1 : Int) + (bs.map pairT).length).toNat = bs.length - 1 := by rw [List.length_map]; omega
      rw [this, List.getElem?_map, List.getLast_eq_getElem, List.getElem?_eq_getElem (by omega)]; rfl
    simp only [ne_eq, c, not_false_eq_true, decide_true, if_true, ↓evp_c2, ↓evp_c1, ↓evp_cV0, ↓evp_cVs, hk, ↓evp_cK, ↓evp_neg]
    rw [h_ix (x := brsT bs) (ds := bs.map pairT) rfl eL, h_ix (x := pairT (bs.getLast c)) (d := .int (bs.getLast c).2) rfl rfl]
    have el : (bs.getLast c).2 = (bs.map (·.2)).getLastD a := by
      rw [List.getLastD_eq_getLast?, List.getLast?_map, List.getLast?_eq_some_getLast c]; rfl
    refine ⟨_, _, hget, ⟨.head _, (by decide : 3 < 1000)⟩, .inr ?_⟩
    first | exact fin _ el | exact ⟨rfl, trivial, fin _ el⟩ | exact ⟨trivial, fin _ el⟩)
end
end K09

set_option Elab.async false
set_option linter.all false
set_option maxRecDepth 100000
set_option maxHeartbeats 400000
set_option autoImplicit false
namespace K09
open PySem PySem.Spec PyProof.Rows L2 DE
/-! plain sums of prices -/
theorem nbr_le : ∀ {ns : List Int}, (nbr (fun i j => decide (j ≤ i)) ns).any id = false ↔ ns.Pairwise (· < ·)
  | [] => by simp [nbr]
  | [x] => by simp [nbr]
  | x :: y :: r => by
    have ih := nbr_le (ns := y :: r)
    have e : nbr (fun i j => decide (j ≤ i)) (x :: y :: r) = decide (y ≤ x) :: nbr (fun i j => decide (j ≤ i)) (y :: r) := rfl
    rw [e, List.any_cons, Bool.or_eq_false_iff, ih]
    constructor
    · rintro ⟨h1, h2⟩
      have h1 : ¬ y ≤ x := of_decide_eq_false h1
      refine List.pairwise_cons.mpr ⟨fun z hz => ?_, h2⟩
      rcases List.mem_cons.mp hz with rfl | hz
      · omega
      · have := (List.pairwise_cons.mp h2).1 z hz; omega
    · intro h
      obtain ⟨h1, h2⟩ := List.pairwise_cons.mp h
      have := h1 y (.head _)
      exact ⟨decide_eq_false (by omega), h2⟩
theorem nbr_lt : ∀ {ns : List Int}, (nbr (fun i j => decide (i < j)) ns).all id = true ↔ ns.Pairwise (· < ·)
  | [] => by simp [nbr]
  | [x] => by simp [nbr]
  | x :: y :: r => by
    have ih := nbr_lt (ns := y :: r)
    have e : nbr (fun i j => decide (i < j)) (x :: y :: r) = decide (x < y) :: nbr (fun i j => decide (i < j)) (y :: r) := rfl
    rw [e, List.all_cons, Bool.and_eq_true_iff, ih]
    constructor
    · rintro ⟨h1, h2⟩
      have h1 : x < y := of_decide_eq_true h1
      refine List.pairwise_cons.mpr ⟨fun z hz => ?_, h2⟩
      rcases List.mem_cons.mp hz with rfl | hz
      · omega
      · have := (List.pairwise_cons.mp h2).1 z hz; omega
    · intro h
      obtain ⟨h1, h2⟩ := List.pairwise_cons.mp h
      have := h1 y (.head _)
      exact ⟨decide_eq_true this, h2⟩
abbrev Asc (bs : Brs) : Prop := (bs.map (·.1)).Pairwise (· < ·)
theorem slopeP_far {a n : Int} : ∀ {bs : Brs}, (∀ p ∈ bs, n < p.1) → slopeP a bs n = a
  | [], _ => rfl
  | (s, l) :: bs, h => by
    unfold slopeP
    have := h (s, l) (.head _)
    rw [if_neg (by simpa using this)]
    exact slopeP_far fun p hp => h p (.tail _ hp)
theorem at_piece {lo hi : Int} (hlh : lo ≤ hi) : ∀ {bs : Brs} {a x y : Int}, Asc bs → (∀ p ∈ bs, p.1 ≤ lo ∨ hi ≤ p.1) →
    atP a bs hi x - atP a bs lo y = x - y - (hi - lo) * a + (hi - lo) * slopeP a bs lo
  | [], a, x, y, _, _ => by unfold atP slopeP; omega
  | (s, l) :: bs, a, x, y, h1, h2 => by
    obtain ⟨g1, g2⟩ := List.pairwise_cons.mp h1
    have ih := at_piece (lo := lo) (hi := hi) hlh (bs := bs) (a := l) (x := x + (l - a) * (pos (hi - s) - pos (0 - s))) (y := y + (l - a) * (pos (lo - s) - pos (0 - s))) g2 fun p hp => h2 p (.tail _ hp)
    have ea : ∀ n z, atP a ((s, l) :: bs) n z = atP l bs n (z + (l - a) * (pos (n - s) - pos (0 - s))) := fun _ _ => rfl
    have es : slopeP a ((s, l) :: bs) lo = if s ≤ lo then slopeP l bs lo else slopeP a bs lo := rfl
    rw [ea, ea, ih, es]
    have e1 : (l - a) * (pos (hi - s) - pos (0 - s)) = (l - a) * pos (hi - s) - (l - a) * pos (0 - s) := Int.mul_sub ..
    have e2 : (l - a) * (pos (lo - s) - pos (0 - s)) = (l - a) * pos (lo - s) - (l - a) * pos (0 - s) := Int.mul_sub ..
    rcases h2 (s, l) (.head _) with c | c
    · have c : s ≤ lo := c
      rw [if_pos c, e1, e2]
      have p1 : pos (hi - s) = hi - s := by unfold pos; rw [if_neg (by omega)]
      have p2 : pos (lo - s) = lo - s := by unfold pos; rw [if_neg (by omega)]
      rw [p1, p2]
      have e3 : (l - a) * (hi - s) - (l - a) * (lo - s) = (l - a) * (hi - lo) := by rw [← Int.mul_sub]; congr 1; omega
      have e4 : (l - a) * (hi - lo) = (hi - lo) * l - (hi - lo) * a := by rw [Int.mul_comm, Int.mul_sub]
      omega
    · have c : hi ≤ s := c
      have far : ∀ p ∈ bs, lo < p.1 := fun p hp => by have : s < p.1 := g1 p.1 (List.mem_map_of_mem hp); omega
      have p1 : pos (hi - s) = 0 := by unfold pos; split <;> omega
      have p2 : pos (lo - s) = 0 := by unfold pos; split <;> omega
      rw [e1, e2, p1, p2, slopeP_far far]
      by_cases q : s ≤ lo
      · have : hi - lo = 0 := by omega
        rw [if_pos q, this]; simp; omega
      · rw [if_neg q, slopeP_far far]; omega
/-- the price of a number -/
def atN (a : Int) (bs : Brs) (n : Int) : Int := atP a bs n (a * n)
theorem atN_piece {a lo hi : Int} {bs : Brs} (hlh : lo ≤ hi) (h1 : Asc bs) (h2 : ∀ p ∈ bs, p.1 ≤ lo ∨ hi ≤ p.1) : atN a bs hi - atN a bs lo = (hi - lo) * slopeP a bs lo := by
  have := at_piece (a := a) (x := a * hi) (y := a * lo) hlh h1 h2
  have e : (hi - lo) * a = a * hi - a * lo := by rw [Int.mul_comm, Int.mul_sub]
  unfold atN
  omega
theorem atN_step {a n : Int} {bs : Brs} (h1 : Asc bs) : atN a bs (n + 1) - atN a bs n = slopeP a bs n := by
  have := atN_piece (a := a) (lo := n) (hi := n + 1) (bs := bs) (by omega) h1 fun p _ => by omega
  have e : n + 1 - n = 1 := by omega
  rw [e] at this
  omega
theorem atP_zero {a : Int} : ∀ {bs : Brs} {x : Int}, atP a bs 0 x = x
  | [], _ => rfl
  | (s, l) :: bs, x => by
    unfold atP
    rw [atP_zero (a := l)]
    have : pos (0 - s) - pos (0 - s) = 0 := by omega
    rw [this]; omega
theorem atN_zero {a : Int} {bs : Brs} : atN a bs 0 = 0 := by unfold atN; rw [atP_zero]; omega
theorem slopeP_ge {n : Int} : ∀ {bs : Brs} {a : Int}, (a :: bs.map (·.2)).Pairwise (· < ·) → a ≤ slopeP a bs n
  | [], a, _ => Int.le_refl _
  | (s, l) :: bs, a, h => by
    obtain ⟨g1, g2⟩ := List.pairwise_cons.mp h
    have h3 : a < l := g1 l (.head _)
    unfold slopeP
    split
    · have := slopeP_ge (n := n) (bs := bs) (a := l) g2; omega
    · exact slopeP_ge (bs := bs) (List.pairwise_cons.mpr ⟨fun z hz => g1 z (.tail _ hz), (List.pairwise_cons.mp g2).2⟩)
theorem slopeP_mono {n m : Int} (hnm : n ≤ m) : ∀ {bs : Brs} {a : Int}, Asc bs → (a :: bs.map (·.2)).Pairwise (· < ·) → slopeP a bs n ≤ slopeP a bs m
  | [], a, _, _ => Int.le_refl _
  | (s, l) :: bs, a, h1, h2 => by
    obtain ⟨g1, g2⟩ := List.pairwise_cons.mp h1
    obtain ⟨k1, k2⟩ := List.pairwise_cons.mp h2
    by_cases c : s ≤ n
    · unfold slopeP
      rw [if_pos c, if_pos (by omega)]
      exact slopeP_mono hnm g2 k2
    · have : slopeP a ((s, l) :: bs) n = a := slopeP_far fun p hp => by
        rcases List.mem_cons.mp hp with rfl | hp
        · show n < s; omega
        · have := g1 p.1 (List.mem_map_of_mem hp)
          have : s < p.1 := this
          omega
      rw [this]
      exact slopeP_ge h2
/-- the pieces between cuts -/
def pieces (f : Int → Int) (ns : List Int) : List Int := (ns.zip (ns.drop 1)).map fun p => (p.2 - p.1) * f p.1
theorem pieces_sum {a M : Int} {bs : Brs} (h1 : Asc bs) : ∀ {ns : List Int} {c : Int}, (c :: ns).Pairwise (· < ·) → M ∈ c :: ns → (∀ x ∈ c :: ns, x ≤ M) → (∀ p ∈ bs, c < p.1 → p.1 < M → p.1 ∈ c :: ns) →
    (pieces (slopeP a bs) (c :: ns)).sum = atN a bs M - atN a bs c
  | [], c, _, h3, _, _ => by
    obtain rfl : M = c := by simpa using h3
    simp [pieces]
  | y :: r, c, h2, h3, h4, h5 => by
    obtain ⟨g1, g2⟩ := List.pairwise_cons.mp h2
    have cy : c < y := g1 y (.head _)
    have yM : y ≤ M := h4 y (.tail _ (.head _))
    have hM : M ∈ y :: r := by
      rcases List.mem_cons.mp h3 with z | z
      · omega
      · exact z
    have ih := pieces_sum (a := a) h1 g2 hM (fun x hx => h4 x (.tail _ hx)) fun p hp k1 k2 => by
      rcases List.mem_cons.mp (h5 p hp (by omega) k2) with z | z
      · omega
      · exact z
    have e : pieces (slopeP a bs) (c :: y :: r) = (y - c) * slopeP a bs c :: pieces (slopeP a bs) (y :: r) := rfl
    rw [e, List.sum_cons, ih]
    have := atN_piece (a := a) (lo := c) (hi := y) (bs := bs) (by omega) h1 fun p hp => by
      by_cases q : p.1 ≤ c
      · exact .inl q
      · by_cases q2 : y ≤ p.1
        · exact .inr q2
        · have z := h5 p hp (by omega) (by omega)
          rcases List.mem_cons.mp z with z | z
          · omega
          · rcases List.mem_cons.mp z with z | z
            · omega
            · have := (List.pairwise_cons.mp g2).1 _ z; omega
    omega
theorem steps_sum {a lo : Int} {bs : Brs} (h1 : Asc bs) : ∀ {k : Nat}, ((List.range k).map fun (i : Nat) => slopeP a bs (lo + (i : Int))).sum = atN a bs (lo + k) - atN a bs lo
  | 0 => by simp
  | k + 1 => by
    rw [List.range_succ, List.map_append, List.sum_append_int, steps_sum h1]
    have := atN_step (a := a) (n := lo + k) h1
    have e : lo + ((k + 1 : Nat) : Int) = lo + k + 1 := by omega
    rw [e]
    simp
    omega
/-- a drawn price -/
structure Good (a : Int) (bs : Brs) : Prop where
  len : bs.length ≤ 8
  asc : Asc bs
  up : (a :: bs.map (·.2)).Pairwise (· < ·)
  fst : -1000000 ≤ a ∧ a ≤ -1
  win : ∀ p ∈ bs, (-1000000 ≤ p.1 ∧ p.1 ≤ 1000000) ∧ -1000000 ≤ p.2 ∧ p.2 ≤ 1000000
theorem winP_iff {p : Int × Int} : winP p = true ↔ (-1000000 ≤ p.1 ∧ p.1 ≤ 1000000) ∧ -1000000 ≤ p.2 ∧ p.2 ≤ 1000000 := by
  unfold winP withinD
  rw [Bool.and_eq_true_iff, decide_eq_true_iff, decide_eq_true_iff]
theorem areB_iff {a : Int} {bs : Brs} : areB a bs = true ↔ (∀ p ∈ bs, winP p = true) ∧ Asc bs ∧ (a :: bs.map (·.2)).Pairwise (· < ·) := by
  unfold areB
  rw [Bool.and_eq_true_iff, Bool.and_eq_true_iff, Bool.not_eq_true', nbr_le, nbr_lt, List.all_eq_true, and_assoc]
theorem Good.areB {a : Int} {bs : Brs} (g : Good a bs) : areB a bs = true := areB_iff.mpr ⟨fun p hp => winP_iff.mpr (g.win p hp), g.asc, g.up⟩
/-- each slope more by d -/
def upB (d : Int) (bs : Brs) : Brs := bs.map fun p => (p.1, p.2 + d)
theorem upB_fst {d : Int} {bs : Brs} : (upB d bs).map (·.1) = bs.map (·.1) := by unfold upB; rw [List.map_map]; rfl
theorem upB_snd {d : Int} {bs : Brs} : (upB d bs).map (·.2) = (bs.map (·.2)).map (· + d) := by unfold upB; rw [List.map_map, List.map_map]; rfl
theorem areB_up {a d : Int} {bs : Brs} (g : Good a bs) : areB (a + d) (upB d bs) = decide (∀ x ∈ bs.map (fun p : Int × Int => p.2), -1000000 ≤ x + d ∧ x + d ≤ 1000000) := by
  rw [Bool.eq_iff_iff, areB_iff, decide_eq_true_iff]
  have h2 : Asc (upB d bs) := by unfold Asc; rw [upB_fst]; exact g.asc
  have h3 : ((a + d) :: (upB d bs).map (·.2)).Pairwise (· < ·) := by
    rw [upB_snd]
    have : ((a :: bs.map (·.2)).map (· + d)).Pairwise (· < ·) := List.pairwise_map.mpr (g.up.imp fun h => by omega)
    exact this
  refine ⟨fun ⟨h, _⟩ x hx => ?_, fun h => ⟨fun p hp => ?_, h2, h3⟩⟩
  · obtain ⟨p, hp, rfl⟩ := List.mem_map.mp hx
    exact (winP_iff.mp (h (p.1, p.2 + d) (List.mem_map.mpr ⟨p, hp, rfl⟩))).2
  · obtain ⟨q, hq, rfl⟩ := List.mem_map.mp hp
    exact winP_iff.mpr ⟨(g.win q hq).1, h q.2 (List.mem_map_of_mem hq)⟩
end K09

set_option Elab.async false
set_option linter.all false
set_option maxRecDepth 100000
set_option maxHeartbeats 400000
set_option autoImplicit false
namespace K09
open PySem PySem.Spec PyProof.Rows L2 DE
section
variable {S : Store}
theorem e_make {a : Int} {k : Bool} {bs : Brs} {x : D} (ha : -1000000 ≤ a ∧ a ≤ 1000000) (hx : x = .tup (bs.map (pairK k)) ∨ x = .lst (bs.map (pairK k))) (hl : bs.length ≤ 8) (hb : areB a bs = true) :
    kMake "Price" m_Price___init__ [.int a, x] S = some (.ok (priceD a bs) (S ++ [none])) := by
  have hS : (S ++ [some (Cell.ins "Price" [])])[S.length]? = some (some (.ins "Price" [])) := by simp
  have hi := e_init (n := S.length) (x := x) hS (show withinD 1000000 (.int a) = true from decide_eq_true ha) hx hl hb
  unfold kMake
  rw [hi]
  have h2 : ((S ++ [some (Cell.ins "Price" [])]).set S.length (some (Cell.ins "Price" (priceF a bs))))[S.length]? = some (some (.ins "Price" (priceF a bs))) := List.getElem?_set_self (by simp)
  simp only [h2]
  show some (Out.ok (priceD a bs) _) = _
  rw [List.set_set, List.set_append_right _ _ (Nat.le_refl _)]
  simp
theorem e_make_first {a : Int} {x : D} (ha : ¬ (-1000000 ≤ a ∧ a ≤ 1000000)) :
    kMake "Price" m_Price___init__ [.int a, x] S = some (.ex ⟨"BadPrice", [("part", .str "first")]⟩ (S ++ [some (.ins "Price" [])])) := by
  have hw : ∀ S, m_is_within [.int a, .int 1000000] S = some (.ok (.bl false) S) := fun S => evp_det (by
    rw [p_within (t := "int") rfl (by decide), show withinD 1000000 (.int a) = false from decide_eq_false ha]; exact ⟨rfl, rfl⟩)
  have hi : ∀ r S, m_Price___init__ [r, .int a, x] S = some (.ex ⟨"BadPrice", [("part", .str "first")]⟩ S) := fun r S => by
    refine run_eq (N := N_Price___init__) (n := 3) (c := c_Price___init__) (o := some (.ex ⟨"BadPrice", [("part", .str "first")]⟩ [some r, some (.int a), some x] S)) rfl ?_
    show c_Price___init__ [some r, some (.int a), some x] S = _
    unfold c_Price___init__ cSeq cIfS cStep cNot cTr cCall thenC cCons cV cNil cK thenC
    simp [bindO, DE.ret, hw, truthD, liftS, cRaise1, cStep, cCons, thenC, cV, cNil, cK]
  unfold kMake
  rw [hi]
theorem e_make_breaks {a : Int} {x : D} (ha : -1000000 ≤ a ∧ a ≤ 1000000) (hb : ∀ S, m_are_breaks [x, .int a] S = some (.ok (.bl false) S)) :
    kMake "Price" m_Price___init__ [.int a, x] S = some (.ex ⟨"BadPrice", [("part", .str "breaks")]⟩ (S ++ [some (.ins "Price" [])])) := by
  have hw : ∀ S, m_is_within [.int a, .int 1000000] S = some (.ok (.bl true) S) := fun S => evp_det (by
    rw [p_within (t := "int") rfl (by decide), show withinD 1000000 (.int a) = true from decide_eq_true ha]; exact ⟨rfl, rfl⟩)
  have hi : ∀ r S, m_Price___init__ [r, .int a, x] S = some (.ex ⟨"BadPrice", [("part", .str "breaks")]⟩ S) := fun r S => by
    refine run_eq (N := N_Price___init__) (n := 3) (c := c_Price___init__) (o := some (.ex ⟨"BadPrice", [("part", .str "breaks")]⟩ [some r, some (.int a), some x] S)) rfl ?_
    show c_Price___init__ [some r, some (.int a), some x] S = _
    unfold c_Price___init__ cSeq cIfS cStep cNot cTr cCall thenC cCons cV cNil cK thenC
    simp [bindO, DE.ret, hw, hb, truthD, liftS, cRaise1, cStep, cCons, thenC, cV, cNil, cK, cSkip]
  unfold kMake
  rw [hi]
theorem lastD_filter {a n : Int} : ∀ {bs : Brs}, ((bs.filter fun p => decide (p.1 ≤ n)).map (·.2)).getLastD a = slopeP a bs n
  | [] => rfl
  | (s, l) :: bs => by
    unfold slopeP
    by_cases c : s ≤ n
    · rw [List.filter_cons_of_pos (by simpa using c), if_pos c, List.map_cons, List.getLastD_cons]
      exact lastD_filter
    · rw [List.filter_cons_of_neg (by simpa using c), if_neg c]
      exact lastD_filter
theorem lastI {ds : List D} {d : D} : L2.atI (d :: ds) (-1) = some (ds.getLastD d) := by
  unfold L2.atI L2.ixN
  rw [if_neg (by decide), if_pos (by rw [List.length_cons]; omega)]
  have : ((-1 : Int) + (d :: ds).length).toNat = ds.length := by rw [List.length_cons]; omega
  show (d :: ds)[((-1 : Int) + (d :: ds).length).toNat]? = _
  rw [this, List.getLastD_eq_getLast?]
  rcases List.eq_nil_or_concat ds with rfl | ⟨xs, x, rfl⟩
  · rfl
  · simp
theorem getLastD_map {α β : Type} (f : α → β) : ∀ {xs : List α} {a : α}, (xs.map f).getLastD (f a) = f (xs.getLastD a)
  | [], _ => rfl
  | x :: xs, a => by rw [List.map_cons, List.getLastD_cons, List.getLastD_cons]; exact getLastD_map f
theorem evp_cat {x y : D} {xs ys : List D} {L : List D → Store → Prop} (h1 : lstD S x = some xs) (h2 : lstD S y = some ys) (hl : xs.length + ys.length ≤ sizeLine) : EvP (kCat x y S) L = L (xs ++ ys) S := by
  unfold kCat
  simp only [h1, h2]
  rw [if_pos hl]
  exact propext Iff.rfl
theorem e_slope {a n : Int} {bs : Brs} (hl : bs.length ≤ 8) : m_Price_slope [priceD a bs, .int n] S = some (.ok (.int (slopeP a bs n)) S) := evp_det (by
  refine evp_run rfl ?_
  show StP (c_Price_slope [some (priceD a bs), some (.int n), none, none] S) _
  unfold c_Price_slope
  have f1 : ∀ {Q : D → Store → Prop}, EvP (kFld ["Price"] "first" (priceD a bs) S) Q = Q (.int a) S := propext Iff.rfl
  have f2 : ∀ {Q : D → Store → Prop}, EvP (kFld ["Price"] "breaks" (priceD a bs) S) Q = Q (brsT bs) S := propext Iff.rfl
  have z1 : 1 ≤ sizeLine := by decide
  have z2 : (bs.map pairT).length ≤ sizeLine := by rw [List.length_map]; exact Nat.le_trans hl (by decide)
  have f3 : ∀ {K : List D → Prop}, asS (brsT bs) K = K (bs.map pairT) := propext Iff.rfl
  simp only [↓h_seq, ↓stp_if, ↓h_cT, ↓evp_c2, ↓evp_c1, ↓evp_cV0, ↓evp_cVs, ↓evp_cK, ↓asB_bl, ↓evp_gt, ↓evp_lt, ↓evp_le, ↓evp_ge, ↓stp_set, ↓evp_cCall, ↓evp_cCons, ↓evp_cNil, ↓evp_k1, ↓evp_k2, ↓evp_int, List.set_cons_succ, List.set_cons_zero, ↓asF_nx, ↓stp_ret, ↓asF_rt, ↓stp_skip, ↓stp_drop, ↓evp_add, ↓evp_sub, ↓evp_neg, List.length_cons, List.length_nil, if_true, ↓evp_ok, ↓evp_ret, ↓evp_cFz, ↓evp_cLstE, ↓evp_cTupE, ↓evp_cCat, ↓evp_cLc, ↓h_cItS, ↓asS_tup, ↓asS_lst, ↓asS_scr, ↓evp_cSlL, ↓evp_pno, ↓h_pso, ↓asI_int, ↓evp_cOr, ↓evp_cAnd, ↓evp_cNot, ↓evp_cIf, ↓h_chain, ↓h_cAndV, ↓h_cOrV, Bool.not_true, Bool.not_false, Bool.false_eq_true, if_false, e_need_int, f1, f2, f3, z1, z2, true_and]
  refine evp_filtP pairT (fun p => .int p.2) (fun p => decide (p.1 ≤ n)) (fun p hp => ⟨_, rfl, ?_⟩) ?_
  · show EvP (cT (c2 kLe (cV 2) (cV 1)) [some (priceD a bs), some (.int n), some (.int p.1), some (.int p.2)] S) _
    simp only [↓h_seq, ↓stp_if, ↓h_cT, ↓evp_c2, ↓evp_c1, ↓evp_cV0, ↓evp_cVs, ↓evp_cK, ↓asB_bl, ↓evp_gt, ↓evp_lt, ↓evp_le, ↓evp_ge, ↓stp_set, ↓evp_cCall, ↓evp_cCons, ↓evp_cNil, ↓evp_k1, ↓evp_k2, ↓evp_int, List.set_cons_succ, List.set_cons_zero, ↓asF_nx, ↓stp_ret, ↓asF_rt, ↓stp_skip, ↓stp_drop, ↓evp_add, ↓evp_sub, ↓evp_neg, List.length_cons, List.length_nil, if_true, ↓evp_ok, ↓evp_ret, ↓evp_cFz, ↓evp_cLstE, ↓evp_cTupE, ↓evp_cCat, ↓evp_cLc, ↓h_cItS, ↓asS_tup, ↓asS_lst, ↓asS_scr, ↓evp_cSlL, ↓evp_pno, ↓h_pso, ↓asI_int, ↓evp_cOr, ↓evp_cAnd, ↓evp_cNot, ↓evp_cIf, ↓h_chain, ↓h_cAndV, ↓h_cOrV, Bool.not_true, Bool.not_false, Bool.false_eq_true, if_false]
    refine ⟨trivial, trivial, fun _ => ?_⟩
    show EvP (cV 3 [some (priceD a bs), some (.int n), some (.int p.1), some (.int p.2)] S) _
    simp only [↓h_seq, ↓stp_if, ↓h_cT, ↓evp_c2, ↓evp_c1, ↓evp_cV0, ↓evp_cVs, ↓evp_cK, ↓asB_bl, ↓evp_gt, ↓evp_lt, ↓evp_le, ↓evp_ge, ↓stp_set, ↓evp_cCall, ↓evp_cCons, ↓evp_cNil, ↓evp_k1, ↓evp_k2, ↓evp_int, List.set_cons_succ, List.set_cons_zero, ↓asF_nx, ↓stp_ret, ↓asF_rt, ↓stp_skip, ↓stp_drop, ↓evp_add, ↓evp_sub, ↓evp_neg, List.length_cons, List.length_nil, if_true, ↓evp_ok, ↓evp_ret, ↓evp_cFz, ↓evp_cLstE, ↓evp_cTupE, ↓evp_cCat, ↓evp_cLc, ↓h_cItS, ↓asS_tup, ↓asS_lst, ↓asS_scr, ↓evp_cSlL, ↓evp_pno, ↓h_pso, ↓asI_int, ↓evp_cOr, ↓evp_cAnd, ↓evp_cNot, ↓evp_cIf, ↓h_chain, ↓h_cAndV, ↓h_cOrV, Bool.not_true, Bool.not_false, Bool.false_eq_true, if_false]
    exact ⟨trivial, trivial⟩
  · generalize hxs : (bs.filter fun p => decide (p.1 ≤ n)) = xs
    have hz : 1 + (xs.map fun p => D.int p.2).length ≤ sizeLine := by
      rw [List.length_map, ← hxs]
      have := List.length_filter_le (fun p : Int × Int => decide (p.1 ≤ n)) bs
      exact Nat.le_trans (by omega : _ ≤ 9) (by decide)
    rw [evp_cat (xs := [.int a]) (ys := xs.map fun p => D.int p.2) rfl rfl hz]
    have hL : L2.atI (D.int a :: xs.map fun p => D.int p.2) (-1) = some (.int (slopeP a bs n)) := by
      rw [lastI, ← lastD_filter (n := n), hxs, ← getLastD_map D.int, List.map_map]; rfl
    rw [List.singleton_append, h_ix rfl hL]
    exact .inl ⟨_, rfl, rfl, rfl⟩)
theorem e_price_at {a n : Int} {bs : Brs} (g : Good a bs) : m_price_at [priceD a bs, .int n] S = some (.ok (.int (atN a bs n)) S) := evp_det (p_price_at fun l h => by
  rcases List.mem_cons.mp h with rfl | h
  · have := g.fst; omega
  · obtain ⟨p, hp, rfl⟩ := List.mem_map.mp h
    have := (g.win p hp).2; omega)
theorem e_at {a n : Int} {bs : Brs} (g : Good a bs) : m_Price_at [priceD a bs, .int n] S = some (.ok (.int (atN a bs n)) S) := evp_det (by
  refine evp_run rfl ?_
  show StP (c_Price_at [some (priceD a bs), some (.int n)] S) _
  unfold c_Price_at
  simp only [↓h_seq, ↓stp_if, ↓h_cT, ↓evp_c2, ↓evp_c1, ↓evp_cV0, ↓evp_cVs, ↓evp_cK, ↓asB_bl, ↓evp_gt, ↓evp_lt, ↓evp_le, ↓evp_ge, ↓stp_set, ↓evp_cCall, ↓evp_cCons, ↓evp_cNil, ↓evp_k1, ↓evp_k2, ↓evp_int, List.set_cons_succ, List.set_cons_zero, ↓asF_nx, ↓stp_ret, ↓asF_rt, ↓stp_skip, ↓stp_drop, ↓evp_add, ↓evp_sub, ↓evp_neg, List.length_cons, List.length_nil, if_true, ↓evp_ok, ↓evp_ret, ↓evp_cFz, ↓evp_cLstE, ↓evp_cTupE, ↓evp_cCat, ↓evp_cLc, ↓h_cItS, ↓asS_tup, ↓asS_lst, ↓asS_scr, ↓evp_cSlL, ↓evp_pno, ↓h_pso, ↓asI_int, ↓evp_cOr, ↓evp_cAnd, ↓evp_cNot, ↓evp_cIf, ↓h_chain, ↓h_cAndV, ↓h_cOrV, Bool.not_true, Bool.not_false, Bool.false_eq_true, if_false, e_need_int, e_price_at g]
  exact .inl ⟨_, rfl, rfl, trivial⟩)
theorem evp_lst {c : C (List D)} {ρ : DEnv} {ds : List D} (h : EvP (c ρ S) fun x S' => x = ds ∧ S' = S) : c ρ S = some (.ok ds S) := by
  obtain ⟨a', S', e, rfl, rfl⟩ := evp_get h
  exact e
/-- a call behind a check, as it ends -/
theorem drop_ret {a : C D} {k : List D → Store → Ev D} {c : C (List D)} {ρ : DEnv} {x : D} {ds : List D} (ha : a ρ S = some (.ok x S)) (hc : c ρ S = some (.ok ds S)) : runOut (cSeq (cDrop a) (cRet (cCall k c)) ρ S) = k ds S := by
  unfold cSeq cDrop cRet cStep cCall thenC
  simp only [ha, hc, liftS, bindO]
  match e : k ds S with
  | some (.ok y S') => simp [e, liftS, runOut]
  | some (.ex y S') => simp [e, liftS, runOut]
  | none => simp [e, liftS, runOut]
theorem drop_ex {a : C D} {t : CS} {ρ : DEnv} {x : Ex} (ha : a ρ S = some (.ex x S)) : runOut (cSeq (cDrop a) t ρ S) = some (.ex x S) := by
  unfold cSeq cDrop cStep
  simp only [ha, liftS, runOut]
theorem e_more {a d : Int} {bs : Brs} (hl : bs.length ≤ 8) : m_Price_more [priceD a bs, .int d] S = kMake "Price" m_Price___init__ [.int (a + d), .lst ((upB d bs).map (pairK true))] S := by
  refine (run_eq (N := N_Price_more) (n := 2) (c := c_Price_more) rfl rfl).trans ?_
  show runOut (c_Price_more [some (priceD a bs), some (.int d), none, none] S) = _
  unfold c_Price_more
  have z2 : (bs.map pairT).length ≤ sizeLine := by rw [List.length_map]; exact Nat.le_trans hl (by decide)
  have f1 : ∀ {Q : D → Store → Prop}, EvP (kFld ["Price"] "first" (priceD a bs) S) Q = Q (.int a) S := propext Iff.rfl
  have f2 : ∀ {Q : D → Store → Prop}, EvP (kFld ["Price"] "breaks" (priceD a bs) S) Q = Q (brsT bs) S := propext Iff.rfl
  have f3 : ∀ {K : List D → Prop}, asS (brsT bs) K = K (bs.map pairT) := propext Iff.rfl
  refine (drop_ret (x := .non) (ds := [.int (a + d), .lst ((upB d bs).map (pairK true))]) (evp_det ?_) (evp_lst ?_)).trans rfl
  · simp only [↓h_seq, ↓stp_if, ↓h_cT, ↓evp_c2, ↓evp_c1, ↓evp_cV0, ↓evp_cVs, ↓evp_cK, ↓asB_bl, ↓evp_gt, ↓evp_lt, ↓evp_le, ↓evp_ge, ↓stp_set, ↓evp_cCall, ↓evp_cCons, ↓evp_cNil, ↓evp_k1, ↓evp_k2, ↓evp_int, List.set_cons_succ, List.set_cons_zero, ↓asF_nx, ↓stp_ret, ↓asF_rt, ↓stp_skip, ↓stp_drop, ↓evp_add, ↓evp_sub, ↓evp_neg, List.length_cons, List.length_nil, if_true, ↓evp_ok, ↓evp_ret, ↓evp_cFz, ↓evp_cLstE, ↓evp_cTupE, ↓evp_cCat, ↓evp_cLc, ↓h_cItS, ↓asS_tup, ↓asS_lst, ↓asS_scr, ↓evp_cSlL, ↓evp_pno, ↓h_pso, ↓asI_int, ↓evp_cOr, ↓evp_cAnd, ↓evp_cNot, ↓evp_cIf, ↓h_chain, ↓h_cAndV, ↓h_cOrV, Bool.not_true, Bool.not_false, Bool.false_eq_true, if_false, e_need_int, and_self]
  · simp only [↓h_seq, ↓stp_if, ↓h_cT, ↓evp_c2, ↓evp_c1, ↓evp_cV0, ↓evp_cVs, ↓evp_cK, ↓asB_bl, ↓evp_gt, ↓evp_lt, ↓evp_le, ↓evp_ge, ↓stp_set, ↓evp_cCall, ↓evp_cCons, ↓evp_cNil, ↓evp_k1, ↓evp_k2, ↓evp_int, List.set_cons_succ, List.set_cons_zero, ↓asF_nx, ↓stp_ret, ↓asF_rt, ↓stp_skip, ↓stp_drop, ↓evp_add, ↓evp_sub, ↓evp_neg, List.length_cons, List.length_nil, if_true, ↓evp_ok, ↓evp_ret, ↓evp_cFz, ↓evp_cLstE, ↓evp_cTupE, ↓evp_cCat, ↓evp_cLc, ↓h_cItS, ↓asS_tup, ↓asS_lst, ↓asS_scr, ↓evp_cSlL, ↓evp_pno, ↓h_pso, ↓asI_int, ↓evp_cOr, ↓evp_cAnd, ↓evp_cNot, ↓evp_cIf, ↓h_chain, ↓h_cAndV, ↓h_cOrV, Bool.not_true, Bool.not_false, Bool.false_eq_true, if_false, f1, f2, f3, z2, true_and]
    refine evp_mapP pairT (fun p => pairK true (p.1, p.2 + d)) (fun p hp => ⟨_, rfl, ?_⟩) ?_
    · show EvP (cTupE (cCons (cV 2) (cCons (c2 kAdd (cV 3) (cV 1)) cNil)) [some (priceD a bs), some (.int d), some (.int p.1), some (.int p.2)] S) _
      simp only [↓h_seq, ↓stp_if, ↓h_cT, ↓evp_c2, ↓evp_c1, ↓evp_cV0, ↓evp_cVs, ↓evp_cK, ↓asB_bl, ↓evp_gt, ↓evp_lt, ↓evp_le, ↓evp_ge, ↓stp_set, ↓evp_cCall, ↓evp_cCons, ↓evp_cNil, ↓evp_k1, ↓evp_k2, ↓evp_int, List.set_cons_succ, List.set_cons_zero, ↓asF_nx, ↓stp_ret, ↓asF_rt, ↓stp_skip, ↓stp_drop, ↓evp_add, ↓evp_sub, ↓evp_neg, List.length_cons, List.length_nil, if_true, ↓evp_ok, ↓evp_ret, ↓evp_cFz, ↓evp_cLstE, ↓evp_cTupE, ↓evp_cCat, ↓evp_cLc, ↓h_cItS, ↓asS_tup, ↓asS_lst, ↓asS_scr, ↓evp_cSlL, ↓evp_pno, ↓h_pso, ↓asI_int, ↓evp_cOr, ↓evp_cAnd, ↓evp_cNot, ↓evp_cIf, ↓h_chain, ↓h_cAndV, ↓h_cOrV, Bool.not_true, Bool.not_false, Bool.false_eq_true, if_false]
      exact ⟨(by decide : 2 ≤ sizeLine), by constructor <;> trivial⟩
    · unfold upB
      rw [List.map_map]
      exact ⟨rfl, rfl⟩
theorem e_odd {t : String} {x : D} {a : Int} {bs : Brs} (h : tagOf ics ecs S x = some (.b t)) (ht : t ∈ bts) (hi : t ≠ "int") :
    m_Price_at [priceD a bs, x] S = some (.ex ⟨"BadNumber", [("part", .str "n")]⟩ S) ∧ m_Price_slope [priceD a bs, x] S = some (.ex ⟨"BadNumber", [("part", .str "n")]⟩ S) ∧ m_Price_more [priceD a bs, x] S = some (.ex ⟨"BadNumber", [("part", .str "d")]⟩ S) := by
  have k : ∀ (p : D) (ρ : DEnv), ρ[1]? = some (some x) → cCall (fun ds S => if ds.length = 2 then m_need_whole ds S else none) (cCons (cV 1) (cCons (cK p) cNil)) ρ S = some (.ex ⟨"BadNumber", [("part", p)]⟩ S) := fun p ρ hρ => by
    unfold cCall thenC cCons cV cNil cK thenC
    simp [hρ, bindO, DE.ret, e_need_no h ht hi]
  refine ⟨?_, ?_, ?_⟩
  · refine (run_eq (N := N_Price_at) (n := 2) (c := c_Price_at) rfl rfl).trans ?_
    exact drop_ex (k _ _ rfl)
  · refine (run_eq (N := N_Price_slope) (n := 2) (c := c_Price_slope) rfl rfl).trans ?_
    exact drop_ex (k _ _ rfl)
  · refine (run_eq (N := N_Price_more) (n := 2) (c := c_Price_more) rfl rfl).trans ?_
    exact drop_ex (k _ _ rfl)
end
end K09

set_option Elab.async false
set_option linter.all false
set_option maxRecDepth 100000
set_option maxHeartbeats 400000
set_option autoImplicit false
namespace K09
open PySem PySem.Spec PyProof.Rows L2 DE
section
variable {S : Store}
theorem stp_asg {a : C D} {g : CG} {ρ : DEnv} {F : Fl → DEnv → Store → Prop} (h : EvP (a ρ S) fun x S1 => ∃ ρ1 S2, g x ρ S1 = some (ρ1, S2) ∧ F .nx ρ1 S2) : StP (cAsg a g ρ S) F := by
  unfold cAsg cStep
  rw [stp_lift]
  refine h.mono fun x S1 ⟨ρ1, S2, e, q⟩ => ?_
  simp only [e]
  exact q
/-- some draws, one by one -/
theorem evp_draws {n b : Nat} {g : CG} {a : C D} {ρ : DEnv} {ds : List D} {L : List D → Store → Prop} (P : Int → Prop) (hp : Pen n b S)
    (step : ∀ (i : Nat) (d : D) (S' : Store), ds[i]? = some d → Pen n (b + i) S' → ∃ ρ1, g d ρ S' = some (ρ1, S') ∧ EvP (a ρ1 S') fun y S2 => ∃ v, y = .int v ∧ P v ∧ Pen n (b + i + 1) S2 ∧ Same n S' S2)
    (fin : ∀ (vs : List Int) (S' : Store), vs.length = ds.length → (∀ v ∈ vs, P v) → Pen n (b + ds.length) S' → Same n S S' → L (vs.map D.int) S') : EvP (lcL g cYes a ρ ds S) L := by
  refine evp_lcL (I := fun i acc S' => ∃ vs : List Int, acc = vs.map D.int ∧ vs.length = i ∧ (∀ v ∈ vs, P v) ∧ Pen n (b + i) S' ∧ Same n S S') (fun i d acc S' h hI => ?_) ⟨[], rfl, rfl, fun v hv => by simp at hv, hp, Same.refl n S⟩ fun acc S' h => ?_
  · obtain ⟨vs, rfl, hl, hP, hp', sm⟩ := hI
    obtain ⟨ρ1, e1, h1⟩ := step i d S' h hp'
    refine ⟨ρ1, S', e1, ?_⟩
    rw [evp_yes, if_pos rfl]
    refine h1.mono fun y S2 ⟨v, e, hv, hp2, sm2⟩ => ?_
    subst e
    exact ⟨vs ++ [v], by simp, by simp [hl], fun w hw => by
      rcases List.mem_append.mp hw with q | q
      · exact hP w q
      · simp at q; subst q; exact hv, hp2, sm.trans sm2⟩
  · obtain ⟨vs, rfl, hl, hP, hp', sm⟩ := h
    exact fin vs S' hl hP hp' sm
theorem zip_map1 : ∀ {xs ys : List Int}, ((xs.zip ys).map (·.1)).Sublist xs
  | [], _ => by simp
  | x :: xs, [] => by simp
  | x :: xs, y :: ys => by simp [zip_map1]
theorem zip_map2 : ∀ {xs ys : List Int}, ((xs.zip ys).map (·.2)).Sublist ys
  | [], _ => by simp
  | x :: xs, [] => by simp
  | x :: xs, y :: ys => by simp [zip_map2]
theorem len_insU {k : Int} : ∀ {xs : List Int}, (insU k xs).length ≤ xs.length + 1
  | [] => by simp [insU]
  | x :: xs => by
    unfold insU
    split
    · simp
    · split
      · simp
      · simp; exact len_insU
theorem len_sortU : ∀ {ns : List Int}, (sortU ns).length ≤ ns.length
  | [] => Nat.le_refl _
  | n :: ns => by
    show (insU n (sortU ns)).length ≤ _
    have h1 := len_insU (k := n) (xs := sortU ns)
    have h2 := len_sortU (ns := ns)
    rw [List.length_cons]; omega
theorem pairs_ints {xs ys : List Int} : pairsD (xs.map D.int) (ys.map D.int) = (xs.zip ys).map pairT := by
  unfold pairsD
  rw [List.zip_map, List.map_map]; rfl
theorem evp_tupzip {c : C (List D)} {ρ : DEnv} {Q : D → Store → Prop} {xs ys : List D} (h : EvP (c ρ S) fun ds S' => ds = [.lst xs, .lst ys] ∧ xs.length ≤ 1000 ∧ Q (.tup (pairsD xs ys)) S') : EvP (cTupZip c ρ S) Q := by
  unfold cTupZip
  rw [evp_then]
  refine h.mono fun ds S' h => ?_
  obtain ⟨rfl, hl, q⟩ := h
  simp only [lstD]
  rw [if_pos hl, evp_ret]
  exact q
theorem p_wide {n b : Nat} (hp : Pen n b S) (hb : b < 1000) : EvP (m__law_wide_price [.ref n] S) fun d S' => ∃ a bs, d = plainD a bs ∧ Good a bs ∧ Pen n (b + 20) S' ∧ Same n S S' := by
  refine evp_run rfl ?_
  show StP (c__law_wide_price [some (.ref n), none, none, none, none, none, none] S) _
  unfold c__law_wide_price
  have z4 : 4 ≤ sizeLine := by decide
  have z2 : 2 ≤ sizeLine := by decide
  have p6 : ∀ {Q : D → Store → Prop} {S : Store}, EvP (kPow (.int 10) (.int 6) S) Q = Q (.int 1000000) S := fun {Q S} => by
    rw [evp_pow]; exact propext ⟨fun h => h.2, fun h => ⟨by decide, h⟩⟩
  rw [h_seq]
  refine stp_asg ?_
  simp only [↓h_seq, ↓stp_if, ↓h_cT, ↓evp_c2, ↓evp_c1, ↓evp_cV0, ↓evp_cVs, ↓evp_cK, ↓asB_bl, ↓evp_gt, ↓evp_lt, ↓evp_le, ↓evp_ge, ↓stp_set, ↓evp_cCall, ↓evp_cCons, ↓evp_cNil, ↓evp_k1, ↓evp_k2, ↓evp_int, List.set_cons_succ, List.set_cons_zero, ↓asF_nx, ↓stp_ret, ↓asF_rt, ↓stp_skip, ↓stp_drop, ↓evp_add, ↓evp_sub, ↓evp_neg, List.length_cons, List.length_nil, if_true, ↓evp_ok, ↓evp_ret, ↓evp_cFz, ↓evp_cLstE, ↓evp_cTupE, ↓evp_cCat, ↓evp_cLc, ↓h_cItS, ↓asS_tup, ↓asS_lst, ↓asS_scr, ↓evp_cSlL, ↓evp_pno, ↓h_pso, ↓asI_int, ↓evp_cOr, ↓evp_cAnd, ↓evp_cNot, ↓evp_cIf, ↓h_chain, ↓h_cAndV, ↓h_cOrV, Bool.not_true, Bool.not_false, Bool.false_eq_true, if_false, p6, z4, true_and]
  refine (pick_ok hp (by omega) (by simp) (by simp)).mono fun x S1 ⟨hx, hp1, sm1⟩ => ?_
  refine (pick_ok hp1 (by omega) (by simp) (by simp)).mono fun y S2 ⟨hy, hp2, sm2⟩ => ?_
  refine ⟨z2, _, _, rfl, ?_⟩
  obtain ⟨most, rfl, hm⟩ : ∃ most : Int, x = .int most ∧ 0 < most ∧ most ≤ 1000000 := by
    simp only [List.mem_cons, List.not_mem_nil, or_false] at hx
    rcases hx with rfl | rfl | rfl | rfl <;> exact ⟨_, rfl, by omega⟩
  obtain ⟨many, rfl, hn⟩ : ∃ many : Int, y = .int many ∧ 0 ≤ many ∧ many ≤ 8 := by
    simp only [List.mem_cons, List.not_mem_nil, or_false] at hy
    rcases hy with rfl | rfl | rfl | rfl <;> exact ⟨_, rfl, by omega⟩
  have m2 : mulOk 2 most = true := mulOk_l (by decide) (by decide)
  simp only [List.set_cons_succ, List.set_cons_zero, wipeD]
  simp only [↓h_seq, ↓stp_if, ↓h_cT, ↓evp_c2, ↓evp_c1, ↓evp_cV0, ↓evp_cVs, ↓evp_cK, ↓asB_bl, ↓evp_gt, ↓evp_lt, ↓evp_le, ↓evp_ge, ↓stp_set, ↓evp_cCall, ↓evp_cCons, ↓evp_cNil, ↓evp_k1, ↓evp_k2, ↓evp_int, List.set_cons_succ, List.set_cons_zero, ↓asF_nx, ↓stp_ret, ↓asF_rt, ↓stp_skip, ↓stp_drop, ↓evp_add, ↓evp_sub, ↓evp_neg, List.length_cons, List.length_nil, if_true, ↓evp_ok, ↓evp_ret, ↓evp_cFz, ↓evp_cLstE, ↓evp_cTupE, ↓evp_cCat, ↓evp_cLc, ↓h_cItS, ↓asS_tup, ↓asS_lst, ↓asS_scr, ↓evp_cSlL, ↓evp_pno, ↓h_pso, ↓asI_int, ↓evp_cOr, ↓evp_cAnd, ↓evp_cNot, ↓evp_cIf, ↓h_chain, ↓h_cAndV, ↓h_cOrV, Bool.not_true, Bool.not_false, Bool.false_eq_true, if_false]
  refine (draw_ok hp2 (by omega) (by omega) (by omega)).mono fun d S3 ⟨r, hr, r0, r1, hp3, sm3⟩ => ?_
  subst hr
  simp only [↓h_seq, ↓stp_if, ↓h_cT, ↓evp_c2, ↓evp_c1, ↓evp_cV0, ↓evp_cVs, ↓evp_cK, ↓asB_bl, ↓evp_gt, ↓evp_lt, ↓evp_le, ↓evp_ge, ↓stp_set, ↓evp_cCall, ↓evp_cCons, ↓evp_cNil, ↓evp_k1, ↓evp_k2, ↓evp_int, List.set_cons_succ, List.set_cons_zero, ↓asF_nx, ↓stp_ret, ↓asF_rt, ↓stp_skip, ↓stp_drop, ↓evp_add, ↓evp_sub, ↓evp_neg, List.length_cons, List.length_nil, if_true, ↓evp_ok, ↓evp_ret, ↓evp_cFz, ↓evp_cLstE, ↓evp_cTupE, ↓evp_cCat, ↓evp_cLc, ↓h_cItS, ↓asS_tup, ↓asS_lst, ↓asS_scr, ↓evp_cSlL, ↓evp_pno, ↓h_pso, ↓asI_int, ↓evp_cOr, ↓evp_cAnd, ↓evp_cNot, ↓evp_cIf, ↓h_chain, ↓h_cAndV, ↓h_cOrV, Bool.not_true, Bool.not_false, Bool.false_eq_true, if_false, ↓h_sortset, ↓evp_range1]
  refine ⟨_, rfl, by omega, by rw [rangeD_length]; exact Nat.le_trans (by omega : _ ≤ 8) (by decide), ?_⟩
  refine evp_draws (fun v => -1000000 ≤ v ∧ v ≤ 1000000) hp3 (fun i d S' hd hp' => ⟨_, rfl, ?_⟩) fun vs S4 hvl hvs hp4 sm4 => ?_
  · show EvP (c2 kSub (cCall (fun ds S => if ds.length = 2 then m__law_draw ds S else none) (cCons (cV 0) (cCons (c2 kAdd (c2 kMul (cK (.int 2)) (cV 1)) (cK (.int 1))) cNil))) (cV 1) [some (.ref n), some (.int most), some (.int many), some (.int (0 - most + r)), none, none, some d] S') _
    have hi : i < 8 := by
      have := (List.getElem?_eq_some_iff.mp hd).1
      rw [rangeD_length] at this; omega
    simp only [↓h_seq, ↓stp_if, ↓h_cT, ↓evp_c2, ↓evp_c1, ↓evp_cV0, ↓evp_cVs, ↓evp_cK, ↓asB_bl, ↓evp_gt, ↓evp_lt, ↓evp_le, ↓evp_ge, ↓stp_set, ↓evp_cCall, ↓evp_cCons, ↓evp_cNil, ↓evp_k1, ↓evp_k2, ↓evp_int, List.set_cons_succ, List.set_cons_zero, ↓asF_nx, ↓stp_ret, ↓asF_rt, ↓stp_skip, ↓stp_drop, ↓evp_add, ↓evp_sub, ↓evp_neg, List.length_cons, List.length_nil, if_true, ↓evp_ok, ↓evp_ret, ↓evp_cFz, ↓evp_cLstE, ↓evp_cTupE, ↓evp_cCat, ↓evp_cLc, ↓h_cItS, ↓asS_tup, ↓asS_lst, ↓asS_scr, ↓evp_cSlL, ↓evp_pno, ↓h_pso, ↓asI_int, ↓evp_cOr, ↓evp_cAnd, ↓evp_cNot, ↓evp_cIf, ↓h_chain, ↓h_cAndV, ↓h_cOrV, Bool.not_true, Bool.not_false, Bool.false_eq_true, if_false, ↓evp_mul, m2, true_and]
    refine (draw_ok hp' (by omega) (by omega) (by omega)).mono fun d S3 ⟨q, hq, q0, q1, hp3, sm3⟩ => ?_
    subst hq
    simp only [↓h_seq, ↓stp_if, ↓h_cT, ↓evp_c2, ↓evp_c1, ↓evp_cV0, ↓evp_cVs, ↓evp_cK, ↓asB_bl, ↓evp_gt, ↓evp_lt, ↓evp_le, ↓evp_ge, ↓stp_set, ↓evp_cCall, ↓evp_cCons, ↓evp_cNil, ↓evp_k1, ↓evp_k2, ↓evp_int, List.set_cons_succ, List.set_cons_zero, ↓asF_nx, ↓stp_ret, ↓asF_rt, ↓stp_skip, ↓stp_drop, ↓evp_add, ↓evp_sub, ↓evp_neg, List.length_cons, List.length_nil, if_true, ↓evp_ok, ↓evp_ret, ↓evp_cFz, ↓evp_cLstE, ↓evp_cTupE, ↓evp_cCat, ↓evp_cLc, ↓h_cItS, ↓asS_tup, ↓asS_lst, ↓asS_scr, ↓evp_cSlL, ↓evp_pno, ↓h_pso, ↓asI_int, ↓evp_cOr, ↓evp_cAnd, ↓evp_cNot, ↓evp_cIf, ↓h_chain, ↓h_cAndV, ↓h_cOrV, Bool.not_true, Bool.not_false, Bool.false_eq_true, if_false]
    exact ⟨_, rfl, by omega, hp3, sm3⟩
  · rw [rangeD_length] at hvl hp4
    refine ⟨vs, by simp [lstD, intsOf_map], by omega, ?_⟩
    refine ⟨_, rfl, by omega, by rw [rangeD_length]; exact Nat.le_trans (by omega : _ ≤ 8) (by decide), ?_⟩
    refine evp_draws (fun v => 0 - most + r < v ∧ -1000000 ≤ v ∧ v ≤ 1000000) hp4 (fun i d S' hd hp' => ⟨_, rfl, ?_⟩) fun ws S5 hwl hws hp5 sm5 => ?_
    · show EvP (c2 kAdd (c2 kAdd (cV 3) (cK (.int 1))) (cCall (fun ds S => if ds.length = 2 then m__law_draw ds S else none) (cCons (cV 0) (cCons (cV 1) cNil))) [some (.ref n), some (.int most), some (.int many), some (.int (0 - most + r)), some (.lst ((sortU vs).map D.int)), none, some d] S') _
      have hi : i < 8 := by
        have := (List.getElem?_eq_some_iff.mp hd).1
        rw [rangeD_length] at this; omega
      simp only [↓h_seq, ↓stp_if, ↓h_cT, ↓evp_c2, ↓evp_c1, ↓evp_cV0, ↓evp_cVs, ↓evp_cK, ↓asB_bl, ↓evp_gt, ↓evp_lt, ↓evp_le, ↓evp_ge, ↓stp_set, ↓evp_cCall, ↓evp_cCons, ↓evp_cNil, ↓evp_k1, ↓evp_k2, ↓evp_int, List.set_cons_succ, List.set_cons_zero, ↓asF_nx, ↓stp_ret, ↓asF_rt, ↓stp_skip, ↓stp_drop, ↓evp_add, ↓evp_sub, ↓evp_neg, List.length_cons, List.length_nil, if_true, ↓evp_ok, ↓evp_ret, ↓evp_cFz, ↓evp_cLstE, ↓evp_cTupE, ↓evp_cCat, ↓evp_cLc, ↓h_cItS, ↓asS_tup, ↓asS_lst, ↓asS_scr, ↓evp_cSlL, ↓evp_pno, ↓h_pso, ↓asI_int, ↓evp_cOr, ↓evp_cAnd, ↓evp_cNot, ↓evp_cIf, ↓h_chain, ↓h_cAndV, ↓h_cOrV, Bool.not_true, Bool.not_false, Bool.false_eq_true, if_false]
      refine (draw_ok hp' (by omega) (by omega) (by omega)).mono fun d S3 ⟨q, hq, q0, q1, hp3, sm3⟩ => ?_
      subst hq
      simp only [↓h_seq, ↓stp_if, ↓h_cT, ↓evp_c2, ↓evp_c1, ↓evp_cV0, ↓evp_cVs, ↓evp_cK, ↓asB_bl, ↓evp_gt, ↓evp_lt, ↓evp_le, ↓evp_ge, ↓stp_set, ↓evp_cCall, ↓evp_cCons, ↓evp_cNil, ↓evp_k1, ↓evp_k2, ↓evp_int, List.set_cons_succ, List.set_cons_zero, ↓asF_nx, ↓stp_ret, ↓asF_rt, ↓stp_skip, ↓stp_drop, ↓evp_add, ↓evp_sub, ↓evp_neg, List.length_cons, List.length_nil, if_true, ↓evp_ok, ↓evp_ret, ↓evp_cFz, ↓evp_cLstE, ↓evp_cTupE, ↓evp_cCat, ↓evp_cLc, ↓h_cItS, ↓asS_tup, ↓asS_lst, ↓asS_scr, ↓evp_cSlL, ↓evp_pno, ↓h_pso, ↓asI_int, ↓evp_cOr, ↓evp_cAnd, ↓evp_cNot, ↓evp_cIf, ↓h_chain, ↓h_cAndV, ↓h_cOrV, Bool.not_true, Bool.not_false, Bool.false_eq_true, if_false]
      exact ⟨_, rfl, by omega, hp3, sm3⟩
    · rw [rangeD_length] at hwl hp5
      refine ⟨ws, by simp [lstD, intsOf_map], by omega, ?_⟩
      refine evp_tupzip (xs := (sortU vs).map D.int) (ys := (sortU ws).map D.int) ?_
      simp only [↓h_seq, ↓stp_if, ↓h_cT, ↓evp_c2, ↓evp_c1, ↓evp_cV0, ↓evp_cVs, ↓evp_cK, ↓asB_bl, ↓evp_gt, ↓evp_lt, ↓evp_le, ↓evp_ge, ↓stp_set, ↓evp_cCall, ↓evp_cCons, ↓evp_cNil, ↓evp_k1, ↓evp_k2, ↓evp_int, List.set_cons_succ, List.set_cons_zero, ↓asF_nx, ↓stp_ret, ↓asF_rt, ↓stp_skip, ↓stp_drop, ↓evp_add, ↓evp_sub, ↓evp_neg, List.length_cons, List.length_nil, if_true, ↓evp_ok, ↓evp_ret, ↓evp_cFz, ↓evp_cLstE, ↓evp_cTupE, ↓evp_cCat, ↓evp_cLc, ↓h_cItS, ↓asS_tup, ↓asS_lst, ↓asS_scr, ↓evp_cSlL, ↓evp_pno, ↓h_pso, ↓asI_int, ↓evp_cOr, ↓evp_cAnd, ↓evp_cNot, ↓evp_cIf, ↓h_chain, ↓h_cAndV, ↓h_cOrV, Bool.not_true, Bool.not_false, Bool.false_eq_true, if_false, true_and]
      have lv := len_sortU (ns := vs)
      have lw := len_sortU (ns := ws)
      refine ⟨by rw [List.length_map]; omega, z2, .inl ⟨_, rfl, 0 - most + r, (sortU vs).zip (sortU ws), by rw [pairs_ints]; rfl, ⟨by rw [List.length_zip]; omega, (sortU_sorted vs).sublist zip_map1, ?_, by omega, ?_⟩, hp5.le (by omega), ((((sm1.trans sm2).trans sm3).trans sm4).trans sm5)⟩⟩
      · refine List.pairwise_cons.mpr ⟨fun z hz => ?_, (sortU_sorted ws).sublist zip_map2⟩
        have := zip_map2.subset hz
        exact (hws z (mem_sortU.mp this)).1
      · intro p hp
        have h1 := zip_map1.subset (List.mem_map_of_mem (f := (·.1)) hp)
        have h2 := zip_map2.subset (List.mem_map_of_mem (f := (·.2)) hp)
        exact ⟨hvs _ (mem_sortU.mp h1), (hws _ (mem_sortU.mp h2)).2⟩
end
end K09

set_option Elab.async false
set_option linter.all false
set_option maxRecDepth 100000
set_option maxHeartbeats 400000
set_option autoImplicit false
namespace K09
open PySem PySem.Spec PyProof.Rows L2 DE
section
variable {S : Store}
theorem e_listed_int {k : Nat} {v : Int} : m__law_listed (k + 1) [.int v] S = some (.ok (.int v) S) := evp_det (by
  refine evp_run rfl ?_
  show StP (c__law_listed (m__law_listed k) [some (.int v), none] S) _
  unfold c__law_listed
  have h0 : ∀ {Q : D → Store → Prop}, EvP (kIsi isi ics ecs (.int v) (.ty "tuple") S) Q = Q (.bl false) S := evp_isi (t := .b "int") (u := .b "tuple") rfl rfl (by decide +kernel)
  simp only [↓h_seq, ↓stp_if, ↓h_cT, ↓evp_c2, ↓evp_c1, ↓evp_cV0, ↓evp_cVs, ↓evp_cK, ↓asB_bl, ↓evp_gt, ↓evp_lt, ↓evp_le, ↓evp_ge, ↓stp_set, ↓evp_cCall, ↓evp_cCons, ↓evp_cNil, ↓evp_k1, ↓evp_k2, ↓evp_int, List.set_cons_succ, List.set_cons_zero, ↓asF_nx, ↓stp_ret, ↓asF_rt, ↓stp_skip, ↓stp_drop, ↓evp_add, ↓evp_sub, ↓evp_neg, List.length_cons, List.length_nil, if_true, ↓evp_ok, ↓evp_ret, ↓evp_cFz, ↓evp_cLstE, ↓evp_cTupE, ↓evp_cCat, ↓evp_cLc, ↓h_cItS, ↓asS_tup, ↓asS_lst, ↓asS_scr, ↓evp_cSlL, ↓evp_pno, ↓h_pso, ↓asI_int, ↓evp_cOr, ↓evp_cAnd, ↓evp_cNot, ↓evp_cIf, ↓h_chain, ↓h_cAndV, ↓h_cOrV, Bool.not_true, Bool.not_false, Bool.false_eq_true, if_false, ↓evp_cTr, h0]
  refine ⟨false, rfl, ?_⟩
  simp only [↓h_seq, ↓stp_if, ↓h_cT, ↓evp_c2, ↓evp_c1, ↓evp_cV0, ↓evp_cVs, ↓evp_cK, ↓asB_bl, ↓evp_gt, ↓evp_lt, ↓evp_le, ↓evp_ge, ↓stp_set, ↓evp_cCall, ↓evp_cCons, ↓evp_cNil, ↓evp_k1, ↓evp_k2, ↓evp_int, List.set_cons_succ, List.set_cons_zero, ↓asF_nx, ↓stp_ret, ↓asF_rt, ↓stp_skip, ↓stp_drop, ↓evp_add, ↓evp_sub, ↓evp_neg, List.length_cons, List.length_nil, if_true, ↓evp_ok, ↓evp_ret, ↓evp_cFz, ↓evp_cLstE, ↓evp_cTupE, ↓evp_cCat, ↓evp_cLc, ↓h_cItS, ↓asS_tup, ↓asS_lst, ↓asS_scr, ↓evp_cSlL, ↓evp_pno, ↓h_pso, ↓asI_int, ↓evp_cOr, ↓evp_cAnd, ↓evp_cNot, ↓evp_cIf, ↓h_chain, ↓h_cAndV, ↓h_cOrV, Bool.not_true, Bool.not_false, Bool.false_eq_true, if_false]
  exact .inl ⟨_, rfl, rfl, trivial⟩)
theorem e_lw_tup {α : Type} {k : Nat} {xs : List α} (e f : α → D) (hl : xs.length ≤ sizeLine) (h : ∀ x ∈ xs, m__law_listed k [e x] S = some (.ok (f x) S)) : m__law_listed (k + 1) [.tup (xs.map e)] S = some (.ok (.lst (xs.map f)) S) := evp_det (by
  refine evp_run rfl ?_
  show StP (c__law_listed (m__law_listed k) [some (.tup (xs.map e)), none] S) _
  unfold c__law_listed
  have h0 : ∀ {Q : D → Store → Prop}, EvP (kIsi isi ics ecs (.tup (xs.map e)) (.ty "tuple") S) Q = Q (.bl true) S := evp_isi (t := .b "tuple") (u := .b "tuple") rfl rfl (by decide +kernel)
  have z : (xs.map e).length ≤ sizeLine := by rw [List.length_map]; exact hl
  simp only [↓h_seq, ↓stp_if, ↓h_cT, ↓evp_c2, ↓evp_c1, ↓evp_cV0, ↓evp_cVs, ↓evp_cK, ↓asB_bl, ↓evp_gt, ↓evp_lt, ↓evp_le, ↓evp_ge, ↓stp_set, ↓evp_cCall, ↓evp_cCons, ↓evp_cNil, ↓evp_k1, ↓evp_k2, ↓evp_int, List.set_cons_succ, List.set_cons_zero, ↓asF_nx, ↓stp_ret, ↓asF_rt, ↓stp_skip, ↓stp_drop, ↓evp_add, ↓evp_sub, ↓evp_neg, List.length_cons, List.length_nil, if_true, ↓evp_ok, ↓evp_ret, ↓evp_cFz, ↓evp_cLstE, ↓evp_cTupE, ↓evp_cCat, ↓evp_cLc, ↓h_cItS, ↓asS_tup, ↓asS_lst, ↓asS_scr, ↓evp_cSlL, ↓evp_pno, ↓h_pso, ↓asI_int, ↓evp_cOr, ↓evp_cAnd, ↓evp_cNot, ↓evp_cIf, ↓h_chain, ↓h_cAndV, ↓h_cOrV, Bool.not_true, Bool.not_false, Bool.false_eq_true, if_false, ↓evp_cTr, h0]
  refine ⟨true, rfl, ?_⟩
  simp only [↓h_seq, ↓stp_if, ↓h_cT, ↓evp_c2, ↓evp_c1, ↓evp_cV0, ↓evp_cVs, ↓evp_cK, ↓asB_bl, ↓evp_gt, ↓evp_lt, ↓evp_le, ↓evp_ge, ↓stp_set, ↓evp_cCall, ↓evp_cCons, ↓evp_cNil, ↓evp_k1, ↓evp_k2, ↓evp_int, List.set_cons_succ, List.set_cons_zero, ↓asF_nx, ↓stp_ret, ↓asF_rt, ↓stp_skip, ↓stp_drop, ↓evp_add, ↓evp_sub, ↓evp_neg, List.length_cons, List.length_nil, if_true, ↓evp_ok, ↓evp_ret, ↓evp_cFz, ↓evp_cLstE, ↓evp_cTupE, ↓evp_cCat, ↓evp_cLc, ↓h_cItS, ↓asS_tup, ↓asS_lst, ↓asS_scr, ↓evp_cSlL, ↓evp_pno, ↓h_pso, ↓asI_int, ↓evp_cOr, ↓evp_cAnd, ↓evp_cNot, ↓evp_cIf, ↓h_chain, ↓h_cAndV, ↓h_cOrV, Bool.not_true, Bool.not_false, Bool.false_eq_true, if_false, z, true_and]
  refine evp_mapP e f (fun x hx => ⟨_, rfl, ?_⟩) ?_
  · show EvP (cCall (fun ds S => if ds.length = 1 then m__law_listed k ds S else none) (cCons (cV 1) cNil) [some (.tup (xs.map e)), some (e x)] S) _
    simp only [↓h_seq, ↓stp_if, ↓h_cT, ↓evp_c2, ↓evp_c1, ↓evp_cV0, ↓evp_cVs, ↓evp_cK, ↓asB_bl, ↓evp_gt, ↓evp_lt, ↓evp_le, ↓evp_ge, ↓stp_set, ↓evp_cCall, ↓evp_cCons, ↓evp_cNil, ↓evp_k1, ↓evp_k2, ↓evp_int, List.set_cons_succ, List.set_cons_zero, ↓asF_nx, ↓stp_ret, ↓asF_rt, ↓stp_skip, ↓stp_drop, ↓evp_add, ↓evp_sub, ↓evp_neg, List.length_cons, List.length_nil, if_true, ↓evp_ok, ↓evp_ret, ↓evp_cFz, ↓evp_cLstE, ↓evp_cTupE, ↓evp_cCat, ↓evp_cLc, ↓h_cItS, ↓asS_tup, ↓asS_lst, ↓asS_scr, ↓evp_cSlL, ↓evp_pno, ↓h_pso, ↓asI_int, ↓evp_cOr, ↓evp_cAnd, ↓evp_cNot, ↓evp_cIf, ↓h_chain, ↓h_cAndV, ↓h_cOrV, Bool.not_true, Bool.not_false, Bool.false_eq_true, if_false, h x hx]
    exact ⟨trivial, trivial⟩
  · exact .inl ⟨_, rfl, rfl, rfl⟩)
theorem e_listed {bs : Brs} (hl : bs.length ≤ 8) : m__law_listed 3 [brsT bs] S = some (.ok (.lst (bs.map (pairK false))) S) :=
  e_lw_tup (k := 2) pairT (pairK false) (Nat.le_trans hl (by decide)) fun p _ => e_lw_tup (k := 1) (xs := [p.1, p.2]) D.int D.int (by decide : 2 ≤ sizeLine) fun _ _ => e_listed_int
theorem e_law_slope {a n : Int} {bs : Brs} : m__law_slope [plainD a bs, .int n] S = some (.ok (.int (slopeP a bs n)) S) := evp_det p_law_slope
theorem slopeP_mem {n : Int} : ∀ {bs : Brs} {a : Int}, slopeP a bs n ∈ a :: bs.map (·.2)
  | [], a => .head _
  | (s, l) :: bs, a => by
    unfold slopeP
    split
    · exact .tail _ slopeP_mem
    · rcases List.mem_cons.mp (slopeP_mem (n := n) (bs := bs) (a := a)) with q | q
      · rw [q]; exact .head _
      · exact .tail _ (.tail _ q)
theorem Good.slope {a n : Int} {bs : Brs} (g : Good a bs) : -1000000 ≤ slopeP a bs n ∧ slopeP a bs n ≤ 1000000 := by
  rcases List.mem_cons.mp (slopeP_mem (n := n) (bs := bs) (a := a)) with q | q
  · rw [q]; have := g.fst; omega
  · obtain ⟨p, hp, e⟩ := List.mem_map.mp q
    rw [← e]; exact (g.win p hp).2
theorem rangeD_eq {lo hi : Int} : rangeD lo hi = (List.range (hi - lo).toNat).map fun (i : Nat) => D.int (lo + (i : Int)) := rfl
theorem e_law_at {a n : Int} {bs : Brs} (g : Good a bs) (hn : -100 < n ∧ n < 100) : m__law_at [plainD a bs, .int n] S = some (.ok (.int (atN a bs n)) S) := evp_det (by
  refine evp_run rfl ?_
  show StP (c__law_at [some (plainD a bs), some (.int n), none] S) _
  unfold c__law_at
  have step : ∀ (lo : Int) (k : Nat), 0 ≤ (k : Int) → ∀ i ∈ List.range k, ∃ ρ1, gNm 2 (D.int (lo + (i : Int))) [some (plainD a bs), some (.int n), none] S = some (ρ1, S) ∧ EvP (cCall (fun ds S => if ds.length = 2 then m__law_slope ds S else none) (cCons (cV 0) (cCons (cV 2) cNil)) ρ1 S) fun y S' => y = .int (slopeP a bs (lo + (i : Int))) ∧ S' = S := fun lo k _ i _ => by
    refine ⟨_, rfl, ?_⟩
    show EvP (cCall (fun ds S => if ds.length = 2 then m__law_slope ds S else none) (cCons (cV 0) (cCons (cV 2) cNil)) [some (plainD a bs), some (.int n), some (.int (lo + (i : Int)))] S) _
    simp only [↓h_seq, ↓stp_if, ↓h_cT, ↓evp_c2, ↓evp_c1, ↓evp_cV0, ↓evp_cVs, ↓evp_cK, ↓asB_bl, ↓evp_gt, ↓evp_lt, ↓evp_le, ↓evp_ge, ↓stp_set, ↓evp_cCall, ↓evp_cCons, ↓evp_cNil, ↓evp_k1, ↓evp_k2, ↓evp_int, List.set_cons_succ, List.set_cons_zero, ↓asF_nx, ↓stp_ret, ↓asF_rt, ↓stp_skip, ↓stp_drop, ↓evp_add, ↓evp_sub, ↓evp_neg, List.length_cons, List.length_nil, if_true, ↓evp_ok, ↓evp_ret, ↓evp_cFz, ↓evp_cLstE, ↓evp_cTupE, ↓evp_cCat, ↓evp_cLc, ↓h_cItS, ↓asS_tup, ↓asS_lst, ↓asS_scr, ↓evp_cSlL, ↓evp_pno, ↓h_pso, ↓asI_int, ↓evp_cOr, ↓evp_cAnd, ↓evp_cNot, ↓evp_cIf, ↓h_chain, ↓h_cAndV, ↓h_cOrV, Bool.not_true, Bool.not_false, Bool.false_eq_true, if_false, e_law_slope]
    exact ⟨trivial, trivial⟩
  have sm : ∀ (lo : Int) (k : Nat) {Q : D → Store → Prop}, EvP (kSum (.lst ((List.range k).map fun (i : Nat) => D.int (slopeP a bs (lo + (i : Int))))) S) Q = Q (.int (atN a bs (lo + k) - atN a bs lo)) S := fun lo k Q => by
    rw [← steps_sum g.asc, ← evp_sum (Q := Q), List.map_map]; rfl
  by_cases c : 0 ≤ n
  · simp only [↓h_seq, ↓stp_if, ↓h_cT, ↓evp_c2, ↓evp_c1, ↓evp_cV0, ↓evp_cVs, ↓evp_cK, ↓asB_bl, ↓evp_gt, ↓evp_lt, ↓evp_le, ↓evp_ge, ↓stp_set, ↓evp_cCall, ↓evp_cCons, ↓evp_cNil, ↓evp_k1, ↓evp_k2, ↓evp_int, List.set_cons_succ, List.set_cons_zero, ↓asF_nx, ↓stp_ret, ↓asF_rt, ↓stp_skip, ↓stp_drop, ↓evp_add, ↓evp_sub, ↓evp_neg, List.length_cons, List.length_nil, if_true, ↓evp_ok, ↓evp_ret, ↓evp_cFz, ↓evp_cLstE, ↓evp_cTupE, ↓evp_cCat, ↓evp_cLc, ↓h_cItS, ↓asS_tup, ↓asS_lst, ↓asS_scr, ↓evp_cSlL, ↓evp_pno, ↓h_pso, ↓asI_int, ↓evp_cOr, ↓evp_cAnd, ↓evp_cNot, ↓evp_cIf, ↓h_chain, ↓h_cAndV, ↓h_cOrV, Bool.not_true, Bool.not_false, Bool.false_eq_true, if_false, c, decide_true, ↓evp_range1]
    refine ⟨_, rfl, by omega, by rw [rangeD_length]; exact Nat.le_trans (by omega : _ ≤ 100) (by decide), ?_⟩
    rw [rangeD_eq]
    refine evp_mapP _ (fun (i : Nat) => D.int (slopeP a bs (0 + (i : Int)))) (step 0 _ (by omega)) ?_
    rw [sm]
    refine .inl ⟨_, rfl, ?_, by trivial⟩
    rw [atN_zero]
    congr 1
    have : (0 : Int) + ((n - 0).toNat : Int) = n := by omega
    rw [this]; omega
  · simp only [↓h_seq, ↓stp_if, ↓h_cT, ↓evp_c2, ↓evp_c1, ↓evp_cV0, ↓evp_cVs, ↓evp_cK, ↓asB_bl, ↓evp_gt, ↓evp_lt, ↓evp_le, ↓evp_ge, ↓stp_set, ↓evp_cCall, ↓evp_cCons, ↓evp_cNil, ↓evp_k1, ↓evp_k2, ↓evp_int, List.set_cons_succ, List.set_cons_zero, ↓asF_nx, ↓stp_ret, ↓asF_rt, ↓stp_skip, ↓stp_drop, ↓evp_add, ↓evp_sub, ↓evp_neg, List.length_cons, List.length_nil, if_true, ↓evp_ok, ↓evp_ret, ↓evp_cFz, ↓evp_cLstE, ↓evp_cTupE, ↓evp_cCat, ↓evp_cLc, ↓h_cItS, ↓asS_tup, ↓asS_lst, ↓asS_scr, ↓evp_cSlL, ↓evp_pno, ↓h_pso, ↓asI_int, ↓evp_cOr, ↓evp_cAnd, ↓evp_cNot, ↓evp_cIf, ↓h_chain, ↓h_cAndV, ↓h_cOrV, Bool.not_true, Bool.not_false, Bool.false_eq_true, if_false, c, decide_false, ↓evp_range2]
    refine ⟨_, _, rfl, by omega, by rw [rangeD_length]; exact Nat.le_trans (by omega : _ ≤ 100) (by decide), ?_⟩
    rw [rangeD_eq]
    refine evp_mapP _ (fun (i : Nat) => D.int (slopeP a bs (n + (i : Int)))) (step n _ (by omega)) ?_
    rw [sm]
    simp only [↓h_seq, ↓stp_if, ↓h_cT, ↓evp_c2, ↓evp_c1, ↓evp_cV0, ↓evp_cVs, ↓evp_cK, ↓asB_bl, ↓evp_gt, ↓evp_lt, ↓evp_le, ↓evp_ge, ↓stp_set, ↓evp_cCall, ↓evp_cCons, ↓evp_cNil, ↓evp_k1, ↓evp_k2, ↓evp_int, List.set_cons_succ, List.set_cons_zero, ↓asF_nx, ↓stp_ret, ↓asF_rt, ↓stp_skip, ↓stp_drop, ↓evp_add, ↓evp_sub, ↓evp_neg, List.length_cons, List.length_nil, if_true, ↓evp_ok, ↓evp_ret, ↓evp_cFz, ↓evp_cLstE, ↓evp_cTupE, ↓evp_cCat, ↓evp_cLc, ↓h_cItS, ↓asS_tup, ↓asS_lst, ↓asS_scr, ↓evp_cSlL, ↓evp_pno, ↓h_pso, ↓asI_int, ↓evp_cOr, ↓evp_cAnd, ↓evp_cNot, ↓evp_cIf, ↓h_chain, ↓h_cAndV, ↓h_cOrV, Bool.not_true, Bool.not_false, Bool.false_eq_true, if_false]
    refine .inl ⟨_, rfl, ?_, by trivial⟩
    congr 1
    have : n + ((0 - n).toNat : Int) = 0 := by omega
    rw [this, atN_zero]; omega)
theorem pairs_next {ns : List Int} : pairsD (ns.map D.int) ((ns.map D.int).drop 1) = (ns.zip (ns.drop 1)).map pairT := by
  rw [← List.map_drop, pairs_ints]
/-- the cuts between 0 and n -/
def cutsN (bs : Brs) (lo hi : Int) : List Int := sortU ([lo, hi] ++ ((bs.map (·.1)).filter fun s => decide (lo < s ∧ s < hi)))
theorem cuts_sum {a lo hi : Int} {bs : Brs} (h1 : Asc bs) (hlh : lo ≤ hi) : (pieces (slopeP a bs) (cutsN bs lo hi)).sum = atN a bs hi - atN a bs lo := by
  have hm : ∀ x, x ∈ cutsN bs lo hi ↔ x = lo ∨ x = hi ∨ (x ∈ bs.map (·.1) ∧ lo < x ∧ x < hi) := fun x => by
    unfold cutsN
    rw [mem_sortU, List.mem_append, List.mem_filter, decide_eq_true_iff]
    simp only [List.mem_cons, List.not_mem_nil, or_false, or_assoc]
  have hs : (cutsN bs lo hi).Pairwise (· < ·) := sortU_sorted _
  match e : cutsN bs lo hi with
  | [] => have := (hm lo).mpr (.inl rfl); rw [e] at this; cases this
  | c :: ns =>
    rw [e] at hs hm
    have hc : c = lo := by
      have h1 := (hm lo).mpr (.inl rfl)
      have h2 := (hm c).mp (.head _)
      rcases List.mem_cons.mp h1 with q | q
      · exact q.symm
      · have := (List.pairwise_cons.mp hs).1 lo q
        rcases h2 with q2 | q2 | q2 <;> omega
    subst hc
    refine pieces_sum h1 hs ((hm hi).mpr (.inr (.inl rfl))) (fun x hx => ?_) fun p hp k1 k2 => (hm p.1).mpr (.inr (.inr ⟨List.mem_map_of_mem hp, k1, k2⟩))
    rcases (hm x).mp hx with q | q | q <;> omega
theorem e_law_far_at {a n : Int} {bs : Brs} (g : Good a bs) : m__law_far_at [plainD a bs, .int n] S = some (.ok (.int (atN a bs n)) S) := evp_det (by
  refine evp_run rfl ?_
  show StP (c__law_far_at [some (plainD a bs), some (.int n), none, none, none, none, none, none, none] S) _
  unfold c__law_far_at
  have z8 : (bs.map pairT).length ≤ sizeLine := by rw [List.length_map]; exact Nat.le_trans g.len (by decide)
  have z8' : ((bs.map (·.1)).map D.int).length ≤ sizeLine := by rw [List.length_map, List.length_map]; exact Nat.le_trans g.len (by decide)
  have z2 : 2 ≤ sizeLine := by decide
  have f2 : ∀ {Q : D → Store → Prop}, EvP (kIx (plainD a bs) (.int 1) S) Q = Q (brsT bs) S := h_ix rfl rfl
  have f3 : ∀ {K : List D → Prop}, asS (brsT bs) K = K (bs.map pairT) := propext Iff.rfl
  obtain ⟨lo, hlo⟩ : ∃ lo, lo = if n < 0 then n else 0 := ⟨_, rfl⟩
  obtain ⟨hi, hhi⟩ : ∃ hi, hi = if n > 0 then n else 0 := ⟨_, rfl⟩
  have m1 : ∀ {Q : D → Store → Prop}, EvP (kMin2 (.int 0) (.int n) S) Q = Q (.int lo) S := fun {Q} => by rw [hlo]; exact evp_min2
  have m2 : ∀ {Q : D → Store → Prop}, EvP (kMax2 (.int 0) (.int n) S) Q = Q (.int hi) S := fun {Q} => by rw [hhi]; exact evp_max2
  have hlh : lo ≤ hi := by rw [hlo, hhi]; split <;> split <;> omega
  simp only [↓h_seq, ↓stp_if, ↓h_cT, ↓evp_c2, ↓evp_c1, ↓evp_cV0, ↓evp_cVs, ↓evp_cK, ↓asB_bl, ↓evp_gt, ↓evp_lt, ↓evp_le, ↓evp_ge, ↓stp_set, ↓evp_cCall, ↓evp_cCons, ↓evp_cNil, ↓evp_k1, ↓evp_k2, ↓evp_int, List.set_cons_succ, List.set_cons_zero, ↓asF_nx, ↓stp_ret, ↓asF_rt, ↓stp_skip, ↓stp_drop, ↓evp_add, ↓evp_sub, ↓evp_neg, List.length_cons, List.length_nil, if_true, ↓evp_ok, ↓evp_ret, ↓evp_cFz, ↓evp_cLstE, ↓evp_cTupE, ↓evp_cCat, ↓evp_cLc, ↓h_cItS, ↓asS_tup, ↓asS_lst, ↓asS_scr, ↓evp_cSlL, ↓evp_pno, ↓h_pso, ↓asI_int, ↓evp_cOr, ↓evp_cAnd, ↓evp_cNot, ↓evp_cIf, ↓h_chain, ↓h_cAndV, ↓h_cOrV, Bool.not_true, Bool.not_false, Bool.false_eq_true, if_false, f2, f3, z8, true_and]
  refine evp_mapP pairT (fun p => .int p.1) (fun p hp => ⟨_, rfl, ?_⟩) ?_
  · show EvP (cV 5 [some (plainD a bs), some (.int n), none, none, none, some (.int p.1), some (.int p.2), none, none] S) _
    simp only [↓h_seq, ↓stp_if, ↓h_cT, ↓evp_c2, ↓evp_c1, ↓evp_cV0, ↓evp_cVs, ↓evp_cK, ↓asB_bl, ↓evp_gt, ↓evp_lt, ↓evp_le, ↓evp_ge, ↓stp_set, ↓evp_cCall, ↓evp_cCons, ↓evp_cNil, ↓evp_k1, ↓evp_k2, ↓evp_int, List.set_cons_succ, List.set_cons_zero, ↓asF_nx, ↓stp_ret, ↓asF_rt, ↓stp_skip, ↓stp_drop, ↓evp_add, ↓evp_sub, ↓evp_neg, List.length_cons, List.length_nil, if_true, ↓evp_ok, ↓evp_ret, ↓evp_cFz, ↓evp_cLstE, ↓evp_cTupE, ↓evp_cCat, ↓evp_cLc, ↓h_cItS, ↓asS_tup, ↓asS_lst, ↓asS_scr, ↓evp_cSlL, ↓evp_pno, ↓h_pso, ↓asI_int, ↓evp_cOr, ↓evp_cAnd, ↓evp_cNot, ↓evp_cIf, ↓h_chain, ↓h_cAndV, ↓h_cOrV, Bool.not_true, Bool.not_false, Bool.false_eq_true, if_false]
    exact ⟨trivial, trivial⟩
  have e1 : (bs.map fun p => D.int p.1) = (bs.map (·.1)).map D.int := by rw [List.map_map]; rfl
  rw [e1]
  generalize hsp : bs.map (·.1) = sp at *
  simp only [↓h_seq, ↓stp_if, ↓h_cT, ↓evp_c2, ↓evp_c1, ↓evp_cV0, ↓evp_cVs, ↓evp_cK, ↓asB_bl, ↓evp_gt, ↓evp_lt, ↓evp_le, ↓evp_ge, ↓stp_set, ↓evp_cCall, ↓evp_cCons, ↓evp_cNil, ↓evp_k1, ↓evp_k2, ↓evp_int, List.set_cons_succ, List.set_cons_zero, ↓asF_nx, ↓stp_ret, ↓asF_rt, ↓stp_skip, ↓stp_drop, ↓evp_add, ↓evp_sub, ↓evp_neg, List.length_cons, List.length_nil, if_true, ↓evp_ok, ↓evp_ret, ↓evp_cFz, ↓evp_cLstE, ↓evp_cTupE, ↓evp_cCat, ↓evp_cLc, ↓h_cItS, ↓asS_tup, ↓asS_lst, ↓asS_scr, ↓evp_cSlL, ↓evp_pno, ↓h_pso, ↓asI_int, ↓evp_cOr, ↓evp_cAnd, ↓evp_cNot, ↓evp_cIf, ↓h_chain, ↓h_cAndV, ↓h_cOrV, Bool.not_true, Bool.not_false, Bool.false_eq_true, if_false, ↓h_sortset, m1, m2, z2, z8', true_and]
  refine evp_filtP D.int D.int (fun s => decide (lo < s ∧ s < hi)) (fun s hs => ⟨_, rfl, ?_⟩) ?_
  · show EvP (cT (cChain kLt kLt (cCall (k2 kMin2) (cCons (cK (.int 0)) (cCons (cV 1) cNil))) (cV 5) (cCall (k2 kMax2) (cCons (cK (.int 0)) (cCons (cV 1) cNil)))) [some (plainD a bs), some (.int n), some (.lst (sp.map D.int)), none, none, some (.int s), none, none, none] S) _
    have fin : EvP (cV 5 [some (plainD a bs), some (.int n), some (.lst (sp.map D.int)), none, none, some (.int s), none, none, none] S) fun y S' => y = .int s ∧ S' = S := by
      simp only [↓h_seq, ↓stp_if, ↓h_cT, ↓evp_c2, ↓evp_c1, ↓evp_cV0, ↓evp_cVs, ↓evp_cK, ↓asB_bl, ↓evp_gt, ↓evp_lt, ↓evp_le, ↓evp_ge, ↓stp_set, ↓evp_cCall, ↓evp_cCons, ↓evp_cNil, ↓evp_k1, ↓evp_k2, ↓evp_int, List.set_cons_succ, List.set_cons_zero, ↓asF_nx, ↓stp_ret, ↓asF_rt, ↓stp_skip, ↓stp_drop, ↓evp_add, ↓evp_sub, ↓evp_neg, List.length_cons, List.length_nil, if_true, ↓evp_ok, ↓evp_ret, ↓evp_cFz, ↓evp_cLstE, ↓evp_cTupE, ↓evp_cCat, ↓evp_cLc, ↓h_cItS, ↓asS_tup, ↓asS_lst, ↓asS_scr, ↓evp_cSlL, ↓evp_pno, ↓h_pso, ↓asI_int, ↓evp_cOr, ↓evp_cAnd, ↓evp_cNot, ↓evp_cIf, ↓h_chain, ↓h_cAndV, ↓h_cOrV, Bool.not_true, Bool.not_false, Bool.false_eq_true, if_false]; exact ⟨trivial, trivial⟩
    by_cases c1 : lo < s
    · simp only [↓h_seq, ↓stp_if, ↓h_cT, ↓evp_c2, ↓evp_c1, ↓evp_cV0, ↓evp_cVs, ↓evp_cK, ↓asB_bl, ↓evp_gt, ↓evp_lt, ↓evp_le, ↓evp_ge, ↓stp_set, ↓evp_cCall, ↓evp_cCons, ↓evp_cNil, ↓evp_k1, ↓evp_k2, ↓evp_int, List.set_cons_succ, List.set_cons_zero, ↓asF_nx, ↓stp_ret, ↓asF_rt, ↓stp_skip, ↓stp_drop, ↓evp_add, ↓evp_sub, ↓evp_neg, List.length_cons, List.length_nil, if_true, ↓evp_ok, ↓evp_ret, ↓evp_cFz, ↓evp_cLstE, ↓evp_cTupE, ↓evp_cCat, ↓evp_cLc, ↓h_cItS, ↓asS_tup, ↓asS_lst, ↓asS_scr, ↓evp_cSlL, ↓evp_pno, ↓h_pso, ↓asI_int, ↓evp_cOr, ↓evp_cAnd, ↓evp_cNot, ↓evp_cIf, ↓h_chain, ↓h_cAndV, ↓h_cOrV, Bool.not_true, Bool.not_false, Bool.false_eq_true, if_false, m1, m2, c1, decide_true]
      exact ⟨by simp, trivial, fun _ => fin⟩
    · simp only [↓h_seq, ↓stp_if, ↓h_cT, ↓evp_c2, ↓evp_c1, ↓evp_cV0, ↓evp_cVs, ↓evp_cK, ↓asB_bl, ↓evp_gt, ↓evp_lt, ↓evp_le, ↓evp_ge, ↓stp_set, ↓evp_cCall, ↓evp_cCons, ↓evp_cNil, ↓evp_k1, ↓evp_k2, ↓evp_int, List.set_cons_succ, List.set_cons_zero, ↓asF_nx, ↓stp_ret, ↓asF_rt, ↓stp_skip, ↓stp_drop, ↓evp_add, ↓evp_sub, ↓evp_neg, List.length_cons, List.length_nil, if_true, ↓evp_ok, ↓evp_ret, ↓evp_cFz, ↓evp_cLstE, ↓evp_cTupE, ↓evp_cCat, ↓evp_cLc, ↓h_cItS, ↓asS_tup, ↓asS_lst, ↓asS_scr, ↓evp_cSlL, ↓evp_pno, ↓h_pso, ↓asI_int, ↓evp_cOr, ↓evp_cAnd, ↓evp_cNot, ↓evp_cIf, ↓h_chain, ↓h_cAndV, ↓h_cOrV, Bool.not_true, Bool.not_false, Bool.false_eq_true, if_false, m1, m2, c1, decide_false]
      exact ⟨by simp, trivial, fun _ => fin⟩
  have hfl := List.length_filter_le (fun s => decide (lo < s ∧ s < hi)) sp
  have hsl : sp.length ≤ 8 := by rw [← hsp, List.length_map]; exact g.len
  obtain ⟨fl, hfe⟩ : ∃ fl, fl = sp.filter fun s => decide (lo < s ∧ s < hi) := ⟨_, rfl⟩
  rw [← hfe] at hfl ⊢
  have e2 : [D.int lo, D.int hi] ++ (fl.map D.int) = ([lo, hi] ++ fl).map D.int := by simp
  have hl2 : ([lo, hi] ++ fl).length ≤ 10 := by rw [List.length_append]; show 2 + fl.length ≤ 10; omega
  rw [evp_cat (xs := [.int lo, .int hi]) (ys := fl.map D.int) rfl rfl (by rw [List.length_map]; exact Nat.le_trans (by show 2 + fl.length ≤ 10; omega) (by decide : 10 ≤ sizeLine)), e2]
  refine ⟨[lo, hi] ++ fl, by show intsOf _ = _; exact intsOf_map _, by omega, ?_⟩
  have e3 : sortU ([lo, hi] ++ fl) = cutsN bs lo hi := by unfold cutsN; rw [hsp, hfe]
  have hcl : (cutsN bs lo hi).length ≤ 10 := by rw [← e3]; exact Nat.le_trans len_sortU hl2
  rw [e3]
  have hsum := cuts_sum (a := a) g.asc hlh
  generalize cutsN bs lo hi = ns at *
  have zn : (ns.map D.int).length ≤ sizeLine := by rw [List.length_map]; exact Nat.le_trans hcl (by decide)
  simp only [↓h_seq, ↓stp_if, ↓h_cT, ↓evp_c2, ↓evp_c1, ↓evp_cV0, ↓evp_cVs, ↓evp_cK, ↓asB_bl, ↓evp_gt, ↓evp_lt, ↓evp_le, ↓evp_ge, ↓stp_set, ↓evp_cCall, ↓evp_cCons, ↓evp_cNil, ↓evp_k1, ↓evp_k2, ↓evp_int, List.set_cons_succ, List.set_cons_zero, ↓asF_nx, ↓stp_ret, ↓asF_rt, ↓stp_skip, ↓stp_drop, ↓evp_add, ↓evp_sub, ↓evp_neg, List.length_cons, List.length_nil, if_true, ↓evp_ok, ↓evp_ret, ↓evp_cFz, ↓evp_cLstE, ↓evp_cTupE, ↓evp_cCat, ↓evp_cLc, ↓h_cItS, ↓asS_tup, ↓asS_lst, ↓asS_scr, ↓evp_cSlL, ↓evp_pno, ↓h_pso, ↓asI_int, ↓evp_cOr, ↓evp_cAnd, ↓evp_cNot, ↓evp_cIf, ↓h_chain, ↓h_cAndV, ↓h_cOrV, Bool.not_true, Bool.not_false, Bool.false_eq_true, if_false, ↓evp_cZip, evp_tail zn]
  refine .inl ⟨_, _, rfl, ?_⟩
  rw [pairs_next]
  refine ⟨by rw [List.length_map, List.length_zip]; exact Nat.le_trans (Nat.min_le_left _ _) (Nat.le_trans hcl (by decide)), ?_⟩
  refine evp_mapP pairT (fun p => .int ((p.2 - p.1) * slopeP a bs p.1)) (fun p hp => ⟨_, rfl, ?_⟩) ?_
  · show EvP (c2 kMul (c2 kSub (cV 8) (cV 7)) (cCall (fun ds S => if ds.length = 2 then m__law_slope ds S else none) (cCons (cV 0) (cCons (cV 7) cNil))) [some (plainD a bs), some (.int n), some (.lst (sp.map D.int)), some (.lst (ns.map D.int)), none, none, none, some (.int p.1), some (.int p.2)] S) _
    have gs := g.slope (n := p.1)
    have hm : mulOk (p.2 - p.1) (slopeP a bs p.1) = true := mulOk_r (by omega) (by omega)
    simp only [↓h_seq, ↓stp_if, ↓h_cT, ↓evp_c2, ↓evp_c1, ↓evp_cV0, ↓evp_cVs, ↓evp_cK, ↓asB_bl, ↓evp_gt, ↓evp_lt, ↓evp_le, ↓evp_ge, ↓stp_set, ↓evp_cCall, ↓evp_cCons, ↓evp_cNil, ↓evp_k1, ↓evp_k2, ↓evp_int, List.set_cons_succ, List.set_cons_zero, ↓asF_nx, ↓stp_ret, ↓asF_rt, ↓stp_skip, ↓stp_drop, ↓evp_add, ↓evp_sub, ↓evp_neg, List.length_cons, List.length_nil, if_true, ↓evp_ok, ↓evp_ret, ↓evp_cFz, ↓evp_cLstE, ↓evp_cTupE, ↓evp_cCat, ↓evp_cLc, ↓h_cItS, ↓asS_tup, ↓asS_lst, ↓asS_scr, ↓evp_cSlL, ↓evp_pno, ↓h_pso, ↓asI_int, ↓evp_cOr, ↓evp_cAnd, ↓evp_cNot, ↓evp_cIf, ↓h_chain, ↓h_cAndV, ↓h_cOrV, Bool.not_true, Bool.not_false, Bool.false_eq_true, if_false, e_law_slope, ↓evp_mul, hm, true_and]
  have e4 : ((ns.zip (ns.drop 1)).map fun p => D.int ((p.2 - p.1) * slopeP a bs p.1)) = (pieces (slopeP a bs) ns).map D.int := by unfold pieces; rw [List.map_map]; rfl
  rw [e4]
  simp only [↓h_seq, ↓stp_if, ↓h_cT, ↓evp_c2, ↓evp_c1, ↓evp_cV0, ↓evp_cVs, ↓evp_cK, ↓asB_bl, ↓evp_gt, ↓evp_lt, ↓evp_le, ↓evp_ge, ↓stp_set, ↓evp_cCall, ↓evp_cCons, ↓evp_cNil, ↓evp_k1, ↓evp_k2, ↓evp_int, List.set_cons_succ, List.set_cons_zero, ↓asF_nx, ↓stp_ret, ↓asF_rt, ↓stp_skip, ↓stp_drop, ↓evp_add, ↓evp_sub, ↓evp_neg, List.length_cons, List.length_nil, if_true, ↓evp_ok, ↓evp_ret, ↓evp_cFz, ↓evp_cLstE, ↓evp_cTupE, ↓evp_cCat, ↓evp_cLc, ↓h_cItS, ↓asS_tup, ↓asS_lst, ↓asS_scr, ↓evp_cSlL, ↓evp_pno, ↓h_pso, ↓asI_int, ↓evp_cOr, ↓evp_cAnd, ↓evp_cNot, ↓evp_cIf, ↓h_chain, ↓h_cAndV, ↓h_cOrV, Bool.not_true, Bool.not_false, Bool.false_eq_true, if_false, evp_sum, hsum]
  by_cases c : 0 ≤ n
  · simp only [↓h_seq, ↓stp_if, ↓h_cT, ↓evp_c2, ↓evp_c1, ↓evp_cV0, ↓evp_cVs, ↓evp_cK, ↓asB_bl, ↓evp_gt, ↓evp_lt, ↓evp_le, ↓evp_ge, ↓stp_set, ↓evp_cCall, ↓evp_cCons, ↓evp_cNil, ↓evp_k1, ↓evp_k2, ↓evp_int, List.set_cons_succ, List.set_cons_zero, ↓asF_nx, ↓stp_ret, ↓asF_rt, ↓stp_skip, ↓stp_drop, ↓evp_add, ↓evp_sub, ↓evp_neg, List.length_cons, List.length_nil, if_true, ↓evp_ok, ↓evp_ret, ↓evp_cFz, ↓evp_cLstE, ↓evp_cTupE, ↓evp_cCat, ↓evp_cLc, ↓h_cItS, ↓asS_tup, ↓asS_lst, ↓asS_scr, ↓evp_cSlL, ↓evp_pno, ↓h_pso, ↓asI_int, ↓evp_cOr, ↓evp_cAnd, ↓evp_cNot, ↓evp_cIf, ↓h_chain, ↓h_cAndV, ↓h_cOrV, Bool.not_true, Bool.not_false, Bool.false_eq_true, if_false, c, decide_true]
    refine .inl ⟨_, rfl, ?_, trivial⟩
    congr 1
    have l0 : lo = 0 := by rw [hlo]; split <;> omega
    have h0 : hi = n := by rw [hhi]; split <;> omega
    rw [l0, h0, atN_zero]; omega
  · simp only [↓h_seq, ↓stp_if, ↓h_cT, ↓evp_c2, ↓evp_c1, ↓evp_cV0, ↓evp_cVs, ↓evp_cK, ↓asB_bl, ↓evp_gt, ↓evp_lt, ↓evp_le, ↓evp_ge, ↓stp_set, ↓evp_cCall, ↓evp_cCons, ↓evp_cNil, ↓evp_k1, ↓evp_k2, ↓evp_int, List.set_cons_succ, List.set_cons_zero, ↓asF_nx, ↓stp_ret, ↓asF_rt, ↓stp_skip, ↓stp_drop, ↓evp_add, ↓evp_sub, ↓evp_neg, List.length_cons, List.length_nil, if_true, ↓evp_ok, ↓evp_ret, ↓evp_cFz, ↓evp_cLstE, ↓evp_cTupE, ↓evp_cCat, ↓evp_cLc, ↓h_cItS, ↓asS_tup, ↓asS_lst, ↓asS_scr, ↓evp_cSlL, ↓evp_pno, ↓h_pso, ↓asI_int, ↓evp_cOr, ↓evp_cAnd, ↓evp_cNot, ↓evp_cIf, ↓h_chain, ↓h_cAndV, ↓h_cOrV, Bool.not_true, Bool.not_false, Bool.false_eq_true, if_false, c, decide_false]
    refine .inl ⟨_, rfl, ?_, trivial⟩
    congr 1
    have l0 : lo = n := by rw [hlo]; split <;> omega
    have h0 : hi = 0 := by rw [hhi]; split <;> omega
    rw [l0, h0, atN_zero]; omega)
end
end K09

set_option Elab.async false
set_option linter.all false
set_option maxRecDepth 100000
set_option maxHeartbeats 400000
set_option autoImplicit false
namespace K09
open PySem PySem.Spec PyProof.Rows L2 DE
section
variable {S : Store} {Q : D → Store → Prop}
/-! equality and repr of plain data -/
theorem eqv_ints : ∀ {xs ys : List Int}, PyData.eqvAll (xs.map PyData.int) (ys.map PyData.int) = decide (xs = ys)
  | [], [] => by simp [PyData.eqvAll]
  | [], y :: ys => by simp [PyData.eqvAll]
  | x :: xs, [] => by simp [PyData.eqvAll]
  | x :: xs, y :: ys => by
    rw [List.map_cons, List.map_cons, PyData.eqvAll, eqv_ints, PyData.eqv, Bool.eq_iff_iff]
    simp
theorem eqv_pairs : ∀ {xs ys : Brs}, PyData.eqvAll (xs.map pdP) (ys.map pdP) = decide (xs = ys)
  | [], [] => by simp [PyData.eqvAll]
  | [], y :: ys => by simp [PyData.eqvAll]
  | x :: xs, [] => by simp [PyData.eqvAll]
  | (a, b) :: xs, (c, d) :: ys => by
    rw [List.map_cons, List.map_cons, PyData.eqvAll, eqv_pairs, Bool.eq_iff_iff]
    simp [pdP, PyData.eqv, PyData.eqvAll]
theorem ints_ok (ns : List Int) : PyData.canLayAll0 (ns.map PyData.int) = true ∧ PyData.depthAll (ns.map PyData.int) = 0 := by
  induction ns with
  | nil => exact ⟨by simp [PyData.canLayAll0], by simp [PyData.depthAll]⟩
  | cons x xs ih => exact ⟨by simp [PyData.canLayAll0, PyData.canLay0, ih.1], by simp [PyData.depthAll, PyData.depth, ih.2]⟩
theorem shaped_ints (ns : List Int) : SeqAt.shaped (.list (ns.map PyData.int)) = true := by
  unfold SeqAt.shaped
  simp [PyData.canLay0, PyData.depth, ints_ok ns]
theorem neInts {xs ys : List Int} : EvP (kEq true (.lst (xs.map D.int)) (.lst (ys.map D.int)) S) Q = Q (.bl (decide (xs ≠ ys))) S := by
  have h1 : ∀ ns : List Int, toPDr S (.lst (ns.map D.int)) = some (.list (ns.map PyData.int)) := fun ns => by
    show (toPDs S _).map _ = _
    rw [toPDs_ints]; rfl
  have e : PyData.eqv (.list (xs.map PyData.int)) (.list (ys.map PyData.int)) = decide (xs = ys) := by rw [PyData.eqv, eqv_ints]
  unfold kEq
  rw [h1, h1]
  simp only [shaped_ints, e, Bool.and_self, if_true, evp_ret]
  by_cases c : xs = ys <;> simp [c]
theorem shaped_int (i : Int) : SeqAt.shaped (.int i) = true := by unfold SeqAt.shaped; simp [PyData.canLay0, PyData.depth]
theorem neInt {i j : Int} : EvP (kEq true (.int i) (.int j) S) Q = Q (.bl (decide (i ≠ j))) S := by
  have e : PyData.eqv (.int i) (.int j) = decide (i = j) := by rw [PyData.eqv]; rfl
  unfold kEq
  show EvP (match some (PyData.int i), some (PyData.int j) with | some p, some q => _ | _, _ => none) Q = _
  simp only [shaped_int, e, Bool.and_self, if_true, evp_ret]
  by_cases c : i = j <;> simp [c]
theorem neBrs {xs ys : Brs} : EvP (kEq true (brsT xs) (brsT ys) S) Q = Q (.bl (decide (xs ≠ ys))) S := by
  have h1 : ∀ bs : Brs, toPDr S (brsT bs) = some (.tuple (bs.map pdP)) := fun bs => by
    show (toPDs S _).map _ = _
    rw [toPDs_pairs]; rfl
  have e : PyData.eqv (.tuple (xs.map pdP)) (.tuple (ys.map pdP)) = decide (xs = ys) := by rw [PyData.eqv, eqv_pairs]
  unfold kEq
  rw [h1, h1]
  simp only [shaped_brs, e, Bool.and_self, if_true, evp_ret]
  by_cases c : xs = ys <;> simp [c]
/-- Price's own == -/
def pdQ (a : Int) (bs : Brs) : PyData := .tuple [.int a, .tuple (bs.map pdP)]
theorem shaped_Q (a : Int) (bs : Brs) : SeqAt.shaped (pdQ a bs) = true := by
  unfold SeqAt.shaped pdQ
  have := pairs_ok bs
  simp [PyData.canLay0, PyData.canLayAll0, PyData.depth, PyData.depthAll, this.1]
  omega
theorem pe_prices {a c : Int} {bs cs : Brs} : peP (priceD a bs) (priceD c cs) = some (decide (a = c ∧ bs = cs)) := by
  have h : ∀ (a : Int) (bs : Brs), toPD [] (.tup [.int a, brsT bs]) = some (pdQ a bs) := fun a bs => by
    show (toPDs [] [.int a, .tup (bs.map pairT)]).map _ = _
    simp [toPDs, toPD, toPDs_pairs, pdQ]
  have e : PyData.eqv (pdQ a bs) (pdQ c cs) = decide (a = c ∧ bs = cs) := by
    unfold pdQ
    rw [PyData.eqv, PyData.eqvAll, PyData.eqvAll, PyData.eqvAll, PyData.eqv, PyData.eqv, eqv_pairs, Bool.eq_iff_iff]
    simp
  have l1 : ∀ (a : Int) (bs : Brs), (priceF a bs).lookup ("first" : Str) = some (.int a) := fun _ _ => rfl
  have l2 : ∀ (a : Int) (bs : Brs), (priceF a bs).lookup ("breaks" : Str) = some (brsT bs) := fun _ _ => rfl
  unfold peP priceD
  simp only [l1, l2, h, shaped_Q, e, and_self, if_true, Bool.and_self]
theorem eqoB_prices {a c : Int} {bs cs : Brs} : eqoB "Price" ics ecs tsP peP (priceD a bs) (priceD c cs) S = some (decide (a = c ∧ bs = cs)) := by
  rw [← pe_prices]
  have t : tagOf ics ecs S (priceD c cs) = some (.o "Price") := rfl
  have i : insAt S (priceD a bs) = some (("Price" : Str), priceF a bs) := rfl
  unfold eqoB
  simp only [t, i]
  exact if_pos ⟨by trivial, by decide, by decide⟩
theorem eqo_prices {a c : Int} {bs cs : Brs} : EvP (kEqO "Price" ics ecs tsP peP (priceD a bs) (priceD c cs) S) Q = Q (.bl (decide (a = c ∧ bs = cs))) S := by
  unfold kEqO
  rw [eqoB_prices]; exact propext Iff.rfl
theorem neo_prices {a c : Int} {bs cs : Brs} : EvP (kNeO "Price" ics ecs tsP peP (priceD a bs) (priceD c cs) S) Q = Q (.bl (!decide (a = c ∧ bs = cs))) S := by
  have h : kNeO "Price" ics ecs tsP peP (priceD a bs) (priceD c cs) S = DE.ret (.bl (!decide (a = c ∧ bs = cs))) S := by
    unfold kNeO
    split
    · rename_i h1 h2; cases h1
    · rw [eqoB_prices]; rfl
  rw [h]; exact propext Iff.rfl
theorem neo_list {a : Int} {bs : Brs} : EvP (kNeO "Price" ics ecs tsP peP (.lst [priceD a bs]) (.lst [priceD a bs]) S) Q = Q (.bl false) S := by
  have h : kNeO "Price" ics ecs tsP peP (.lst [priceD a bs]) (.lst [priceD a bs]) S = DE.ret (.bl false) S := by
    unfold kNeO
    simp only [eqoB_prices, and_self, decide_true]
  rw [h]; exact propext Iff.rfl
theorem eqo_plain {a c : Int} {bs cs : Brs} : EvP (kEqO "Price" ics ecs tsP peP (priceD a bs) (plainD c cs) S) Q = Q (.bl false) S := by
  have t : tagOf ics ecs S (plainD c cs) = some (.b "tuple") := rfl
  have i : insAt S (priceD a bs) = some (("Price" : Str), priceF a bs) := rfl
  have p : peP (priceD a bs) (plainD c cs) = some false := rfl
  have h : eqoB "Price" ics ecs tsP peP (priceD a bs) (plainD c cs) S = some false := by
    unfold eqoB
    simp only [t, i, p]
    exact if_pos ⟨by trivial, by decide, by decide⟩
  unfold kEqO
  rw [h]; exact propext Iff.rfl
theorem len_join (ts : List Str) : (Str.join ", " ts).length ≤ piled ts := by
  by_cases h : ts = []
  · subst h; exact Nat.le_refl _
  · have := join_length_add ts h; omega
theorem len_tuple (ts : List Str) : (tupleText ts).length ≤ piled ts + 3 := by
  unfold tupleText
  rw [strLen_append, strLen_append]
  have e1 : ((("(" : String) : Str)).length = 1 := rfl
  have e3 : (((if ts.length == 1 then ",)" else ")" : String) : Str)).length ≤ 2 := by split <;> decide
  have := len_join ts
  omega
theorem len_int {i : Int} (h : -1000000 ≤ i ∧ i ≤ 1000000) : (PyData.shown (.int i)).length ≤ 8 := by
  have e := int_text_length_le10 (a := i) (k := 7) (by decide) (by omega)
  rw [PyData.shown, PySem.ofString_length]; exact e
theorem len_pairs : ∀ {bs : Brs}, (∀ p ∈ bs, (-1000000 ≤ p.1 ∧ p.1 ≤ 1000000) ∧ -1000000 ≤ p.2 ∧ p.2 ≤ 1000000) → piled (PyData.shownAll (bs.map pdP)) ≤ 30 * bs.length
  | [], _ => by simp [PyData.shownAll, piled_nil]
  | p :: bs, h => by
    have ih := len_pairs (bs := bs) fun q hq => h q (.tail _ hq)
    have hp := h p (.head _)
    have l1 := len_int hp.1
    have l2 := len_int hp.2
    have l3 : (PyData.shown (pdP p)).length ≤ 23 := by
      unfold pdP
      rw [PyData.shown, PyData.shownAll, PyData.shownAll, PyData.shownAll]
      refine Nat.le_trans (len_tuple _) ?_
      rw [piled_cons, piled_cons, piled_nil]; omega
    rw [List.map_cons, PyData.shownAll, piled_cons, List.length_cons]; omega
theorem showable_int {i : Int} (h : -1000000 ≤ i ∧ i ≤ 1000000) : PyData.showable (.int i) = true := by
  have : i.natAbs.log2 < 1920 := by
    by_cases h0 : i.natAbs = 0
    · rw [h0]; decide
    · exact (Nat.log2_lt h0).mpr (Nat.lt_of_le_of_lt (by omega : i.natAbs ≤ 2 ^ 20) (Nat.pow_lt_pow_right (by decide) (by decide)))
  rw [PyData.showable]; exact decide_eq_true this
theorem showable_pairs : ∀ {bs : Brs}, (∀ p ∈ bs, (-1000000 ≤ p.1 ∧ p.1 ≤ 1000000) ∧ -1000000 ≤ p.2 ∧ p.2 ≤ 1000000) → PyData.showableAll (bs.map pdP) = true ∧ PyData.hasDictAll (bs.map pdP) = false
  | [], _ => by simp [PyData.showableAll, PyData.hasDictAll]
  | p :: bs, h => by
    have ih := showable_pairs (bs := bs) fun q hq => h q (.tail _ hq)
    have hp := h p (.head _)
    rw [List.map_cons]
    simp only [PyData.showableAll, PyData.hasDictAll, ih.1, ih.2, pdP, PyData.showable, PyData.hasDict]
    have s1 := showable_int hp.1
    have s2 := showable_int hp.2
    rw [PyData.showable] at s1 s2
    simp [s1, s2]
/-- the characters of a text can be -/
theorem ok_app {s t : Str} (h1 : PyData.strOk s = true) (h2 : PyData.strOk t = true) : PyData.strOk (s ++ t) = true := by
  unfold PyData.strOk at *
  show (s.cps ++ t.cps).all _ = true
  rw [Array.all_append, h1, h2]; rfl
theorem ok_of (x : String) : PyData.strOk (Str.ofString x) = true := by
  rw [Str.ofString_eq_toList]
  unfold PyData.strOk
  rw [List.all_toArray, List.all_eq_true]
  intro n hn
  obtain ⟨c, _, rfl⟩ := List.mem_map.mp hn
  have h : c.val.toNat.isValidChar := c.valid
  have : c.toNat < 0x110000 := by
    show c.val.toNat < 0x110000
    rcases h with h | h
    · omega
    · exact h.2
  exact decide_eq_true this
theorem ok_join : ∀ {ts : List Str}, (∀ t ∈ ts, PyData.strOk t = true) → PyData.strOk (Str.join ", " ts) = true
  | [], _ => by unfold PyData.strOk; simp [Str.join, Str.empty]
  | [x], h => h x (.head _)
  | x :: y :: r, h => by
    show PyData.strOk (x ++ ((", " : String) : Str) ++ Str.join ", " (y :: r)) = true
    exact ok_app (ok_app (h x (.head _)) (ok_of _)) (ok_join fun t ht => h t (.tail _ ht))
theorem ok_tuple {ts : List Str} (h : ∀ t ∈ ts, PyData.strOk t = true) : PyData.strOk (tupleText ts) = true := by
  unfold tupleText
  exact ok_app (ok_app (ok_of _) (ok_join h)) (ok_of _)
theorem ok_int (i : Int) : PyData.strOk (PyData.shown (.int i)) = true := by rw [PyData.shown]; exact ok_of _
theorem ok_pairs : ∀ {bs : Brs}, ∀ t ∈ PyData.shownAll (bs.map pdP), PyData.strOk t = true
  | [], t, h => by simp [PyData.shownAll] at h
  | p :: bs, t, h => by
    rw [List.map_cons, PyData.shownAll] at h
    rcases List.mem_cons.mp h with rfl | h
    · unfold pdP
      rw [PyData.shown, PyData.shownAll, PyData.shownAll, PyData.shownAll]
      refine ok_tuple fun t ht => ?_
      rcases List.mem_cons.mp ht with rfl | ht
      · exact ok_int _
      · rcases List.mem_cons.mp ht with rfl | ht
        · exact ok_int _
        · cases ht
    · exact ok_pairs t h
theorem repr_price {a l : Int} {bs : Brs} (g : Good a bs) (hl : -1000000 ≤ l ∧ l ≤ 1000000) : ∃ s, PyData.strOk s = true ∧ kRepr (.tup [.int a, brsT bs, .int a, .int l]) S = some (.ok (.str s) S) := by
  have h1 : toPDr S (.tup [.int a, brsT bs, .int a, .int l]) = some (.tuple [.int a, .tuple (bs.map pdP), .int a, .int l]) := by
    show (toPDs S [.int a, .tup (bs.map pairT), .int a, .int l]).map _ = _
    simp [toPDs, toPD, toPDs_pairs]
  obtain ⟨s1, s2⟩ := showable_pairs g.win
  have s3 := showable_int (i := a) (by have := g.fst; omega)
  have s4 := showable_int hl
  have c1 : PyData.showable (.tuple [.int a, .tuple (bs.map pdP), .int a, .int l]) = true := by
    rw [PyData.showable] at s3 s4
    simp only [PyData.showable, PyData.showableAll, s1, s3, s4, Bool.and_self]
  have c2 : PyData.hasDict (.tuple [.int a, .tuple (bs.map pdP), .int a, .int l]) = false := by
    simp only [PyData.hasDict, PyData.hasDictAll, s2, Bool.or_self]
  have c3 : PyData.depth (.tuple [.int a, .tuple (bs.map pdP), .int a, .int l]) ≤ 40 := by
    have := (pairs_ok bs).2
    simp only [PyData.depth, PyData.depthAll]
    omega
  have c4 : (PyData.shown (.tuple [.int a, .tuple (bs.map pdP), .int a, .int l])).length ≤ sizeLine := by
    have l1 := len_int (i := a) (by have := g.fst; omega)
    have l2 := len_int hl
    have l3 := len_pairs g.win
    have l4 : (PyData.shown (.tuple (bs.map pdP))).length ≤ 243 := by
      rw [PyData.shown]
      refine Nat.le_trans (len_tuple _) ?_
      have := g.len; omega
    rw [PyData.shown, PyData.shownAll, PyData.shownAll, PyData.shownAll, PyData.shownAll, PyData.shownAll]
    refine Nat.le_trans (len_tuple _) ?_
    rw [piled_cons, piled_cons, piled_cons, piled_cons, piled_nil]
    exact Nat.le_trans (by omega : _ ≤ 300) (by decide)
  refine ⟨PyData.shown (.tuple [.int a, .tuple (bs.map pdP), .int a, .int l]), ?_, ?_⟩
  rotate_left
  unfold kRepr
  rw [h1]
  simp only [c1, c2, decide_eq_true c3, decide_eq_true c4]
  rfl
  rw [PyData.shown, PyData.shownAll, PyData.shownAll, PyData.shownAll, PyData.shownAll, PyData.shownAll]
  refine ok_tuple fun t ht => ?_
  simp only [List.mem_cons, List.not_mem_nil, or_false] at ht
  rcases ht with rfl | rfl | rfl | rfl
  · exact ok_int _
  · rw [PyData.shown]; exact ok_tuple ok_pairs
  · exact ok_int _
  · exact ok_int _
theorem shaped_str {s : Str} (h : PyData.strOk s = true) : SeqAt.shaped (.str s) = true := by unfold SeqAt.shaped; simp [PyData.canLay0, PyData.depth, h]
theorem neStr {s : Str} (h : PyData.strOk s = true) : EvP (kEq true (.str s) (.str s) S) Q = Q (.bl false) S := by
  have e : PyData.eqv (.str s) (.str s) = true := by rw [PyData.eqv]; exact beq_self_eq_true s
  unfold kEq
  show EvP (match some (PyData.str s), some (PyData.str s) with | some p, some q => _ | _, _ => none) Q = _
  simp only [shaped_str h, e, Bool.and_self, if_true, evp_ret, Bool.not_true]
end
end K09

set_option Elab.async false
set_option linter.all false
set_option maxRecDepth 100000
set_option maxHeartbeats 1000000
set_option autoImplicit false
namespace K09
open PySem PySem.Spec PyProof.Rows L2 DE
theorem Pen.app {n b : Nat} {S T : Store} (h : Pen n b S) : Pen n b (S ++ T) := by
  obtain ⟨cells, x, r, e, h0, h1, h2⟩ := h
  have hn := (List.getElem?_eq_some_iff.mp e).1
  exact ⟨cells, x, r, by rw [List.getElem?_append_left hn]; exact e, h0, h1, h2⟩
theorem e_law_ten {S : Store} {kk T : Int} {k : Nat} (h1 : k < 100000) (h2 : kk = k) (hT : T = (10 : Int) ^ k) : m__law_ten [.int kk] S = some (.ok (.int T) S) := evp_det (p_law_ten h1 h2 hT)
section
variable {S : Store} {F : Fl → DEnv → Store → Prop} {n b : Nat} {a : Int} {bs : Brs} {x0 x1 x2 x3 x4 x5 x6 x7 x8 x9 x10 x11 x12 x13 x14 x15 x16 x17 x18 x19 : Option D}
theorem q0 (hp : Pen n b S) (hb : b < 1000) (h : ∀ a bs S', Good a bs → Pen n (b + 20) S' → F .nx [x0, some (.ref n), x2, some (plainD a bs), x4, x5, x6, x7, x8, x9, x10, x11, x12, x13, x14, x15, x16, x17, x18, x19] S') : StP (c_law_1_0 [x0, some (.ref n), x2, x3, x4, x5, x6, x7, x8, x9, x10, x11, x12, x13, x14, x15, x16, x17, x18, x19] S) F := by
  unfold c_law_1_0
  simp only [↓h_seq, ↓stp_if, ↓h_cT, ↓evp_c2, ↓evp_c1, ↓evp_cV0, ↓evp_cVs, ↓evp_cK, ↓asB_bl, ↓evp_gt, ↓evp_lt, ↓evp_le, ↓evp_ge, ↓stp_set, ↓evp_cCall, ↓evp_cCons, ↓evp_cNil, ↓evp_k1, ↓evp_k2, ↓evp_int, List.set_cons_succ, List.set_cons_zero, ↓asF_nx, ↓stp_ret, ↓asF_rt, ↓stp_skip, ↓stp_drop, ↓evp_add, ↓evp_sub, ↓evp_neg, List.length_cons, List.length_nil, if_true, ↓evp_ok, ↓evp_ret, ↓evp_cFz, ↓evp_cLstE, ↓evp_cTupE, ↓evp_cCat, ↓evp_cLc, ↓h_cItS, ↓asS_tup, ↓asS_lst, ↓asS_scr, ↓evp_cSlL, ↓evp_pno, ↓h_pso, ↓asI_int, ↓evp_cOr, ↓evp_cAnd, ↓evp_cNot, ↓evp_cIf, ↓h_chain, ↓h_cAndV, ↓h_cOrV, Bool.not_true, Bool.not_false, Bool.false_eq_true, if_false]
  refine (p_wide hp hb).mono fun d S' ⟨a, bs, e, g, p, sm⟩ => ?_
  subst e
  exact h a bs S' g p
theorem f_p0 {Q : D → Store → Prop} {S : Store} {a : Int} {bs : Brs} : EvP (kIx (plainD a bs) (.int 0) S) Q = Q (.int a) S := h_ix rfl rfl
theorem f_p1 {Q : D → Store → Prop} {S : Store} {a : Int} {bs : Brs} : EvP (kIx (plainD a bs) (.int 1) S) Q = Q (brsT bs) S := h_ix rfl rfl
theorem f_s {K : List D → Prop} {bs : Brs} : asS (brsT bs) K = K (bs.map pairT) := propext Iff.rfl
theorem f_first {Q : D → Store → Prop} {S : Store} {a : Int} {bs : Brs} : EvP (kFld ["Price"] "first" (priceD a bs) S) Q = Q (.int a) S := propext Iff.rfl
theorem f_breaks {Q : D → Store → Prop} {S : Store} {a : Int} {bs : Brs} : EvP (kFld ["Price"] "breaks" (priceD a bs) S) Q = Q (brsT bs) S := propext Iff.rfl
theorem f_low {Q : D → Store → Prop} {S : Store} {a : Int} {bs : Brs} : EvP (kFld ["Price"] "low" (priceD a bs) S) Q = Q (.int a) S := propext Iff.rfl
theorem f_high {Q : D → Store → Prop} {S : Store} {a : Int} {bs : Brs} : EvP (kFld ["Price"] "high" (priceD a bs) S) Q = Q (.int ((bs.map (·.2)).getLastD a)) S := propext Iff.rfl
theorem len_bs (g : Good a bs) : (bs.map pairT).length ≤ sizeLine := by rw [List.length_map]; exact Nat.le_trans g.len (by decide)
theorem q1 (g : Good a bs) (h : F .nx [x0, x1, x2, some (plainD a bs), some (priceD a bs), x5, x6, x7, x8, x9, x10, x11, x12, x13, x14, x15, x16, x17, x18, x19] (S ++ [none])) : StP (c_law_1_1 [x0, x1, x2, some (plainD a bs), x4, x5, x6, x7, x8, x9, x10, x11, x12, x13, x14, x15, x16, x17, x18, x19] S) F := by
  unfold c_law_1_1
  have hm : kMake "Price" m_Price___init__ [.int a, .lst (bs.map (pairK false))] S = some (.ok (priceD a bs) (S ++ [none])) := e_make (k := false) (by have := g.fst; omega) (.inr rfl) g.len g.areB
  simp only [↓h_seq, ↓stp_if, ↓h_cT, ↓evp_c2, ↓evp_c1, ↓evp_cV0, ↓evp_cVs, ↓evp_cK, ↓asB_bl, ↓evp_gt, ↓evp_lt, ↓evp_le, ↓evp_ge, ↓stp_set, ↓evp_cCall, ↓evp_cCons, ↓evp_cNil, ↓evp_k1, ↓evp_k2, ↓evp_int, List.set_cons_succ, List.set_cons_zero, ↓asF_nx, ↓stp_ret, ↓asF_rt, ↓stp_skip, ↓stp_drop, ↓evp_add, ↓evp_sub, ↓evp_neg, List.length_cons, List.length_nil, if_true, ↓evp_ok, ↓evp_ret, ↓evp_cFz, ↓evp_cLstE, ↓evp_cTupE, ↓evp_cCat, ↓evp_cLc, ↓h_cItS, ↓asS_tup, ↓asS_lst, ↓asS_scr, ↓evp_cSlL, ↓evp_pno, ↓h_pso, ↓asI_int, ↓evp_cOr, ↓evp_cAnd, ↓evp_cNot, ↓evp_cIf, ↓h_chain, ↓h_cAndV, ↓h_cOrV, Bool.not_true, Bool.not_false, Bool.false_eq_true, if_false, f_p0, f_p1, e_listed g.len, hm]
  exact h
/-- the slopes, all of them -/
theorem h_slopes {L : List D → Store → Prop} (g : Good a bs) (h : L ((a :: bs.map (·.2)).map D.int) S) :
    EvP (cCat (cFz (cLstE (cCons (c2 kIx (cV 3) (cK (.int 0))) cNil))) (cFz (cLc (cItS (c2 kIx (cV 3) (cK (.int 1)))) [17, 16] (gTp 2 (gMore (gNm 17) (gMore (gNm 16) gNone))) cYes (cV 16))) [x0, x1, x2, some (plainD a bs), x4, x5, x6, x7, x8, x9, x10, x11, x12, x13, x14, x15, x16, x17, x18, x19] S) L := by
  have z1 : 1 ≤ sizeLine := by decide
  simp only [↓h_seq, ↓stp_if, ↓h_cT, ↓evp_c2, ↓evp_c1, ↓evp_cV0, ↓evp_cVs, ↓evp_cK, ↓asB_bl, ↓evp_gt, ↓evp_lt, ↓evp_le, ↓evp_ge, ↓stp_set, ↓evp_cCall, ↓evp_cCons, ↓evp_cNil, ↓evp_k1, ↓evp_k2, ↓evp_int, List.set_cons_succ, List.set_cons_zero, ↓asF_nx, ↓stp_ret, ↓asF_rt, ↓stp_skip, ↓stp_drop, ↓evp_add, ↓evp_sub, ↓evp_neg, List.length_cons, List.length_nil, if_true, ↓evp_ok, ↓evp_ret, ↓evp_cFz, ↓evp_cLstE, ↓evp_cTupE, ↓evp_cCat, ↓evp_cLc, ↓h_cItS, ↓asS_tup, ↓asS_lst, ↓asS_scr, ↓evp_cSlL, ↓evp_pno, ↓h_pso, ↓asI_int, ↓evp_cOr, ↓evp_cAnd, ↓evp_cNot, ↓evp_cIf, ↓h_chain, ↓h_cAndV, ↓h_cOrV, Bool.not_true, Bool.not_false, Bool.false_eq_true, if_false, f_p0, f_p1, f_s, z1, len_bs g, true_and]
  refine evp_mapP pairT (fun p => .int p.2) (fun p hp => ⟨_, rfl, ?_⟩) ?_
  · simp only [List.set_cons_succ, List.set_cons_zero, wipeD]
    simp only [↓h_seq, ↓stp_if, ↓h_cT, ↓evp_c2, ↓evp_c1, ↓evp_cV0, ↓evp_cVs, ↓evp_cK, ↓asB_bl, ↓evp_gt, ↓evp_lt, ↓evp_le, ↓evp_ge, ↓stp_set, ↓evp_cCall, ↓evp_cCons, ↓evp_cNil, ↓evp_k1, ↓evp_k2, ↓evp_int, List.set_cons_succ, List.set_cons_zero, ↓asF_nx, ↓stp_ret, ↓asF_rt, ↓stp_skip, ↓stp_drop, ↓evp_add, ↓evp_sub, ↓evp_neg, List.length_cons, List.length_nil, if_true, ↓evp_ok, ↓evp_ret, ↓evp_cFz, ↓evp_cLstE, ↓evp_cTupE, ↓evp_cCat, ↓evp_cLc, ↓h_cItS, ↓asS_tup, ↓asS_lst, ↓asS_scr, ↓evp_cSlL, ↓evp_pno, ↓h_pso, ↓asI_int, ↓evp_cOr, ↓evp_cAnd, ↓evp_cNot, ↓evp_cIf, ↓h_chain, ↓h_cAndV, ↓h_cOrV, Bool.not_true, Bool.not_false, Bool.false_eq_true, if_false]
    exact ⟨trivial, trivial⟩
  · have e : (bs.map fun p => D.int p.2) = (bs.map (·.2)).map D.int := by rw [List.map_map]; rfl
    rw [e, evp_cat (xs := [.int a]) (ys := (bs.map (·.2)).map D.int) rfl rfl (by rw [List.length_map, List.length_map]; exact Nat.le_trans (by have := g.len; show 1 + bs.length ≤ 9; omega) (by decide))]
    exact h
theorem q2 (g : Good a bs) (h : F .nx [x0, x1, x2, some (plainD a bs), x4, some (.int ((bs.map (·.2)).getLastD a)), x6, x7, x8, x9, x10, x11, x12, x13, x14, x15, x16, x17, x18, x19] S) : StP (c_law_1_2 [x0, x1, x2, some (plainD a bs), x4, x5, x6, x7, x8, x9, x10, x11, x12, x13, x14, x15, x16, x17, x18, x19] S) F := by
  unfold c_law_1_2
  rw [stp_set, evp_c2, evp_cFz]
  refine h_slopes g ?_
  simp only [↓h_seq, ↓stp_if, ↓h_cT, ↓evp_c2, ↓evp_c1, ↓evp_cV0, ↓evp_cVs, ↓evp_cK, ↓asB_bl, ↓evp_gt, ↓evp_lt, ↓evp_le, ↓evp_ge, ↓stp_set, ↓evp_cCall, ↓evp_cCons, ↓evp_cNil, ↓evp_k1, ↓evp_k2, ↓evp_int, List.set_cons_succ, List.set_cons_zero, ↓asF_nx, ↓stp_ret, ↓asF_rt, ↓stp_skip, ↓stp_drop, ↓evp_add, ↓evp_sub, ↓evp_neg, List.length_cons, List.length_nil, if_true, ↓evp_ok, ↓evp_ret, ↓evp_cFz, ↓evp_cLstE, ↓evp_cTupE, ↓evp_cCat, ↓evp_cLc, ↓h_cItS, ↓asS_tup, ↓asS_lst, ↓asS_scr, ↓evp_cSlL, ↓evp_pno, ↓h_pso, ↓asI_int, ↓evp_cOr, ↓evp_cAnd, ↓evp_cNot, ↓evp_cIf, ↓h_chain, ↓h_cAndV, ↓h_cOrV, Bool.not_true, Bool.not_false, Bool.false_eq_true, if_false]
  rw [List.map_cons, h_ix (x := .lst (.int a :: (bs.map (·.2)).map D.int)) rfl lastI, getLastD_map D.int]
  exact h
theorem last_ok (g : Good a bs) : -1000000 ≤ (bs.map (·.2)).getLastD a ∧ (bs.map (·.2)).getLastD a ≤ 1000000 := by
  rcases List.eq_nil_or_concat bs with rfl | ⟨xs, x, rfl⟩
  · have := g.fst
    show -1000000 ≤ a ∧ a ≤ 1000000
    omega
  · have := (g.win x (by simp)).2
    simpa using this
theorem q3 (g : Good a bs) (h : F .nx [x0, x1, x2, some (plainD a bs), some (priceD a bs), some (.int ((bs.map (·.2)).getLastD a)), x6, x7, x8, x9, x10, x11, x12, x13, x14, x15, x16, x17, x18, x19] S) : StP (c_law_1_3 [x0, x1, x2, some (plainD a bs), some (priceD a bs), some (.int ((bs.map (·.2)).getLastD a)), x6, x7, x8, x9, x10, x11, x12, x13, x14, x15, x16, x17, x18, x19] S) F := by
  unfold c_law_1_3
  obtain ⟨s, hs, e⟩ := repr_price (S := S) g (last_ok g)
  have z4 : 4 ≤ sizeLine := by decide
  simp only [↓h_seq, ↓stp_if, ↓h_cT, ↓evp_c2, ↓evp_c1, ↓evp_cV0, ↓evp_cVs, ↓evp_cK, ↓asB_bl, ↓evp_gt, ↓evp_lt, ↓evp_le, ↓evp_ge, ↓stp_set, ↓evp_cCall, ↓evp_cCons, ↓evp_cNil, ↓evp_k1, ↓evp_k2, ↓evp_int, List.set_cons_succ, List.set_cons_zero, ↓asF_nx, ↓stp_ret, ↓asF_rt, ↓stp_skip, ↓stp_drop, ↓evp_add, ↓evp_sub, ↓evp_neg, List.length_cons, List.length_nil, if_true, ↓evp_ok, ↓evp_ret, ↓evp_cFz, ↓evp_cLstE, ↓evp_cTupE, ↓evp_cCat, ↓evp_cLc, ↓h_cItS, ↓asS_tup, ↓asS_lst, ↓asS_scr, ↓evp_cSlL, ↓evp_pno, ↓h_pso, ↓asI_int, ↓evp_cOr, ↓evp_cAnd, ↓evp_cNot, ↓evp_cIf, ↓h_chain, ↓h_cAndV, ↓h_cOrV, Bool.not_true, Bool.not_false, Bool.false_eq_true, if_false, f_first, f_breaks, f_low, f_high, f_p0, f_p1, z4, true_and, e, neStr hs]
  exact h
theorem lsts_map {α : Type} {S : Store} (f : α → List D) : ∀ {xs : List α}, lstsD S (xs.map fun x => .lst (f x)) = some (xs.map f)
  | [] => rfl
  | x :: xs => by rw [List.map_cons, lstsD, lsts_map f]; rfl
theorem near_len {α : Type} {f : Int → α} : ∀ bs : Brs, ((bs.map fun p : Int × Int => [f (p.1 - 1), f p.1, f (p.1 + 1)]).map List.length).sum = 3 * bs.length
  | [] => rfl
  | p :: bs => by
    have ih := near_len (f := f) bs
    rw [List.map_cons, List.map_cons, List.sum_cons, ih]
    show 3 + 3 * bs.length = 3 * (bs.length + 1)
    omega
/-- the numbers near the breaks -/
def nearN (bs : Brs) : List Int := [0, 1, -1] ++ (bs.map fun p : Int × Int => [p.1 - 1, p.1, p.1 + 1]).flatten
theorem nearN_len (g : Good a bs) : (nearN bs).length ≤ 27 := by
  unfold nearN
  have e := near_len (f := fun x : Int => x) bs
  rw [List.length_append, List.length_flatten, e]
  have := g.len
  show 3 + _ ≤ _
  omega
theorem q4 (g : Good a bs) (hp : Pen n b S) (hb : b < 1000) (h : ∀ (ns : List Int) S', ns.length ≤ 32 → Pen n (b + 1) S' → F .nx [x0, some (.ref n), x2, some (plainD a bs), x4, x5, some (.lst (ns.map D.int)), x7, x8, x9, x10, x11, x12, x13, x14, x15, x16, x17, x18, x19] S') : StP (c_law_1_4 [x0, some (.ref n), x2, some (plainD a bs), x4, x5, x6, x7, x8, x9, x10, x11, x12, x13, x14, x15, x16, x17, x18, x19] S) F := by
  unfold c_law_1_4
  obtain ⟨k, hk⟩ : ∃ k : Nat, k = 4400 := ⟨_, rfl⟩
  obtain ⟨T, hT⟩ : ∃ T, T = (10 : Int) ^ k := ⟨_, rfl⟩
  have et : ∀ S, m__law_ten [.int 4400] S = some (.ok (.int T) S) := fun S => e_law_ten (k := k) (by omega) (by omega) hT
  clear hT hk
  obtain ⟨U, hU⟩ : ∃ U, U = (10 : Int) ^ 40 := ⟨_, rfl⟩
  have p40 : ∀ {Q : D → Store → Prop} {S : Store}, EvP (kPow (.int 10) (.int 40) S) Q = Q (.int U) S := fun {Q S} => by
    have e : (10 : Int) ^ (40 : Int).toNat = U := by rw [hU]; exact congrArg _ (by decide)
    rw [evp_pow, e]; exact propext ⟨fun h => h.2, fun h => ⟨by decide, h⟩⟩
  clear hU
  have p6 : ∀ {Q : D → Store → Prop} {S : Store}, EvP (kPow (.int 10) (.int 6) S) Q = Q (.int 1000000) S := fun {Q S} => by
    rw [evp_pow]; exact propext ⟨fun h => h.2, fun h => ⟨by decide, h⟩⟩
  have z3 : 3 ≤ sizeLine := by decide
  have z5 : 5 ≤ sizeLine := by decide
  simp only [↓h_seq, ↓stp_if, ↓h_cT, ↓evp_c2, ↓evp_c1, ↓evp_cV0, ↓evp_cVs, ↓evp_cK, ↓asB_bl, ↓evp_gt, ↓evp_lt, ↓evp_le, ↓evp_ge, ↓stp_set, ↓evp_cCall, ↓evp_cCons, ↓evp_cNil, ↓evp_k1, ↓evp_k2, ↓evp_int, List.set_cons_succ, List.set_cons_zero, ↓asF_nx, ↓stp_ret, ↓asF_rt, ↓stp_skip, ↓stp_drop, ↓evp_add, ↓evp_sub, ↓evp_neg, List.length_cons, List.length_nil, if_true, ↓evp_ok, ↓evp_ret, ↓evp_cFz, ↓evp_cLstE, ↓evp_cTupE, ↓evp_cCat, ↓evp_cLc, ↓h_cItS, ↓asS_tup, ↓asS_lst, ↓asS_scr, ↓evp_cSlL, ↓evp_pno, ↓h_pso, ↓asI_int, ↓evp_cOr, ↓evp_cAnd, ↓evp_cNot, ↓evp_cIf, ↓h_chain, ↓h_cAndV, ↓h_cOrV, Bool.not_true, Bool.not_false, Bool.false_eq_true, if_false, f_p1, f_s, len_bs g, true_and]
  refine evp_mapP pairT (fun p => .lst [.int (p.1 - 1), .int p.1, .int (p.1 + 1)]) (fun p hp => ⟨_, rfl, ?_⟩) ?_
  · simp only [List.set_cons_succ, List.set_cons_zero, wipeD]
    simp only [↓h_seq, ↓stp_if, ↓h_cT, ↓evp_c2, ↓evp_c1, ↓evp_cV0, ↓evp_cVs, ↓evp_cK, ↓asB_bl, ↓evp_gt, ↓evp_lt, ↓evp_le, ↓evp_ge, ↓stp_set, ↓evp_cCall, ↓evp_cCons, ↓evp_cNil, ↓evp_k1, ↓evp_k2, ↓evp_int, List.set_cons_succ, List.set_cons_zero, ↓asF_nx, ↓stp_ret, ↓asF_rt, ↓stp_skip, ↓stp_drop, ↓evp_add, ↓evp_sub, ↓evp_neg, List.length_cons, List.length_nil, if_true, ↓evp_ok, ↓evp_ret, ↓evp_cFz, ↓evp_cLstE, ↓evp_cTupE, ↓evp_cCat, ↓evp_cLc, ↓h_cItS, ↓asS_tup, ↓asS_lst, ↓asS_scr, ↓evp_cSlL, ↓evp_pno, ↓h_pso, ↓asI_int, ↓evp_cOr, ↓evp_cAnd, ↓evp_cNot, ↓evp_cIf, ↓h_chain, ↓h_cAndV, ↓h_cOrV, Bool.not_true, Bool.not_false, Bool.false_eq_true, if_false, z3, true_and]
  simp only [z3, true_and]
  have hk' : ∀ {Q : D → Store → Prop}, EvP (kSumL (.lst (bs.map fun p => .lst [.int (p.1 - 1), .int p.1, .int (p.1 + 1)])) (.lst [.int 0, .int 1, .int (-1)]) S) Q = Q (.lst ((nearN bs).map D.int)) S := by
    intro Q
    have e1 : lstsD S (bs.map fun p => D.lst [.int (p.1 - 1), .int p.1, .int (p.1 + 1)]) = some (bs.map fun p => [.int (p.1 - 1), .int p.1, .int (p.1 + 1)]) := lsts_map _
    have e2 := near_len (f := D.int) bs
    have e3 : D.int 0 :: [.int 1, .int (-1)] ++ (bs.map fun p => [D.int (p.1 - 1), .int p.1, .int (p.1 + 1)]).flatten = (nearN bs).map D.int := by
      unfold nearN; rw [List.map_append, List.map_flatten, List.map_map]; rfl
    unfold kSumL
    simp only [lstD, Option.bind_some, e1, e2]
    rw [if_pos (by have := g.len; show 2 + 1 + _ ≤ 1000; omega), e3]
    exact propext Iff.rfl
  rw [hk']
  simp only [p6, p40, et]
  refine (draw_ok hp (by omega) (by omega) (by omega)).mono fun d S3 ⟨r, hr, r0, r1, hp3, sm3⟩ => ?_
  subst hr
  simp only [↓h_seq, ↓stp_if, ↓h_cT, ↓evp_c2, ↓evp_c1, ↓evp_cV0, ↓evp_cVs, ↓evp_cK, ↓asB_bl, ↓evp_gt, ↓evp_lt, ↓evp_le, ↓evp_ge, ↓stp_set, ↓evp_cCall, ↓evp_cCons, ↓evp_cNil, ↓evp_k1, ↓evp_k2, ↓evp_int, List.set_cons_succ, List.set_cons_zero, ↓asF_nx, ↓stp_ret, ↓asF_rt, ↓stp_skip, ↓stp_drop, ↓evp_add, ↓evp_sub, ↓evp_neg, List.length_cons, List.length_nil, if_true, ↓evp_ok, ↓evp_ret, ↓evp_cFz, ↓evp_cLstE, ↓evp_cTupE, ↓evp_cCat, ↓evp_cLc, ↓h_cItS, ↓asS_tup, ↓asS_lst, ↓asS_scr, ↓evp_cSlL, ↓evp_pno, ↓h_pso, ↓asI_int, ↓evp_cOr, ↓evp_cAnd, ↓evp_cNot, ↓evp_cIf, ↓h_chain, ↓h_cAndV, ↓h_cOrV, Bool.not_true, Bool.not_false, Bool.false_eq_true, if_false, z5, true_and]
  have e4 : [D.int (r - 30), .int (1000000 + 5), .int (-1000000 - 5), .int U, .int (0 - T)] = [r - 30, 1000000 + 5, -1000000 - 5, U, 0 - T].map D.int := rfl
  have hl := nearN_len g
  rw [e4, evp_cat (xs := (nearN bs).map D.int) (ys := [r - 30, 1000000 + 5, -1000000 - 5, U, 0 - T].map D.int) rfl rfl (by rw [List.length_map, List.length_map]; exact Nat.le_trans (by show _ + 5 ≤ 32; omega) (by decide)), ← List.map_append]
  exact h _ _ (by rw [List.length_append]; show _ + 5 ≤ 32; omega) hp3
theorem mth {nm : Str} {m : Md} {c : C (List D)} {Q : D → Store → Prop} (hn : (priceF a bs).lookup nm = none) : EvP (cMeth "Price" nm 1 m (cV 4) c [x0, x1, x2, x3, some (priceD a bs), x5, x6, x7, x8, x9, x10, x11, x12, x13, x14, x15, x16, x17, x18, x19] S) Q = EvP (c [x0, x1, x2, x3, some (priceD a bs), x5, x6, x7, x8, x9, x10, x11, x12, x13, x14, x15, x16, x17, x18, x19] S) fun ds S' => ds.length = 1 ∧ EvP (m (priceD a bs :: ds) S') Q := by
  rw [h_meth]
  simp only [↓h_seq, ↓stp_if, ↓h_cT, ↓evp_c2, ↓evp_c1, ↓evp_cV0, ↓evp_cVs, ↓evp_cK, ↓asB_bl, ↓evp_gt, ↓evp_lt, ↓evp_le, ↓evp_ge, ↓stp_set, ↓evp_cCall, ↓evp_cCons, ↓evp_cNil, ↓evp_k1, ↓evp_k2, ↓evp_int, List.set_cons_succ, List.set_cons_zero, ↓asF_nx, ↓stp_ret, ↓asF_rt, ↓stp_skip, ↓stp_drop, ↓evp_add, ↓evp_sub, ↓evp_neg, List.length_cons, List.length_nil, if_true, ↓evp_ok, ↓evp_ret, ↓evp_cFz, ↓evp_cLstE, ↓evp_cTupE, ↓evp_cCat, ↓evp_cLc, ↓h_cItS, ↓asS_tup, ↓asS_lst, ↓asS_scr, ↓evp_cSlL, ↓evp_pno, ↓h_pso, ↓asI_int, ↓evp_cOr, ↓evp_cAnd, ↓evp_cNot, ↓evp_cIf, ↓h_chain, ↓h_cAndV, ↓h_cOrV, Bool.not_true, Bool.not_false, Bool.false_eq_true, if_false]
  exact propext ⟨fun ⟨fs, e, e2, h⟩ => h, fun h => ⟨_, rfl, hn, h⟩⟩
theorem mthK {nm : Str} {m : Md} {c : C (List D)} {Q : D → Store → Prop} (hn : (priceF a bs).lookup nm = none) : EvP (cMethK "Price" nm 1 [0] m (cV 4) c [x0, x1, x2, x3, some (priceD a bs), x5, x6, x7, x8, x9, x10, x11, x12, x13, x14, x15, x16, x17, x18, x19] S) Q = EvP (c [x0, x1, x2, x3, some (priceD a bs), x5, x6, x7, x8, x9, x10, x11, x12, x13, x14, x15, x16, x17, x18, x19] S) fun ds S' => ds.length = 1 ∧ EvP (m (priceD a bs :: arD [0] ds) S') Q := by
  rw [h_methK]
  simp only [↓h_seq, ↓stp_if, ↓h_cT, ↓evp_c2, ↓evp_c1, ↓evp_cV0, ↓evp_cVs, ↓evp_cK, ↓asB_bl, ↓evp_gt, ↓evp_lt, ↓evp_le, ↓evp_ge, ↓stp_set, ↓evp_cCall, ↓evp_cCons, ↓evp_cNil, ↓evp_k1, ↓evp_k2, ↓evp_int, List.set_cons_succ, List.set_cons_zero, ↓asF_nx, ↓stp_ret, ↓asF_rt, ↓stp_skip, ↓stp_drop, ↓evp_add, ↓evp_sub, ↓evp_neg, List.length_cons, List.length_nil, if_true, ↓evp_ok, ↓evp_ret, ↓evp_cFz, ↓evp_cLstE, ↓evp_cTupE, ↓evp_cCat, ↓evp_cLc, ↓h_cItS, ↓asS_tup, ↓asS_lst, ↓asS_scr, ↓evp_cSlL, ↓evp_pno, ↓h_pso, ↓asI_int, ↓evp_cOr, ↓evp_cAnd, ↓evp_cNot, ↓evp_cIf, ↓h_chain, ↓h_cAndV, ↓h_cOrV, Bool.not_true, Bool.not_false, Bool.false_eq_true, if_false]
  exact propext ⟨fun ⟨fs, e, e2, h⟩ => h, fun h => ⟨_, rfl, hn, h⟩⟩
theorem arD0 {x : D} : arD [0] [x] = [x] := rfl
theorem q5 {ns : List Int} (g : Good a bs) (h : ∀ x7, F .nx [x0, x1, x2, some (plainD a bs), some (priceD a bs), x5, some (.lst (ns.map D.int)), x7, x8, x9, x10, x11, x12, x13, x14, x15, x16, x17, x18, x19] S) : StP (c_law_1_5 [x0, x1, x2, some (plainD a bs), some (priceD a bs), x5, some (.lst (ns.map D.int)), x7, x8, x9, x10, x11, x12, x13, x14, x15, x16, x17, x18, x19] S) F := by
  unfold c_law_1_5
  rw [stp_for]
  simp only [↓h_seq, ↓stp_if, ↓h_cT, ↓evp_c2, ↓evp_c1, ↓evp_cV0, ↓evp_cVs, ↓evp_cK, ↓asB_bl, ↓evp_gt, ↓evp_lt, ↓evp_le, ↓evp_ge, ↓stp_set, ↓evp_cCall, ↓evp_cCons, ↓evp_cNil, ↓evp_k1, ↓evp_k2, ↓evp_int, List.set_cons_succ, List.set_cons_zero, ↓asF_nx, ↓stp_ret, ↓asF_rt, ↓stp_skip, ↓stp_drop, ↓evp_add, ↓evp_sub, ↓evp_neg, List.length_cons, List.length_nil, if_true, ↓evp_ok, ↓evp_ret, ↓evp_cFz, ↓evp_cLstE, ↓evp_cTupE, ↓evp_cCat, ↓evp_cLc, ↓h_cItS, ↓asS_tup, ↓asS_lst, ↓asS_scr, ↓evp_cSlL, ↓evp_pno, ↓h_pso, ↓asI_int, ↓evp_cOr, ↓evp_cAnd, ↓evp_cNot, ↓evp_cIf, ↓h_chain, ↓h_cAndV, ↓h_cOrV, Bool.not_true, Bool.not_false, Bool.false_eq_true, if_false]
  refine stp_forL (I := fun _ ρ S' => (∃ x7, ρ = [x0, x1, x2, some (plainD a bs), some (priceD a bs), x5, some (.lst (ns.map D.int)), x7, x8, x9, x10, x11, x12, x13, x14, x15, x16, x17, x18, x19]) ∧ S' = S) ns.length (by rw [List.length_map]) (fun i d ρ S' hd hI => ?_) ⟨⟨_, rfl⟩, rfl⟩ fun ρ S' hI => ?_
  · obtain ⟨⟨x7, rfl⟩, rfl⟩ := hI
    rw [List.getElem?_map] at hd
    obtain ⟨v, hv, rfl⟩ := Option.map_eq_some_iff.mp hd
    refine ⟨_, _, rfl, ?_⟩
    simp only [List.set_cons_succ, List.set_cons_zero, wipeD]
    have e1 : decide (slopeP a bs v ≠ slopeP a bs v) = false := by simp
    have e2 : decide (atN a bs v ≠ atN a bs v) = false := by simp
    have e3 : decide (atN a bs (v + 1) - atN a bs v ≠ slopeP a bs v) = false := by rw [atN_step g.asc]; exact e1
    have e4 : decide (slopeP a bs (v + 1) < slopeP a bs v) = false := by
      have := slopeP_mono (n := v) (m := v + 1) (by omega) g.asc g.up
      exact decide_eq_false (by omega)
    simp only [↓h_seq, ↓stp_if, ↓h_cT, ↓evp_c2, ↓evp_c1, ↓evp_cV0, ↓evp_cVs, ↓evp_cK, ↓asB_bl, ↓evp_gt, ↓evp_lt, ↓evp_le, ↓evp_ge, ↓stp_set, ↓evp_cCall, ↓evp_cCons, ↓evp_cNil, ↓evp_k1, ↓evp_k2, ↓evp_int, List.set_cons_succ, List.set_cons_zero, ↓asF_nx, ↓stp_ret, ↓asF_rt, ↓stp_skip, ↓stp_drop, ↓evp_add, ↓evp_sub, ↓evp_neg, List.length_cons, List.length_nil, if_true, ↓evp_ok, ↓evp_ret, ↓evp_cFz, ↓evp_cLstE, ↓evp_cTupE, ↓evp_cCat, ↓evp_cLc, ↓h_cItS, ↓asS_tup, ↓asS_lst, ↓asS_scr, ↓evp_cSlL, ↓evp_pno, ↓h_pso, ↓asI_int, ↓evp_cOr, ↓evp_cAnd, ↓evp_cNot, ↓evp_cIf, ↓h_chain, ↓h_cAndV, ↓h_cOrV, Bool.not_true, Bool.not_false, Bool.false_eq_true, if_false, mth (nm := "slope") rfl, mth (nm := "at") rfl, mthK (nm := "slope") rfl, mthK (nm := "at") rfl, true_and, arD0, e_slope g.len, e_at g, e_law_slope, e_law_far_at g, neInt, e1, e2, e3, e4]
    exact ⟨.inl trivial, ⟨_, rfl⟩, trivial⟩
  · obtain ⟨⟨x7, rfl⟩, rfl⟩ := hI
    exact h x7
end
end K09

set_option Elab.async false
set_option linter.all false
set_option maxRecDepth 100000
set_option maxHeartbeats 1000000
set_option autoImplicit false
namespace K09
open PySem PySem.Spec PyProof.Rows L2 DE
theorem heard_ok {c : C D} {ρ : DEnv} {S S' : Store} {d : D} {Q : D → Store → Prop} (h : c ρ S = some (.ok d S')) : EvP (cHeard c ρ S) Q = Q (.lst [d]) S' := by
  unfold cHeard; rw [h]; exact propext Iff.rfl
theorem heard_ex {c : C D} {ρ : DEnv} {S S' : Store} {x : Ex} {d : D} {Q : D → Store → Prop} (h : c ρ S = some (.ex x S')) (hx : heardX x.cls x.fs = some d) : EvP (cHeard c ρ S) Q = Q d S' := by
  unfold cHeard; rw [h]; simp only [hx]; exact propext Iff.rfl
theorem atI0 {d : D} {ds : List D} : L2.atI (d :: ds) 0 = some d := by
  unfold L2.atI L2.ixN
  rw [if_pos (by decide), if_pos (by rw [List.length_cons]; omega)]
  rfl
theorem meth_eq {cl nm : Str} {n : Nat} {m : Md} {o : C D} {c : C (List D)} {ρ : DEnv} {S : Store} {x : D} {fs : List (Str × D)} {ds : List D} (ho : o ρ S = some (.ok x S)) (hi : insAt S x = some (cl, fs)) (hn : fs.lookup nm = none) (hc : c ρ S = some (.ok ds S)) (hl : ds.length = n) :
    cMeth cl nm n m o c ρ S = m (x :: ds) S := by
  unfold cMeth thenC
  simp only [ho, bindO, hi, hn, and_self, if_true, hc]
  rw [if_pos hl]
section
variable {S : Store} {F : Fl → DEnv → Store → Prop} {n b : Nat} {a dv : Int} {bs : Brs} {x0 x1 x2 x3 x4 x5 x6 x7 x8 x9 x10 x11 x12 x13 x14 x15 x16 x17 x18 x19 : Option D}
theorem q6 {ns : List Int} (hl : ns.length ≤ 32) (h : ∀ ms : List Int, ms.length ≤ 32 → (∀ v ∈ ms, -60 < v ∧ v < 60) → F .nx [x0, x1, x2, x3, x4, x5, some (.lst (ns.map D.int)), x7, some (.lst (ms.map D.int)), x9, x10, x11, x12, x13, x14, x15, x16, x17, x18, x19] S) : StP (c_law_1_6 [x0, x1, x2, x3, x4, x5, some (.lst (ns.map D.int)), x7, x8, x9, x10, x11, x12, x13, x14, x15, x16, x17, x18, x19] S) F := by
  unfold c_law_1_6
  have z : (ns.map D.int).length ≤ sizeLine := by rw [List.length_map]; exact Nat.le_trans hl (by decide)
  simp only [↓h_seq, ↓stp_if, ↓h_cT, ↓evp_c2, ↓evp_c1, ↓evp_cV0, ↓evp_cVs, ↓evp_cK, ↓asB_bl, ↓evp_gt, ↓evp_lt, ↓evp_le, ↓evp_ge, ↓stp_set, ↓evp_cCall, ↓evp_cCons, ↓evp_cNil, ↓evp_k1, ↓evp_k2, ↓evp_int, List.set_cons_succ, List.set_cons_zero, ↓asF_nx, ↓stp_ret, ↓asF_rt, ↓stp_skip, ↓stp_drop, ↓evp_add, ↓evp_sub, ↓evp_neg, List.length_cons, List.length_nil, if_true, ↓evp_ok, ↓evp_ret, ↓evp_cFz, ↓evp_cLstE, ↓evp_cTupE, ↓evp_cCat, ↓evp_cLc, ↓h_cItS, ↓asS_tup, ↓asS_lst, ↓asS_scr, ↓evp_cSlL, ↓evp_pno, ↓h_pso, ↓asI_int, ↓evp_cOr, ↓evp_cAnd, ↓evp_cNot, ↓evp_cIf, ↓h_chain, ↓h_cAndV, ↓h_cOrV, Bool.not_true, Bool.not_false, Bool.false_eq_true, if_false, z, true_and]
  refine evp_filtP D.int D.int (fun v => decide (-60 < v ∧ v < 60)) (fun v hv => ⟨_, rfl, ?_⟩) ?_
  · simp only [List.set_cons_succ, List.set_cons_zero, wipeD]
    simp only [↓h_seq, ↓stp_if, ↓h_cT, ↓evp_c2, ↓evp_c1, ↓evp_cV0, ↓evp_cVs, ↓evp_cK, ↓asB_bl, ↓evp_gt, ↓evp_lt, ↓evp_le, ↓evp_ge, ↓stp_set, ↓evp_cCall, ↓evp_cCons, ↓evp_cNil, ↓evp_k1, ↓evp_k2, ↓evp_int, List.set_cons_succ, List.set_cons_zero, ↓asF_nx, ↓stp_ret, ↓asF_rt, ↓stp_skip, ↓stp_drop, ↓evp_add, ↓evp_sub, ↓evp_neg, List.length_cons, List.length_nil, if_true, ↓evp_ok, ↓evp_ret, ↓evp_cFz, ↓evp_cLstE, ↓evp_cTupE, ↓evp_cCat, ↓evp_cLc, ↓h_cItS, ↓asS_tup, ↓asS_lst, ↓asS_scr, ↓evp_cSlL, ↓evp_pno, ↓h_pso, ↓asI_int, ↓evp_cOr, ↓evp_cAnd, ↓evp_cNot, ↓evp_cIf, ↓h_chain, ↓h_cAndV, ↓h_cOrV, Bool.not_true, Bool.not_false, Bool.false_eq_true, if_false, ↓evp_abs]
    refine ⟨?_, trivial, fun _ => ⟨trivial, trivial⟩⟩
    rw [Bool.eq_iff_iff, decide_eq_true_iff, decide_eq_true_iff]
    split <;> omega
  · refine h _ (Nat.le_trans (List.length_filter_le _ _) hl) fun v hv => ?_
    exact of_decide_eq_true (List.mem_filter.mp hv).2
theorem q7 {ms : List Int} (g : Good a bs) (hl : ms.length ≤ 32) (hm : ∀ v ∈ ms, -60 < v ∧ v < 60) (h : F .nx [x0, x1, x2, some (plainD a bs), some (priceD a bs), x5, x6, x7, some (.lst (ms.map D.int)), x9, x10, x11, x12, x13, x14, x15, x16, x17, x18, x19] S) : StP (c_law_1_7 [x0, x1, x2, some (plainD a bs), some (priceD a bs), x5, x6, x7, some (.lst (ms.map D.int)), x9, x10, x11, x12, x13, x14, x15, x16, x17, x18, x19] S) F := by
  unfold c_law_1_7
  have z : (ms.map D.int).length ≤ sizeLine := by rw [List.length_map]; exact Nat.le_trans hl (by decide)
  simp only [↓h_seq, ↓stp_if, ↓h_cT, ↓evp_c2, ↓evp_c1, ↓evp_cV0, ↓evp_cVs, ↓evp_cK, ↓asB_bl, ↓evp_gt, ↓evp_lt, ↓evp_le, ↓evp_ge, ↓stp_set, ↓evp_cCall, ↓evp_cCons, ↓evp_cNil, ↓evp_k1, ↓evp_k2, ↓evp_int, List.set_cons_succ, List.set_cons_zero, ↓asF_nx, ↓stp_ret, ↓asF_rt, ↓stp_skip, ↓stp_drop, ↓evp_add, ↓evp_sub, ↓evp_neg, List.length_cons, List.length_nil, if_true, ↓evp_ok, ↓evp_ret, ↓evp_cFz, ↓evp_cLstE, ↓evp_cTupE, ↓evp_cCat, ↓evp_cLc, ↓h_cItS, ↓asS_tup, ↓asS_lst, ↓asS_scr, ↓evp_cSlL, ↓evp_pno, ↓h_pso, ↓asI_int, ↓evp_cOr, ↓evp_cAnd, ↓evp_cNot, ↓evp_cIf, ↓h_chain, ↓h_cAndV, ↓h_cOrV, Bool.not_true, Bool.not_false, Bool.false_eq_true, if_false, z, true_and]
  have e : (ms.map fun v => D.int (atN a bs v)) = (ms.map (atN a bs)).map D.int := by rw [List.map_map]; rfl
  refine evp_mapP D.int (fun v => .int (atN a bs v)) (fun v hv => ⟨_, rfl, ?_⟩) ?_
  · simp only [List.set_cons_succ, List.set_cons_zero, wipeD]
    rw [mth (nm := "at") rfl]
    simp only [↓h_seq, ↓stp_if, ↓h_cT, ↓evp_c2, ↓evp_c1, ↓evp_cV0, ↓evp_cVs, ↓evp_cK, ↓asB_bl, ↓evp_gt, ↓evp_lt, ↓evp_le, ↓evp_ge, ↓stp_set, ↓evp_cCall, ↓evp_cCons, ↓evp_cNil, ↓evp_k1, ↓evp_k2, ↓evp_int, List.set_cons_succ, List.set_cons_zero, ↓asF_nx, ↓stp_ret, ↓asF_rt, ↓stp_skip, ↓stp_drop, ↓evp_add, ↓evp_sub, ↓evp_neg, List.length_cons, List.length_nil, if_true, ↓evp_ok, ↓evp_ret, ↓evp_cFz, ↓evp_cLstE, ↓evp_cTupE, ↓evp_cCat, ↓evp_cLc, ↓h_cItS, ↓asS_tup, ↓asS_lst, ↓asS_scr, ↓evp_cSlL, ↓evp_pno, ↓h_pso, ↓asI_int, ↓evp_cOr, ↓evp_cAnd, ↓evp_cNot, ↓evp_cIf, ↓h_chain, ↓h_cAndV, ↓h_cOrV, Bool.not_true, Bool.not_false, Bool.false_eq_true, if_false, e_at g, true_and]
  refine evp_mapP D.int (fun v => .int (atN a bs v)) (fun v hv => ⟨_, rfl, ?_⟩) ?_
  · simp only [List.set_cons_succ, List.set_cons_zero, wipeD]
    have := hm v hv
    simp only [↓h_seq, ↓stp_if, ↓h_cT, ↓evp_c2, ↓evp_c1, ↓evp_cV0, ↓evp_cVs, ↓evp_cK, ↓asB_bl, ↓evp_gt, ↓evp_lt, ↓evp_le, ↓evp_ge, ↓stp_set, ↓evp_cCall, ↓evp_cCons, ↓evp_cNil, ↓evp_k1, ↓evp_k2, ↓evp_int, List.set_cons_succ, List.set_cons_zero, ↓asF_nx, ↓stp_ret, ↓asF_rt, ↓stp_skip, ↓stp_drop, ↓evp_add, ↓evp_sub, ↓evp_neg, List.length_cons, List.length_nil, if_true, ↓evp_ok, ↓evp_ret, ↓evp_cFz, ↓evp_cLstE, ↓evp_cTupE, ↓evp_cCat, ↓evp_cLc, ↓h_cItS, ↓asS_tup, ↓asS_lst, ↓asS_scr, ↓evp_cSlL, ↓evp_pno, ↓h_pso, ↓asI_int, ↓evp_cOr, ↓evp_cAnd, ↓evp_cNot, ↓evp_cIf, ↓h_chain, ↓h_cAndV, ↓h_cOrV, Bool.not_true, Bool.not_false, Bool.false_eq_true, if_false, e_law_at g (n := v) (by omega)]
    exact ⟨trivial, trivial⟩
  have e1 : decide (ms.map (atN a bs) ≠ ms.map (atN a bs)) = false := by simp
  rw [e]
  simp only [neInts, e1, ↓h_seq, ↓stp_if, ↓h_cT, ↓evp_c2, ↓evp_c1, ↓evp_cV0, ↓evp_cVs, ↓evp_cK, ↓asB_bl, ↓evp_gt, ↓evp_lt, ↓evp_le, ↓evp_ge, ↓stp_set, ↓evp_cCall, ↓evp_cCons, ↓evp_cNil, ↓evp_k1, ↓evp_k2, ↓evp_int, List.set_cons_succ, List.set_cons_zero, ↓asF_nx, ↓stp_ret, ↓asF_rt, ↓stp_skip, ↓stp_drop, ↓evp_add, ↓evp_sub, ↓evp_neg, List.length_cons, List.length_nil, if_true, ↓evp_ok, ↓evp_ret, ↓evp_cFz, ↓evp_cLstE, ↓evp_cTupE, ↓evp_cCat, ↓evp_cLc, ↓h_cItS, ↓asS_tup, ↓asS_lst, ↓asS_scr, ↓evp_cSlL, ↓evp_pno, ↓h_pso, ↓asI_int, ↓evp_cOr, ↓evp_cAnd, ↓evp_cNot, ↓evp_cIf, ↓h_chain, ↓h_cAndV, ↓h_cOrV, Bool.not_true, Bool.not_false, Bool.false_eq_true, if_false]
  exact h
theorem q8 (hp : Pen n b S) (hb : b < 1000) (h : ∀ dv S', (-2000000 ≤ dv ∧ dv ≤ 2000000) → Pen n (b + 1) S' → F .nx [x0, some (.ref n), x2, x3, x4, x5, x6, x7, x8, some (.int dv), x10, x11, x12, x13, x14, x15, x16, x17, x18, x19] S') : StP (c_law_1_8 [x0, some (.ref n), x2, x3, x4, x5, x6, x7, x8, x9, x10, x11, x12, x13, x14, x15, x16, x17, x18, x19] S) F := by
  unfold c_law_1_8
  have p6 : ∀ {Q : D → Store → Prop} {S : Store}, EvP (kPow (.int 10) (.int 6) S) Q = Q (.int 1000000) S := fun {Q S} => by
    rw [evp_pow]; exact propext ⟨fun h => h.2, fun h => ⟨by decide, h⟩⟩
  have z7 : 7 ≤ sizeLine := by decide
  have m2 : mulOk 2 1000000 = true := mulOk_l (by decide) (by decide)
  simp only [↓h_seq, ↓stp_if, ↓h_cT, ↓evp_c2, ↓evp_c1, ↓evp_cV0, ↓evp_cVs, ↓evp_cK, ↓asB_bl, ↓evp_gt, ↓evp_lt, ↓evp_le, ↓evp_ge, ↓stp_set, ↓evp_cCall, ↓evp_cCons, ↓evp_cNil, ↓evp_k1, ↓evp_k2, ↓evp_int, List.set_cons_succ, List.set_cons_zero, ↓asF_nx, ↓stp_ret, ↓asF_rt, ↓stp_skip, ↓stp_drop, ↓evp_add, ↓evp_sub, ↓evp_neg, List.length_cons, List.length_nil, if_true, ↓evp_ok, ↓evp_ret, ↓evp_cFz, ↓evp_cLstE, ↓evp_cTupE, ↓evp_cCat, ↓evp_cLc, ↓h_cItS, ↓asS_tup, ↓asS_lst, ↓asS_scr, ↓evp_cSlL, ↓evp_pno, ↓h_pso, ↓asI_int, ↓evp_cOr, ↓evp_cAnd, ↓evp_cNot, ↓evp_cIf, ↓h_chain, ↓h_cAndV, ↓h_cOrV, Bool.not_true, Bool.not_false, Bool.false_eq_true, if_false, p6, ↓evp_mul, m2, z7, true_and]
  refine (pick_ok hp (by omega) (by simp) (by simp)).mono fun x S1 ⟨hx, hp1, sm1⟩ => ?_
  simp only [List.mem_cons, List.not_mem_nil, or_false] at hx
  rcases hx with rfl | rfl | rfl | rfl | rfl | rfl | rfl <;> exact h _ _ (by decide) hp1
theorem q9 (g : Good a bs) (h : F .nx [x0, x1, x2, some (plainD a bs), x4, x5, x6, x7, x8, some (.int dv), some (.lst (((a :: bs.map (·.2)).map (· + dv)).map D.int)), x11, x12, x13, x14, x15, x16, x17, x18, x19] S) : StP (c_law_1_9 [x0, x1, x2, some (plainD a bs), x4, x5, x6, x7, x8, some (.int dv), x10, x11, x12, x13, x14, x15, x16, x17, x18, x19] S) F := by
  unfold c_law_1_9
  rw [stp_set, evp_cFz, evp_cLc, h_cItS, evp_cFz]
  refine h_slopes g ?_
  have z : ((a :: bs.map (·.2)).map D.int).length ≤ sizeLine := by rw [List.length_map, List.length_cons, List.length_map]; exact Nat.le_trans (by have := g.len; omega : _ ≤ 9) (by decide)
  simp only [↓h_seq, ↓stp_if, ↓h_cT, ↓evp_c2, ↓evp_c1, ↓evp_cV0, ↓evp_cVs, ↓evp_cK, ↓asB_bl, ↓evp_gt, ↓evp_lt, ↓evp_le, ↓evp_ge, ↓stp_set, ↓evp_cCall, ↓evp_cCons, ↓evp_cNil, ↓evp_k1, ↓evp_k2, ↓evp_int, List.set_cons_succ, List.set_cons_zero, ↓asF_nx, ↓stp_ret, ↓asF_rt, ↓stp_skip, ↓stp_drop, ↓evp_add, ↓evp_sub, ↓evp_neg, List.length_cons, List.length_nil, if_true, ↓evp_ok, ↓evp_ret, ↓evp_cFz, ↓evp_cLstE, ↓evp_cTupE, ↓evp_cCat, ↓evp_cLc, ↓h_cItS, ↓asS_tup, ↓asS_lst, ↓asS_scr, ↓evp_cSlL, ↓evp_pno, ↓h_pso, ↓asI_int, ↓evp_cOr, ↓evp_cAnd, ↓evp_cNot, ↓evp_cIf, ↓h_chain, ↓h_cAndV, ↓h_cOrV, Bool.not_true, Bool.not_false, Bool.false_eq_true, if_false, z, true_and]
  refine evp_mapP D.int (fun v => .int (v + dv)) (fun v hv => ⟨_, rfl, ?_⟩) ?_
  · simp only [List.set_cons_succ, List.set_cons_zero, wipeD]
    simp only [↓h_seq, ↓stp_if, ↓h_cT, ↓evp_c2, ↓evp_c1, ↓evp_cV0, ↓evp_cVs, ↓evp_cK, ↓asB_bl, ↓evp_gt, ↓evp_lt, ↓evp_le, ↓evp_ge, ↓stp_set, ↓evp_cCall, ↓evp_cCons, ↓evp_cNil, ↓evp_k1, ↓evp_k2, ↓evp_int, List.set_cons_succ, List.set_cons_zero, ↓asF_nx, ↓stp_ret, ↓asF_rt, ↓stp_skip, ↓stp_drop, ↓evp_add, ↓evp_sub, ↓evp_neg, List.length_cons, List.length_nil, if_true, ↓evp_ok, ↓evp_ret, ↓evp_cFz, ↓evp_cLstE, ↓evp_cTupE, ↓evp_cCat, ↓evp_cLc, ↓h_cItS, ↓asS_tup, ↓asS_lst, ↓asS_scr, ↓evp_cSlL, ↓evp_pno, ↓h_pso, ↓asI_int, ↓evp_cOr, ↓evp_cAnd, ↓evp_cNot, ↓evp_cIf, ↓h_chain, ↓h_cAndV, ↓h_cOrV, Bool.not_true, Bool.not_false, Bool.false_eq_true, if_false]
    exact ⟨trivial, trivial⟩
  · rw [List.map_map] at h
    exact h
def bpD (s : Str) : D := .tup [.str "price", .str s]
/-- what is heard of a dearer one -/
def heardV (a dv : Int) (bs : Brs) : D := if -1000000 ≤ a + dv ∧ a + dv ≤ 1000000 then (if areB (a + dv) (upB dv bs) = true then .lst [priceD (a + dv) (upB dv bs)] else bpD "breaks") else bpD "first"
def dueV (a dv : Int) (bs : Brs) : D := if -1000000 ≤ a + dv ∧ a + dv ≤ 1000000 then (if areB (a + dv) (upB dv bs) = true then .non else bpD "breaks") else bpD "first"
theorem upB_len : (upB dv bs).length = bs.length := by unfold upB; rw [List.length_map]
theorem q10 (g : Good a bs) (hp : Pen n b S) (h : ∀ S', Pen n b S' → F .nx [x0, x1, x2, x3, some (priceD a bs), x5, x6, x7, x8, some (.int dv), x10, some (heardV a dv bs), x12, x13, x14, x15, x16, x17, x18, x19] S') : StP (c_law_1_10 [x0, x1, x2, x3, some (priceD a bs), x5, x6, x7, x8, some (.int dv), x10, x11, x12, x13, x14, x15, x16, x17, x18, x19] S) F := by
  unfold c_law_1_10
  rw [stp_set]
  have e : cMeth "Price" "more" 1 m_Price_more (cV 4) (cCons (cV 9) cNil) [x0, x1, x2, x3, some (priceD a bs), x5, x6, x7, x8, some (.int dv), x10, x11, x12, x13, x14, x15, x16, x17, x18, x19] S = kMake "Price" m_Price___init__ [.int (a + dv), .lst ((upB dv bs).map (pairK true))] S := by
    rw [← e_more g.len]
    exact meth_eq rfl rfl rfl rfl rfl
  by_cases c1 : -1000000 ≤ a + dv ∧ a + dv ≤ 1000000
  · by_cases c2 : areB (a + dv) (upB dv bs) = true
    · rw [heard_ok (e.trans (e_make (k := true) c1 (.inr rfl) (by rw [upB_len]; exact g.len) c2))]
      have := h _ (Pen.app (T := [none]) hp)
      unfold heardV at this
      rw [if_pos c1, if_pos c2] at this
      exact this
    · have hb : ∀ S, m_are_breaks [.lst ((upB dv bs).map (pairK true)), .int (a + dv)] S = some (.ok (.bl false) S) := fun S => by
        rw [p_are_breaks (.inr rfl) (by rw [upB_len]; exact g.len)]
        rw [Bool.eq_false_iff.mpr c2]
      rw [heard_ex (d := bpD "breaks") (e.trans (e_make_breaks c1 hb)) rfl]
      have := h _ (Pen.app (T := [some (.ins "Price" [])]) hp)
      unfold heardV at this
      rw [if_pos c1, if_neg c2] at this
      exact this
  · rw [heard_ex (d := bpD "first") (e.trans (e_make_first c1)) rfl]
    have := h _ (Pen.app (T := [some (.ins "Price" [])]) hp)
    unfold heardV at this
    rw [if_neg c1] at this
    exact this
theorem evp_maxL {ns : List Int} {Q : D → Store → Prop} (hne : ns ≠ []) (h : ∀ m, m ∈ ns → (∀ y ∈ ns, y ≤ m) → Q (.int m) S) : EvP (kMaxL (.lst (ns.map D.int)) S) Q := by
  unfold kMaxL
  simp only [lstD, Option.bind_some, intsOf_map]
  cases ns with
  | nil => exact absurd rfl hne
  | cons n ns =>
    simp only [extI]
    obtain ⟨h1, h2⟩ := ext_max (n := n) (ns := ns) (m := ns.foldl (fun m k => if decide (m < k) then k else m) n) rfl
    exact h _ h1 h2
theorem q11 (g : Good a bs) (h : F .nx [x0, x1, x2, x3, x4, x5, x6, x7, x8, x9, some (.lst (((a :: bs.map (·.2)).map (· + dv)).map D.int)), x11, some (dueV a dv bs), x13, x14, x15, x16, x17, x18, x19] S) : StP (c_law_1_11 [x0, x1, x2, x3, x4, x5, x6, x7, x8, x9, some (.lst (((a :: bs.map (·.2)).map (· + dv)).map D.int)), x11, x12, x13, x14, x15, x16, x17, x18, x19] S) F := by
  unfold c_law_1_11
  have p6 : ∀ {Q : D → Store → Prop} {S : Store}, EvP (kPow (.int 10) (.int 6) S) Q = Q (.int 1000000) S := fun {Q S} => by
    rw [evp_pow]; exact propext ⟨fun h => h.2, fun h => ⟨by decide, h⟩⟩
  have i0 : ∀ {Q : D → Store → Prop} {S : Store}, EvP (kIx (.lst (((a :: bs.map (·.2)).map (· + dv)).map D.int)) (.int 0) S) Q = Q (.int (a + dv)) S := fun {Q S} => h_ix rfl atI0
  have z2 : 2 ≤ sizeLine := by decide
  have z9 : (((a :: bs.map (·.2)).map (· + dv)).map D.int).length ≤ sizeLine := by rw [List.length_map, List.length_map, List.length_cons, List.length_map]; exact Nat.le_trans (by have := g.len; omega : _ ≤ 9) (by decide)
  by_cases c1 : -1000000 ≤ a + dv ∧ a + dv ≤ 1000000
  · have c1' : decide (1000000 < if a + dv < 0 then -(a + dv) else a + dv) = false := decide_eq_false (by split <;> omega)
    simp only [↓h_seq, ↓stp_if, ↓h_cT, ↓evp_c2, ↓evp_c1, ↓evp_cV0, ↓evp_cVs, ↓evp_cK, ↓asB_bl, ↓evp_gt, ↓evp_lt, ↓evp_le, ↓evp_ge, ↓stp_set, ↓evp_cCall, ↓evp_cCons, ↓evp_cNil, ↓evp_k1, ↓evp_k2, ↓evp_int, List.set_cons_succ, List.set_cons_zero, ↓asF_nx, ↓stp_ret, ↓asF_rt, ↓stp_skip, ↓stp_drop, ↓evp_add, ↓evp_sub, ↓evp_neg, List.length_cons, List.length_nil, if_true, ↓evp_ok, ↓evp_ret, ↓evp_cFz, ↓evp_cLstE, ↓evp_cTupE, ↓evp_cCat, ↓evp_cLc, ↓h_cItS, ↓asS_tup, ↓asS_lst, ↓asS_scr, ↓evp_cSlL, ↓evp_pno, ↓h_pso, ↓asI_int, ↓evp_cOr, ↓evp_cAnd, ↓evp_cNot, ↓evp_cIf, ↓h_chain, ↓h_cAndV, ↓h_cOrV, Bool.not_true, Bool.not_false, Bool.false_eq_true, if_false, i0, ↓evp_abs, p6, c1', z2, z9, true_and]
    refine evp_mapP D.int (fun v => .int (if v < 0 then -v else v)) (fun v hv => ⟨_, rfl, ?_⟩) ?_
    · simp only [List.set_cons_succ, List.set_cons_zero, wipeD]
      simp only [↓h_seq, ↓stp_if, ↓h_cT, ↓evp_c2, ↓evp_c1, ↓evp_cV0, ↓evp_cVs, ↓evp_cK, ↓asB_bl, ↓evp_gt, ↓evp_lt, ↓evp_le, ↓evp_ge, ↓stp_set, ↓evp_cCall, ↓evp_cCons, ↓evp_cNil, ↓evp_k1, ↓evp_k2, ↓evp_int, List.set_cons_succ, List.set_cons_zero, ↓asF_nx, ↓stp_ret, ↓asF_rt, ↓stp_skip, ↓stp_drop, ↓evp_add, ↓evp_sub, ↓evp_neg, List.length_cons, List.length_nil, if_true, ↓evp_ok, ↓evp_ret, ↓evp_cFz, ↓evp_cLstE, ↓evp_cTupE, ↓evp_cCat, ↓evp_cLc, ↓h_cItS, ↓asS_tup, ↓asS_lst, ↓asS_scr, ↓evp_cSlL, ↓evp_pno, ↓h_pso, ↓asI_int, ↓evp_cOr, ↓evp_cAnd, ↓evp_cNot, ↓evp_cIf, ↓h_chain, ↓h_cAndV, ↓h_cOrV, Bool.not_true, Bool.not_false, Bool.false_eq_true, if_false, ↓evp_abs]
      exact ⟨trivial, trivial⟩
    have e : (((a :: bs.map (·.2)).map (· + dv)).map fun v => D.int (if v < 0 then -v else v)) = (((a :: bs.map (·.2)).map (· + dv)).map fun v => if v < 0 then -v else v).map D.int := by rw [List.map_map (g := D.int)]; rfl
    rw [e]
    refine evp_maxL (by simp) fun m hm hx => ?_
    have key : decide (1000000 < m) = !areB (a + dv) (upB dv bs) := by
      rw [areB_up g, Bool.eq_iff_iff, Bool.not_eq_true', decide_eq_true_iff, decide_eq_false_iff_not]
      have sub : ∀ x ∈ bs.map (·.2), (if x + dv < 0 then -(x + dv) else x + dv) ≤ m := fun x hxm => hx _ (List.mem_map.mpr ⟨x + dv, List.mem_map.mpr ⟨x, .tail _ hxm, rfl⟩, rfl⟩)
      constructor
      · intro hlt hall
        obtain ⟨v, hv, rfl⟩ := List.mem_map.mp hm
        obtain ⟨x, hx2, rfl⟩ := List.mem_map.mp hv
        rcases List.mem_cons.mp hx2 with rfl | hx2
        · split at hlt <;> omega
        · have := hall x hx2
          split at hlt <;> omega
      · intro hno
        by_cases q : 1000000 < m
        · exact q
        · exact absurd (fun x hxm => by have := sub x hxm; split at this <;> omega) hno
    rw [evp_gt, asB_bl, key]
    by_cases c2 : areB (a + dv) (upB dv bs) = true
    · simp only [c2, ↓h_seq, ↓stp_if, ↓h_cT, ↓evp_c2, ↓evp_c1, ↓evp_cV0, ↓evp_cVs, ↓evp_cK, ↓asB_bl, ↓evp_gt, ↓evp_lt, ↓evp_le, ↓evp_ge, ↓stp_set, ↓evp_cCall, ↓evp_cCons, ↓evp_cNil, ↓evp_k1, ↓evp_k2, ↓evp_int, List.set_cons_succ, List.set_cons_zero, ↓asF_nx, ↓stp_ret, ↓asF_rt, ↓stp_skip, ↓stp_drop, ↓evp_add, ↓evp_sub, ↓evp_neg, List.length_cons, List.length_nil, if_true, ↓evp_ok, ↓evp_ret, ↓evp_cFz, ↓evp_cLstE, ↓evp_cTupE, ↓evp_cCat, ↓evp_cLc, ↓h_cItS, ↓asS_tup, ↓asS_lst, ↓asS_scr, ↓evp_cSlL, ↓evp_pno, ↓h_pso, ↓asI_int, ↓evp_cOr, ↓evp_cAnd, ↓evp_cNot, ↓evp_cIf, ↓h_chain, ↓h_cAndV, ↓h_cOrV, Bool.not_true, Bool.not_false, Bool.false_eq_true, if_false]
      unfold dueV at h
      rw [if_pos c1, if_pos c2] at h
      exact h
    · have c3 := Bool.eq_false_iff.mpr c2
      simp only [c3, ↓h_seq, ↓stp_if, ↓h_cT, ↓evp_c2, ↓evp_c1, ↓evp_cV0, ↓evp_cVs, ↓evp_cK, ↓asB_bl, ↓evp_gt, ↓evp_lt, ↓evp_le, ↓evp_ge, ↓stp_set, ↓evp_cCall, ↓evp_cCons, ↓evp_cNil, ↓evp_k1, ↓evp_k2, ↓evp_int, List.set_cons_succ, List.set_cons_zero, ↓asF_nx, ↓stp_ret, ↓asF_rt, ↓stp_skip, ↓stp_drop, ↓evp_add, ↓evp_sub, ↓evp_neg, List.length_cons, List.length_nil, if_true, ↓evp_ok, ↓evp_ret, ↓evp_cFz, ↓evp_cLstE, ↓evp_cTupE, ↓evp_cCat, ↓evp_cLc, ↓h_cItS, ↓asS_tup, ↓asS_lst, ↓asS_scr, ↓evp_cSlL, ↓evp_pno, ↓h_pso, ↓asI_int, ↓evp_cOr, ↓evp_cAnd, ↓evp_cNot, ↓evp_cIf, ↓h_chain, ↓h_cAndV, ↓h_cOrV, Bool.not_true, Bool.not_false, Bool.false_eq_true, if_false]
      unfold dueV at h
      rw [if_pos c1, if_neg c2] at h
      first | exact h | exact ⟨z2, h⟩
  · have c1' : decide (1000000 < if a + dv < 0 then -(a + dv) else a + dv) = true := decide_eq_true (by split <;> omega)
    simp only [↓h_seq, ↓stp_if, ↓h_cT, ↓evp_c2, ↓evp_c1, ↓evp_cV0, ↓evp_cVs, ↓evp_cK, ↓asB_bl, ↓evp_gt, ↓evp_lt, ↓evp_le, ↓evp_ge, ↓stp_set, ↓evp_cCall, ↓evp_cCons, ↓evp_cNil, ↓evp_k1, ↓evp_k2, ↓evp_int, List.set_cons_succ, List.set_cons_zero, ↓asF_nx, ↓stp_ret, ↓asF_rt, ↓stp_skip, ↓stp_drop, ↓evp_add, ↓evp_sub, ↓evp_neg, List.length_cons, List.length_nil, if_true, ↓evp_ok, ↓evp_ret, ↓evp_cFz, ↓evp_cLstE, ↓evp_cTupE, ↓evp_cCat, ↓evp_cLc, ↓h_cItS, ↓asS_tup, ↓asS_lst, ↓asS_scr, ↓evp_cSlL, ↓evp_pno, ↓h_pso, ↓asI_int, ↓evp_cOr, ↓evp_cAnd, ↓evp_cNot, ↓evp_cIf, ↓h_chain, ↓h_cAndV, ↓h_cOrV, Bool.not_true, Bool.not_false, Bool.false_eq_true, if_false, i0, ↓evp_abs, p6, c1', z2, true_and]
    unfold dueV at h
    rw [if_neg c1] at h
    exact h
end
end K09

set_option Elab.async false
set_option linter.all false
set_option maxRecDepth 100000
set_option maxHeartbeats 1000000
set_option autoImplicit false
namespace K09
open PySem PySem.Spec PyProof.Rows L2 DE
section
variable {S : Store} {F : Fl → DEnv → Store → Prop} {n b : Nat} {a dv : Int} {bs : Brs} {x0 x1 x2 x3 x4 x5 x6 x7 x8 x9 x10 x11 x12 x13 x14 x15 x16 x17 x18 x19 : Option D}
theorem notN {s : Str} {Q : D → Store → Prop} : EvP (kIsNN (bpD s) .non S) Q = Q (.bl true) S := propext Iff.rfl
theorem notN' {s : Str} {Q : D → Store → Prop} : EvP (kIsN (bpD s) .non S) Q = Q (.bl false) S := propext Iff.rfl
theorem isN {Q : D → Store → Prop} : EvP (kIsNN .non .non S) Q = Q (.bl false) S := propext Iff.rfl
theorem isN' {Q : D → Store → Prop} : EvP (kIsN .non .non S) Q = Q (.bl true) S := propext Iff.rfl
theorem neSS {s t : String} {Q : D → Store → Prop} : EvP (kEq true (.tup [.str s, .str t]) (.tup [.str s, .str t]) S) Q = Q (.bl false) S := by
  have h1 : toPDr S (.tup [.str s, .str t]) = some (.tuple [.str s, .str t]) := rfl
  have h2 : SeqAt.shaped (.tuple [.str s, .str t]) = true := by unfold SeqAt.shaped; simp [PyData.canLay0, PyData.canLayAll0, PyData.depth, PyData.depthAll, ok_of]
  have e : PyData.eqv (.tuple [.str s, .str t]) (.tuple [.str s, .str t]) = true := by simp [PyData.eqv, PyData.eqvAll]
  unfold kEq
  rw [h1]
  simp only [h2, e, Bool.and_self, if_true, evp_ret, Bool.not_true]
theorem ne_first {Q : D → Store → Prop} : EvP (kEq true (bpD "first") (bpD "first") S) Q = Q (.bl false) S := neSS
theorem ne_breaks {Q : D → Store → Prop} : EvP (kEq true (bpD "breaks") (bpD "breaks") S) Q = Q (.bl false) S := neSS
theorem q12 (g : Good a bs) (hp : Pen n b S) (h : ∀ S', Pen n b S' → F .nx [x0, x1, x2, some (plainD a bs), x4, x5, x6, x7, x8, some (.int dv), x10, some (heardV a dv bs), some (dueV a dv bs), x13, x14, x15, x16, x17, x18, x19] S') : StP (c_law_1_12 [x0, x1, x2, some (plainD a bs), x4, x5, x6, x7, x8, some (.int dv), x10, some (heardV a dv bs), some (dueV a dv bs), x13, x14, x15, x16, x17, x18, x19] S) F := by
  unfold c_law_1_12
  by_cases c1 : -1000000 ≤ a + dv ∧ a + dv ≤ 1000000
  · by_cases c2 : areB (a + dv) (upB dv bs) = true
    · have e1 : heardV a dv bs = .lst [priceD (a + dv) (upB dv bs)] := by unfold heardV; rw [if_pos c1, if_pos c2]
      have e2 : dueV a dv bs = .non := by unfold dueV; rw [if_pos c1, if_pos c2]
      rw [e1, e2] at h ⊢
      have z2 : 2 ≤ sizeLine := by decide
      have z1 : 1 ≤ sizeLine := by decide
      simp only [↓h_seq, ↓stp_if, ↓h_cT, ↓evp_c2, ↓evp_c1, ↓evp_cV0, ↓evp_cVs, ↓evp_cK, ↓asB_bl, ↓evp_gt, ↓evp_lt, ↓evp_le, ↓evp_ge, ↓stp_set, ↓evp_cCall, ↓evp_cCons, ↓evp_cNil, ↓evp_k1, ↓evp_k2, ↓evp_int, List.set_cons_succ, List.set_cons_zero, ↓asF_nx, ↓stp_ret, ↓asF_rt, ↓stp_skip, ↓stp_drop, ↓evp_add, ↓evp_sub, ↓evp_neg, List.length_cons, List.length_nil, if_true, ↓evp_ok, ↓evp_ret, ↓evp_cFz, ↓evp_cLstE, ↓evp_cTupE, ↓evp_cCat, ↓evp_cLc, ↓h_cItS, ↓asS_tup, ↓asS_lst, ↓asS_scr, ↓evp_cSlL, ↓evp_pno, ↓h_pso, ↓asI_int, ↓evp_cOr, ↓evp_cAnd, ↓evp_cNot, ↓evp_cIf, ↓h_chain, ↓h_cAndV, ↓h_cOrV, Bool.not_true, Bool.not_false, Bool.false_eq_true, if_false, isN, isN', f_p0, f_p1, f_s, len_bs g, z2, z1, true_and]
      refine evp_mapP pairT (fun p => pairT (p.1, p.2 + dv)) (fun p hp => ⟨_, rfl, ?_⟩) ?_
      · simp only [List.set_cons_succ, List.set_cons_zero, wipeD]
        simp only [↓h_seq, ↓stp_if, ↓h_cT, ↓evp_c2, ↓evp_c1, ↓evp_cV0, ↓evp_cVs, ↓evp_cK, ↓asB_bl, ↓evp_gt, ↓evp_lt, ↓evp_le, ↓evp_ge, ↓stp_set, ↓evp_cCall, ↓evp_cCons, ↓evp_cNil, ↓evp_k1, ↓evp_k2, ↓evp_int, List.set_cons_succ, List.set_cons_zero, ↓asF_nx, ↓stp_ret, ↓asF_rt, ↓stp_skip, ↓stp_drop, ↓evp_add, ↓evp_sub, ↓evp_neg, List.length_cons, List.length_nil, if_true, ↓evp_ok, ↓evp_ret, ↓evp_cFz, ↓evp_cLstE, ↓evp_cTupE, ↓evp_cCat, ↓evp_cLc, ↓h_cItS, ↓asS_tup, ↓asS_lst, ↓asS_scr, ↓evp_cSlL, ↓evp_pno, ↓h_pso, ↓asI_int, ↓evp_cOr, ↓evp_cAnd, ↓evp_cNot, ↓evp_cIf, ↓h_chain, ↓h_cAndV, ↓h_cOrV, Bool.not_true, Bool.not_false, Bool.false_eq_true, if_false, z2, true_and]
        exact ⟨rfl, trivial⟩
      have e3 : (bs.map fun p => pairT (p.1, p.2 + dv)) = (upB dv bs).map (pairK true) := by unfold upB; rw [List.map_map]; rfl
      rw [e3, e_make (k := true) c1 (.inr rfl) (by rw [upB_len]; exact g.len) c2]
      simp only [↓h_seq, ↓stp_if, ↓h_cT, ↓evp_c2, ↓evp_c1, ↓evp_cV0, ↓evp_cVs, ↓evp_cK, ↓asB_bl, ↓evp_gt, ↓evp_lt, ↓evp_le, ↓evp_ge, ↓stp_set, ↓evp_cCall, ↓evp_cCons, ↓evp_cNil, ↓evp_k1, ↓evp_k2, ↓evp_int, List.set_cons_succ, List.set_cons_zero, ↓asF_nx, ↓stp_ret, ↓asF_rt, ↓stp_skip, ↓stp_drop, ↓evp_add, ↓evp_sub, ↓evp_neg, List.length_cons, List.length_nil, if_true, ↓evp_ok, ↓evp_ret, ↓evp_cFz, ↓evp_cLstE, ↓evp_cTupE, ↓evp_cCat, ↓evp_cLc, ↓h_cItS, ↓asS_tup, ↓asS_lst, ↓asS_scr, ↓evp_cSlL, ↓evp_pno, ↓h_pso, ↓asI_int, ↓evp_cOr, ↓evp_cAnd, ↓evp_cNot, ↓evp_cIf, ↓h_chain, ↓h_cAndV, ↓h_cOrV, Bool.not_true, Bool.not_false, Bool.false_eq_true, if_false, neo_list]
      exact h _ (Pen.app hp)
    · have e1 : heardV a dv bs = bpD "breaks" := by unfold heardV; rw [if_pos c1, if_neg c2]
      have e2 : dueV a dv bs = bpD "breaks" := by unfold dueV; rw [if_pos c1, if_neg c2]
      rw [e1, e2] at h ⊢
      simp only [↓h_seq, ↓stp_if, ↓h_cT, ↓evp_c2, ↓evp_c1, ↓evp_cV0, ↓evp_cVs, ↓evp_cK, ↓asB_bl, ↓evp_gt, ↓evp_lt, ↓evp_le, ↓evp_ge, ↓stp_set, ↓evp_cCall, ↓evp_cCons, ↓evp_cNil, ↓evp_k1, ↓evp_k2, ↓evp_int, List.set_cons_succ, List.set_cons_zero, ↓asF_nx, ↓stp_ret, ↓asF_rt, ↓stp_skip, ↓stp_drop, ↓evp_add, ↓evp_sub, ↓evp_neg, List.length_cons, List.length_nil, if_true, ↓evp_ok, ↓evp_ret, ↓evp_cFz, ↓evp_cLstE, ↓evp_cTupE, ↓evp_cCat, ↓evp_cLc, ↓h_cItS, ↓asS_tup, ↓asS_lst, ↓asS_scr, ↓evp_cSlL, ↓evp_pno, ↓h_pso, ↓asI_int, ↓evp_cOr, ↓evp_cAnd, ↓evp_cNot, ↓evp_cIf, ↓h_chain, ↓h_cAndV, ↓h_cOrV, Bool.not_true, Bool.not_false, Bool.false_eq_true, if_false, notN, notN', ne_breaks]
      exact h _ hp
  · have e1 : heardV a dv bs = bpD "first" := by unfold heardV; rw [if_neg c1]
    have e2 : dueV a dv bs = bpD "first" := by unfold dueV; rw [if_neg c1]
    rw [e1, e2] at h ⊢
    simp only [↓h_seq, ↓stp_if, ↓h_cT, ↓evp_c2, ↓evp_c1, ↓evp_cV0, ↓evp_cVs, ↓evp_cK, ↓asB_bl, ↓evp_gt, ↓evp_lt, ↓evp_le, ↓evp_ge, ↓stp_set, ↓evp_cCall, ↓evp_cCons, ↓evp_cNil, ↓evp_k1, ↓evp_k2, ↓evp_int, List.set_cons_succ, List.set_cons_zero, ↓asF_nx, ↓stp_ret, ↓asF_rt, ↓stp_skip, ↓stp_drop, ↓evp_add, ↓evp_sub, ↓evp_neg, List.length_cons, List.length_nil, if_true, ↓evp_ok, ↓evp_ret, ↓evp_cFz, ↓evp_cLstE, ↓evp_cTupE, ↓evp_cCat, ↓evp_cLc, ↓h_cItS, ↓asS_tup, ↓asS_lst, ↓asS_scr, ↓evp_cSlL, ↓evp_pno, ↓h_pso, ↓asI_int, ↓evp_cOr, ↓evp_cAnd, ↓evp_cNot, ↓evp_cIf, ↓h_chain, ↓h_cAndV, ↓h_cOrV, Bool.not_true, Bool.not_false, Bool.false_eq_true, if_false, notN, notN', ne_first]
    exact h _ hp
theorem arD10 {x y : D} : arD [1, 0] [x, y] = [y, x] := rfl
theorem q13 (g : Good a bs) (hp : Pen n b S) (h : ∀ S', Pen n b S' → F .nx [x0, x1, x2, some (plainD a bs), some (priceD a bs), x5, x6, x7, x8, x9, x10, x11, x12, x13, x14, x15, x16, x17, x18, x19] S') : StP (c_law_1_13 [x0, x1, x2, some (plainD a bs), some (priceD a bs), x5, x6, x7, x8, x9, x10, x11, x12, x13, x14, x15, x16, x17, x18, x19] S) F := by
  unfold c_law_1_13
  have p6 : ∀ {Q : D → Store → Prop} {S : Store}, EvP (kPow (.int 10) (.int 6) S) Q = Q (.int 1000000) S := fun {Q S} => by
    rw [evp_pow]; exact propext ⟨fun h => h.2, fun h => ⟨by decide, h⟩⟩
  have z1 : 1 ≤ sizeLine := by decide
  have z2 : 2 ≤ sizeLine := by decide
  have m1 : ∀ S, kMake "Price" m_Price___init__ [.int a, brsT bs] S = some (.ok (priceD a bs) (S ++ [none])) := fun S => e_make (k := true) (by have := g.fst; omega) (.inl rfl) g.len g.areB
  have m2 : ∀ S, kMake "Price" m_Price___init__ [.int a, .lst [.tup [.int 0, .int 1000000]]] S = some (.ok (priceD a [(0, 1000000)]) (S ++ [none])) := fun S => e_make (k := true) (bs := [(0, 1000000)]) (by have := g.fst; omega) (.inr rfl) (by decide) (areB_iff.mpr ⟨fun p hp => by
    simp only [List.mem_cons, List.not_mem_nil, or_false] at hp
    subst hp; exact winP_iff.mpr (by decide), by simp [Asc], by have := g.fst; simp; omega⟩)
  have t1 : decide (a = a ∧ bs = bs) = true := by simp
  have n1 : ∀ {Q : D → Store → Prop} {S : Store}, EvP (kEq true (brsT bs) (.tup [.tup [.int 0, .int 1000000]]) S) Q = Q (.bl (decide (bs ≠ [(0, 1000000)]))) S := neBrs (ys := [(0, 1000000)])
  by_cases c : bs = [(0, 1000000)]
  · have t2 : decide (bs = [(0, 1000000)]) = true := by simp [c]
    have t3 : decide (bs ≠ [(0, 1000000)]) = false := by simp [c]
    simp only [↓h_seq, ↓stp_if, ↓h_cT, ↓evp_c2, ↓evp_c1, ↓evp_cV0, ↓evp_cVs, ↓evp_cK, ↓asB_bl, ↓evp_gt, ↓evp_lt, ↓evp_le, ↓evp_ge, ↓stp_set, ↓evp_cCall, ↓evp_cCons, ↓evp_cNil, ↓evp_k1, ↓evp_k2, ↓evp_int, List.set_cons_succ, List.set_cons_zero, ↓asF_nx, ↓stp_ret, ↓asF_rt, ↓stp_skip, ↓stp_drop, ↓evp_add, ↓evp_sub, ↓evp_neg, List.length_cons, List.length_nil, if_true, ↓evp_ok, ↓evp_ret, ↓evp_cFz, ↓evp_cLstE, ↓evp_cTupE, ↓evp_cCat, ↓evp_cLc, ↓h_cItS, ↓asS_tup, ↓asS_lst, ↓asS_scr, ↓evp_cSlL, ↓evp_pno, ↓h_pso, ↓asI_int, ↓evp_cOr, ↓evp_cAnd, ↓evp_cNot, ↓evp_cIf, ↓h_chain, ↓h_cAndV, ↓h_cOrV, Bool.not_true, Bool.not_false, Bool.false_eq_true, if_false, f_p0, f_p1, arD10, m1, m2, p6, z1, z2, true_and, eqo_prices, neo_prices, eqo_plain, decide_true, and_self, t2, t3, n1]
    exact h _ (Pen.app (Pen.app (Pen.app hp)))
  · have t2 : decide (bs = [(0, 1000000)]) = false := by simp [c]
    simp only [↓h_seq, ↓stp_if, ↓h_cT, ↓evp_c2, ↓evp_c1, ↓evp_cV0, ↓evp_cVs, ↓evp_cK, ↓asB_bl, ↓evp_gt, ↓evp_lt, ↓evp_le, ↓evp_ge, ↓stp_set, ↓evp_cCall, ↓evp_cCons, ↓evp_cNil, ↓evp_k1, ↓evp_k2, ↓evp_int, List.set_cons_succ, List.set_cons_zero, ↓asF_nx, ↓stp_ret, ↓asF_rt, ↓stp_skip, ↓stp_drop, ↓evp_add, ↓evp_sub, ↓evp_neg, List.length_cons, List.length_nil, if_true, ↓evp_ok, ↓evp_ret, ↓evp_cFz, ↓evp_cLstE, ↓evp_cTupE, ↓evp_cCat, ↓evp_cLc, ↓h_cItS, ↓asS_tup, ↓asS_lst, ↓asS_scr, ↓evp_cSlL, ↓evp_pno, ↓h_pso, ↓asI_int, ↓evp_cOr, ↓evp_cAnd, ↓evp_cNot, ↓evp_cIf, ↓h_chain, ↓h_cAndV, ↓h_cOrV, Bool.not_true, Bool.not_false, Bool.false_eq_true, if_false, f_p0, f_p1, arD10, m1, m2, p6, z1, z2, true_and, eqo_prices, neo_prices, eqo_plain, decide_true, and_self, t2, n1]
    exact h _ (Pen.app (Pen.app (Pen.app hp)))
/-- the values that are no numbers -/
def odds : List D := [.non, .bl true, .str "1", .str "0", .tup [.int 1], .lst [], .dct]
theorem q14 (hp : Pen n b S) (hb : b < 1000) (h : ∀ d S', d ∈ odds → Pen n (b + 1) S' → F .nx [x0, some (.ref n), x2, x3, x4, x5, x6, x7, x8, x9, x10, x11, x12, some d, x14, x15, x16, x17, x18, x19] S') : StP (c_law_1_14 [x0, some (.ref n), x2, x3, x4, x5, x6, x7, x8, x9, x10, x11, x12, x13, x14, x15, x16, x17, x18, x19] S) F := by
  unfold c_law_1_14
  have z1 : 1 ≤ sizeLine := by decide
  have z0 : 0 ≤ sizeLine := by decide
  have z7 : 7 ≤ sizeLine := by decide
  simp only [↓h_seq, ↓stp_if, ↓h_cT, ↓evp_c2, ↓evp_c1, ↓evp_cV0, ↓evp_cVs, ↓evp_cK, ↓asB_bl, ↓evp_gt, ↓evp_lt, ↓evp_le, ↓evp_ge, ↓stp_set, ↓evp_cCall, ↓evp_cCons, ↓evp_cNil, ↓evp_k1, ↓evp_k2, ↓evp_int, List.set_cons_succ, List.set_cons_zero, ↓asF_nx, ↓stp_ret, ↓asF_rt, ↓stp_skip, ↓stp_drop, ↓evp_add, ↓evp_sub, ↓evp_neg, List.length_cons, List.length_nil, if_true, ↓evp_ok, ↓evp_ret, ↓evp_cFz, ↓evp_cLstE, ↓evp_cTupE, ↓evp_cCat, ↓evp_cLc, ↓h_cItS, ↓asS_tup, ↓asS_lst, ↓asS_scr, ↓evp_cSlL, ↓evp_pno, ↓h_pso, ↓asI_int, ↓evp_cOr, ↓evp_cAnd, ↓evp_cNot, ↓evp_cIf, ↓h_chain, ↓h_cAndV, ↓h_cOrV, Bool.not_true, Bool.not_false, Bool.false_eq_true, if_false, z1, z0, z7, true_and]
  exact (pick_ok hp (by omega) (by simp) (by simp)).mono fun x S1 ⟨hx, hp1, sm1⟩ => h x S1 hx hp1
theorem odd_tag {S : Store} {d : D} (h : d ∈ odds) : ∃ t, tagOf ics ecs S d = some (.b t) ∧ t ∈ bts ∧ t ≠ "int" := by
  simp only [odds, List.mem_cons, List.not_mem_nil, or_false] at h
  rcases h with rfl | rfl | rfl | rfl | rfl | rfl | rfl <;> exact ⟨_, rfl, by decide, by decide⟩
def nbD (s : Str) : D := .tup [.str "number", .str s]
theorem ne_three {Q : D → Store → Prop} : EvP (kEq true (.lst [nbD "n", nbD "n", nbD "d"]) (.lst [nbD "n", nbD "n", nbD "d"]) S) Q = Q (.bl false) S := by
  have hn : ∀ s : String, PyData.strOk s = true := ok_of
  obtain ⟨p, hp⟩ : ∃ p : PyData, p = .list [.tuple [.str "number", .str "n"], .tuple [.str "number", .str "n"], .tuple [.str "number", .str "d"]] := ⟨_, rfl⟩
  have h1 : toPDr S (.lst [nbD "n", nbD "n", nbD "d"]) = some p := by rw [hp]; rfl
  have h2 : SeqAt.shaped p = true := by rw [hp]; unfold SeqAt.shaped; simp [PyData.canLay0, PyData.canLayAll0, PyData.depth, PyData.depthAll, ok_of]
  have e : PyData.eqv p p = true := by rw [hp]; simp [PyData.eqv, PyData.eqvAll]
  unfold kEq
  rw [h1]
  simp only [h2, e, Bool.and_self, if_true, evp_ret, Bool.not_true]
theorem q15 {d : D} (hd : d ∈ odds) (h : F .nx [x0, x1, x2, x3, some (priceD a bs), x5, x6, x7, x8, x9, x10, x11, x12, some d, x14, x15, x16, x17, x18, x19] S) : StP (c_law_1_15 [x0, x1, x2, x3, some (priceD a bs), x5, x6, x7, x8, x9, x10, x11, x12, some d, x14, x15, x16, x17, x18, x19] S) F := by
  unfold c_law_1_15
  obtain ⟨t, h1, h2, h3⟩ := odd_tag (S := S) hd
  obtain ⟨e1, e2, e3⟩ := e_odd (a := a) (bs := bs) h1 h2 h3
  have z2 : 2 ≤ sizeLine := by decide
  have z3 : 3 ≤ sizeLine := by decide
  have g1 : cMeth "Price" "at" 1 m_Price_at (cV 4) (cCons (cV 13) cNil) [x0, x1, x2, x3, some (priceD a bs), x5, x6, x7, x8, x9, x10, x11, x12, some d, x14, x15, x16, x17, x18, x19] S = _ := (meth_eq (fs := priceF a bs) (ds := [d]) rfl rfl rfl rfl rfl).trans e1
  have g2 : cMeth "Price" "slope" 1 m_Price_slope (cV 4) (cCons (cV 13) cNil) [x0, x1, x2, x3, some (priceD a bs), x5, x6, x7, x8, x9, x10, x11, x12, some d, x14, x15, x16, x17, x18, x19] S = _ := (meth_eq (fs := priceF a bs) (ds := [d]) rfl rfl rfl rfl rfl).trans e2
  have g3 : cMeth "Price" "more" 1 m_Price_more (cV 4) (cCons (cV 13) cNil) [x0, x1, x2, x3, some (priceD a bs), x5, x6, x7, x8, x9, x10, x11, x12, some d, x14, x15, x16, x17, x18, x19] S = _ := (meth_eq (fs := priceF a bs) (ds := [d]) rfl rfl rfl rfl rfl).trans e3
  simp only [↓h_seq, ↓stp_if, ↓h_cT, ↓evp_c2, ↓evp_c1, ↓evp_cV0, ↓evp_cVs, ↓evp_cK, ↓asB_bl, ↓evp_gt, ↓evp_lt, ↓evp_le, ↓evp_ge, ↓stp_set, ↓evp_cCall, ↓evp_cCons, ↓evp_cNil, ↓evp_k1, ↓evp_k2, ↓evp_int, List.set_cons_succ, List.set_cons_zero, ↓asF_nx, ↓stp_ret, ↓asF_rt, ↓stp_skip, ↓stp_drop, ↓evp_add, ↓evp_sub, ↓evp_neg, List.length_cons, List.length_nil, if_true, ↓evp_ok, ↓evp_ret, ↓evp_cFz, ↓evp_cLstE, ↓evp_cTupE, ↓evp_cCat, ↓evp_cLc, ↓h_cItS, ↓asS_tup, ↓asS_lst, ↓asS_scr, ↓evp_cSlL, ↓evp_pno, ↓h_pso, ↓asI_int, ↓evp_cOr, ↓evp_cAnd, ↓evp_cNot, ↓evp_cIf, ↓h_chain, ↓h_cAndV, ↓h_cOrV, Bool.not_true, Bool.not_false, Bool.false_eq_true, if_false, z2, z3, true_and, heard_ex (d := nbD "n") g1 rfl, heard_ex (d := nbD "n") g2 rfl, heard_ex (d := nbD "d") g3 rfl]
  rw [show (D.lst [nbD "n", nbD "n", nbD "d"]) = .lst [nbD "n", nbD "n", nbD "d"] from rfl]
  have := @ne_three S
  unfold nbD at this ⊢
  simp only [this, ↓h_seq, ↓stp_if, ↓h_cT, ↓evp_c2, ↓evp_c1, ↓evp_cV0, ↓evp_cVs, ↓evp_cK, ↓asB_bl, ↓evp_gt, ↓evp_lt, ↓evp_le, ↓evp_ge, ↓stp_set, ↓evp_cCall, ↓evp_cCons, ↓evp_cNil, ↓evp_k1, ↓evp_k2, ↓evp_int, List.set_cons_succ, List.set_cons_zero, ↓asF_nx, ↓stp_ret, ↓asF_rt, ↓stp_skip, ↓stp_drop, ↓evp_add, ↓evp_sub, ↓evp_neg, List.length_cons, List.length_nil, if_true, ↓evp_ok, ↓evp_ret, ↓evp_cFz, ↓evp_cLstE, ↓evp_cTupE, ↓evp_cCat, ↓evp_cLc, ↓h_cItS, ↓asS_tup, ↓asS_lst, ↓asS_scr, ↓evp_cSlL, ↓evp_pno, ↓h_pso, ↓asI_int, ↓evp_cOr, ↓evp_cAnd, ↓evp_cNot, ↓evp_cIf, ↓h_chain, ↓h_cAndV, ↓h_cOrV, Bool.not_true, Bool.not_false, Bool.false_eq_true, if_false]
  exact h
theorem q16 (hp : Pen n b S) (hb : b < 1000) (h : ∀ d S', d ∈ firsts → Pen n (b + 1) S' → F .nx [x0, some (.ref n), x2, x3, x4, x5, x6, x7, x8, x9, x10, x11, x12, x13, some d, x15, x16, x17, x18, x19] S') : StP (c_law_1_16 [x0, some (.ref n), x2, x3, x4, x5, x6, x7, x8, x9, x10, x11, x12, x13, x14, x15, x16, x17, x18, x19] S) F := by
  unfold c_law_1_16
  have p6 : ∀ {Q : D → Store → Prop} {S : Store}, EvP (kPow (.int 10) (.int 6) S) Q = Q (.int 1000000) S := fun {Q S} => by
    rw [evp_pow]; exact propext ⟨fun h => h.2, fun h => ⟨by decide, h⟩⟩
  have z0 : 0 ≤ sizeLine := by decide
  have z6 : 6 ≤ sizeLine := by decide
  simp only [↓h_seq, ↓stp_if, ↓h_cT, ↓evp_c2, ↓evp_c1, ↓evp_cV0, ↓evp_cVs, ↓evp_cK, ↓asB_bl, ↓evp_gt, ↓evp_lt, ↓evp_le, ↓evp_ge, ↓stp_set, ↓evp_cCall, ↓evp_cCons, ↓evp_cNil, ↓evp_k1, ↓evp_k2, ↓evp_int, List.set_cons_succ, List.set_cons_zero, ↓asF_nx, ↓stp_ret, ↓asF_rt, ↓stp_skip, ↓stp_drop, ↓evp_add, ↓evp_sub, ↓evp_neg, List.length_cons, List.length_nil, if_true, ↓evp_ok, ↓evp_ret, ↓evp_cFz, ↓evp_cLstE, ↓evp_cTupE, ↓evp_cCat, ↓evp_cLc, ↓h_cItS, ↓asS_tup, ↓asS_lst, ↓asS_scr, ↓evp_cSlL, ↓evp_pno, ↓h_pso, ↓asI_int, ↓evp_cOr, ↓evp_cAnd, ↓evp_cNot, ↓evp_cIf, ↓h_chain, ↓h_cAndV, ↓h_cOrV, Bool.not_true, Bool.not_false, Bool.false_eq_true, if_false, p6, z0, z6, true_and]
  exact (pick_ok hp (by omega) (by simp) (by simp)).mono fun x S1 ⟨hx, hp1, sm1⟩ => h x S1 hx hp1
/-- the first ones of the values that are no breaks -/
def bads1 : List D := [.non, .int 5, .str "1", .tup [.tup [.int 0]], .tup [.tup [.int 0, .int 5, .int 1]], .tup [pr 0 4, pr 0 5], .tup [pr 1 5, pr 0 6], .tup [pr 0 5, pr 1 5], .tup [pr 0 5, pr 1 4], .tup [pr 0 0], .tup [pr 0 (-1)], .tup [pr 1000001 5], .tup [pr 0 1000001]]
theorem q17 (h : F .nx [x0, x1, x2, x3, x4, x5, x6, x7, x8, x9, x10, x11, x12, x13, x14, some (.lst bads1), x16, x17, x18, x19] S) : StP (c_law_1_17 [x0, x1, x2, x3, x4, x5, x6, x7, x8, x9, x10, x11, x12, x13, x14, x15, x16, x17, x18, x19] S) F := by
  unfold c_law_1_17
  have p6 : ∀ {Q : D → Store → Prop} {S : Store}, EvP (kPow (.int 10) (.int 6) S) Q = Q (.int 1000000) S := fun {Q S} => by
    rw [evp_pow]; exact propext ⟨fun h => h.2, fun h => ⟨by decide, h⟩⟩
  have z1 : 1 ≤ sizeLine := by decide
  have z2 : 2 ≤ sizeLine := by decide
  have z3 : 3 ≤ sizeLine := by decide
  have z13 : 13 ≤ sizeLine := by decide
  simp only [↓h_seq, ↓stp_if, ↓h_cT, ↓evp_c2, ↓evp_c1, ↓evp_cV0, ↓evp_cVs, ↓evp_cK, ↓asB_bl, ↓evp_gt, ↓evp_lt, ↓evp_le, ↓evp_ge, ↓stp_set, ↓evp_cCall, ↓evp_cCons, ↓evp_cNil, ↓evp_k1, ↓evp_k2, ↓evp_int, List.set_cons_succ, List.set_cons_zero, ↓asF_nx, ↓stp_ret, ↓asF_rt, ↓stp_skip, ↓stp_drop, ↓evp_add, ↓evp_sub, ↓evp_neg, List.length_cons, List.length_nil, if_true, ↓evp_ok, ↓evp_ret, ↓evp_cFz, ↓evp_cLstE, ↓evp_cTupE, ↓evp_cCat, ↓evp_cLc, ↓h_cItS, ↓asS_tup, ↓asS_lst, ↓asS_scr, ↓evp_cSlL, ↓evp_pno, ↓h_pso, ↓asI_int, ↓evp_cOr, ↓evp_cAnd, ↓evp_cNot, ↓evp_cIf, ↓h_chain, ↓h_cAndV, ↓h_cOrV, Bool.not_true, Bool.not_false, Bool.false_eq_true, if_false, p6, z1, z2, z3, z13, true_and]
  exact h
def bads2 : List D := [.tup [.tup [.int 0, .bl true]], .tup [.tup [.str "0", .int 5]], .tup [.tup [.non, .int 5]], .tup [pr 0 1, pr 1 2, pr 2 3, pr 3 4, pr 4 5, pr 5 6, pr 6 7, pr 7 8, pr 8 9], .dct]
theorem bads_eq : bads = bads1 ++ bads2 := rfl
theorem q18 (hp : Pen n b S) (hb : b < 1000) (h : ∀ d S', d ∈ bads → Pen n (b + 1) S' → F .nx [x0, some (.ref n), x2, x3, x4, x5, x6, x7, x8, x9, x10, x11, x12, x13, x14, some d, x16, x17, x18, x19] S') : StP (c_law_1_18 [x0, some (.ref n), x2, x3, x4, x5, x6, x7, x8, x9, x10, x11, x12, x13, x14, some (.lst bads1), x16, x17, x18, x19] S) F := by
  unfold c_law_1_18
  have z1 : 1 ≤ sizeLine := by decide
  have z2 : 2 ≤ sizeLine := by decide
  have z5 : 5 ≤ sizeLine := by decide
  simp only [↓h_seq, ↓stp_if, ↓h_cT, ↓evp_c2, ↓evp_c1, ↓evp_cV0, ↓evp_cVs, ↓evp_cK, ↓asB_bl, ↓evp_gt, ↓evp_lt, ↓evp_le, ↓evp_ge, ↓stp_set, ↓evp_cCall, ↓evp_cCons, ↓evp_cNil, ↓evp_k1, ↓evp_k2, ↓evp_int, List.set_cons_succ, List.set_cons_zero, ↓asF_nx, ↓stp_ret, ↓asF_rt, ↓stp_skip, ↓stp_drop, ↓evp_add, ↓evp_sub, ↓evp_neg, List.length_cons, List.length_nil, if_true, ↓evp_ok, ↓evp_ret, ↓evp_cFz, ↓evp_cLstE, ↓evp_cTupE, ↓evp_cCat, ↓evp_cLc, ↓h_cItS, ↓asS_tup, ↓asS_lst, ↓asS_scr, ↓evp_cSlL, ↓evp_pno, ↓h_pso, ↓asI_int, ↓evp_cOr, ↓evp_cAnd, ↓evp_cNot, ↓evp_cIf, ↓h_chain, ↓h_cAndV, ↓h_cOrV, Bool.not_true, Bool.not_false, Bool.false_eq_true, if_false, ↓evp_range1, z1, z2, z5, true_and]
  refine ⟨_, rfl, by decide, by rw [rangeD_length]; exact (by decide : 9 ≤ sizeLine), ?_⟩
  rw [rangeD_eq]
  refine evp_mapP _ (fun (i : Nat) => pr (0 + (i : Int)) (0 + (i : Int) + 1)) (fun i hi => ⟨_, rfl, ?_⟩) ?_
  · simp only [List.set_cons_succ, List.set_cons_zero, wipeD]
    simp only [↓h_seq, ↓stp_if, ↓h_cT, ↓evp_c2, ↓evp_c1, ↓evp_cV0, ↓evp_cVs, ↓evp_cK, ↓asB_bl, ↓evp_gt, ↓evp_lt, ↓evp_le, ↓evp_ge, ↓stp_set, ↓evp_cCall, ↓evp_cCons, ↓evp_cNil, ↓evp_k1, ↓evp_k2, ↓evp_int, List.set_cons_succ, List.set_cons_zero, ↓asF_nx, ↓stp_ret, ↓asF_rt, ↓stp_skip, ↓stp_drop, ↓evp_add, ↓evp_sub, ↓evp_neg, List.length_cons, List.length_nil, if_true, ↓evp_ok, ↓evp_ret, ↓evp_cFz, ↓evp_cLstE, ↓evp_cTupE, ↓evp_cCat, ↓evp_cLc, ↓h_cItS, ↓asS_tup, ↓asS_lst, ↓asS_scr, ↓evp_cSlL, ↓evp_pno, ↓h_pso, ↓asI_int, ↓evp_cOr, ↓evp_cAnd, ↓evp_cNot, ↓evp_cIf, ↓h_chain, ↓h_cAndV, ↓h_cOrV, Bool.not_true, Bool.not_false, Bool.false_eq_true, if_false, z2, true_and]
    exact ⟨rfl, trivial⟩
  have e : ((List.range (9 - 0 : Int).toNat).map fun (i : Nat) => pr (0 + (i : Int)) (0 + (i : Int) + 1)) = [pr 0 1, pr 1 2, pr 2 3, pr 3 4, pr 4 5, pr 5 6, pr 6 7, pr 7 8, pr 8 9] := rfl
  rw [e]
  have kt : ∀ {Q : D → Store → Prop} {S : Store} {es : List D}, es.length ≤ 10 → EvP (kTuple (.lst es) S) Q = Q (.tup es) S := by
    intro Q S es hl
    show EvP (if es.length ≤ sizeLine then DE.ret (.tup es) S else none) Q = _
    rw [if_pos (Nat.le_trans hl (by decide))]; exact propext Iff.rfl
  rw [kt (by decide)]
  rw [evp_cat (xs := bads1) (ys := bads2) rfl rfl (by decide), ← bads_eq]
  exact (pick_ok hp (by omega) (by decide) (by decide)).mono fun x S1 ⟨hx, hp1, sm1⟩ => h x S1 hx hp1
theorem q19 {d e : D} (hd : d ∈ firsts) (he : e ∈ bads) (hp : Pen n b S) (h : ∀ S', Pen n b S' → F .nx [x0, x1, x2, x3, x4, x5, x6, x7, x8, x9, x10, x11, x12, x13, some d, some e, x16, x17, x18, x19] S') : StP (c_law_1_19 [x0, x1, x2, x3, x4, x5, x6, x7, x8, x9, x10, x11, x12, x13, some d, some e, x16, x17, x18, x19] S) F := by
  unfold c_law_1_19
  have z2 : 2 ≤ sizeLine := by decide
  have g1 : ∀ S, cCall (fun ds S => if ds.length = 2 then kMake "Price" m_Price___init__ ds S else none) (cCons (cV 14) (cCons (cV 15) cNil)) [x0, x1, x2, x3, x4, x5, x6, x7, x8, x9, x10, x11, x12, x13, some d, some e, x16, x17, x18, x19] S = _ := fun S => (show _ = kMake "Price" m_Price___init__ [d, e] S from rfl).trans (e_firsts S e d hd)
  have g2 : ∀ S, cCall (fun ds S => if ds.length = 2 then kMake "Price" m_Price___init__ ds S else none) (cCons (cK (.int 0)) (cCons (cV 15) cNil)) [x0, x1, x2, x3, x4, x5, x6, x7, x8, x9, x10, x11, x12, x13, some d, some e, x16, x17, x18, x19] S = _ := fun S => (show _ = kMake "Price" m_Price___init__ [.int 0, e] S from rfl).trans (e_breaks S e he)
  have n1 : ∀ {Q : D → Store → Prop} {S : Store}, EvP (kEq true (bpD "first") (.tup [.str "price", .str "first"]) S) Q = Q (.bl false) S := neSS
  have n2 : ∀ {Q : D → Store → Prop} {S : Store}, EvP (kEq true (bpD "breaks") (.tup [.str "price", .str "breaks"]) S) Q = Q (.bl false) S := neSS
  rw [stp_if, evp_cOr, h_cT, evp_c2, heard_ex (d := bpD "first") (g1 S) rfl, evp_cTupE]
  simp only [↓evp_cCons, ↓evp_cK, ↓evp_cNil, List.length_cons, List.length_nil, z2, true_and]
  rw [n1, asB_bl, if_neg (by decide), h_cT, evp_c2, heard_ex (d := bpD "breaks") (g2 _) rfl, evp_cTupE]
  simp only [↓evp_cCons, ↓evp_cK, ↓evp_cNil, List.length_cons, List.length_nil, z2, true_and]
  rw [n2, asB_bl, if_neg (by decide), stp_skip]
  exact h _ (Pen.app (Pen.app hp))
end
end K09

set_option Elab.async false
set_option linter.all false
set_option maxRecDepth 100000
set_option maxHeartbeats 1000000
set_option autoImplicit false
namespace K09
open PySem PySem.Spec PyProof.Rows L2 DE
theorem go {s t : CS} {ρ : DEnv} {S : Store} {F : Fl → DEnv → Store → Prop} (h : StP (s ρ S) fun f ρ' S' => asF f (StP (t ρ' S') F) fun f => F f ρ' S') : StP (cSeq s t ρ S) F := by
  rw [h_seq]; exact h
def bodyC : CS := (cSeq c_law_1_0
  (cSeq c_law_1_1
  (cSeq c_law_1_2
  (cSeq c_law_1_3
  (cSeq c_law_1_4
  (cSeq c_law_1_5
  (cSeq c_law_1_6
  (cSeq c_law_1_7
  (cSeq c_law_1_8
  (cSeq c_law_1_9
  (cSeq c_law_1_10
  (cSeq c_law_1_11
  (cSeq c_law_1_12
  (cSeq c_law_1_13
  (cSeq c_law_1_14
  (cSeq c_law_1_15
  (cSeq c_law_1_16
  (cSeq c_law_1_17
  (cSeq c_law_1_18
  c_law_1_19)))))))))))))))))))
section
variable {S : Store} {F : Fl → DEnv → Store → Prop} {n b : Nat} {a dv : Int} {bs : Brs} {x0 x1 x2 x3 x4 x5 x6 x7 x8 x9 x10 x11 x12 x13 x14 x15 x16 x17 x18 x19 : Option D}
theorem body (hp : Pen n b S) (hb : b < 500) (h : ∀ x3 x4 x5 x6 x7 x8 x9 x10 x11 x12 x13 x14 x15 S', Pen n (b + 40) S' → F .nx [x0, some (.ref n), x2, x3, x4, x5, x6, x7, x8, x9, x10, x11, x12, x13, x14, x15, x16, x17, x18, x19] S') : StP (bodyC [x0, some (.ref n), x2, x3, x4, x5, x6, x7, x8, x9, x10, x11, x12, x13, x14, x15, x16, x17, x18, x19] S) F := by
  unfold bodyC
  refine go (q0 hp (by omega) fun a bs S1 g hp => ?_)
  refine go (q1 g ?_)
  have hp : Pen n (b + 20) (S1 ++ [none]) := Pen.app hp
  generalize S1 ++ [none] = S2 at hp ⊢
  refine go (q2 g ?_)
  refine go (q3 g ?_)
  refine go (q4 g hp (by omega) fun ns S3 hl hp => ?_)
  refine go (q5 g fun x7 => ?_)
  refine go (q6 hl fun ms hm hm2 => ?_)
  refine go (q7 g hm hm2 ?_)
  refine go (q8 hp (by omega) fun dv S4 hd hp => ?_)
  refine go (q9 g ?_)
  refine go (q10 g hp fun S5 hp => ?_)
  refine go (q11 g ?_)
  refine go (q12 g hp fun S6 hp => ?_)
  refine go (q13 g hp fun S7 hp => ?_)
  refine go (q14 hp (by omega) fun d S8 hd hp => ?_)
  refine go (q15 hd ?_)
  refine go (q16 hp (by omega) fun e S9 he hp => ?_)
  refine go (q17 ?_)
  refine go (q18 hp (by omega) fun u S10 hu hp => ?_)
  refine q19 he hu hp fun S11 hp => ?_
  exact h _ _ _ _ _ _ _ _ _ _ _ _ _ S11 (hp.le (by omega))
end
theorem law_ok {S : Store} {ns : List Int} (hl : ns.length ≤ 63) : EvP (m_law [.scr ns] S) fun d _ => d = .bl true := by
  refine evp_run rfl ?_
  show StP (c_law [some (.scr ns), none, none, none, none, none, none, none, none, none, none, none, none, none, none, none, none, none, none, none] S) _
  unfold c_law
  refine go ?_
  unfold c_law_0
  simp only [↓h_seq, ↓stp_if, ↓h_cT, ↓evp_c2, ↓evp_c1, ↓evp_cV0, ↓evp_cVs, ↓evp_cK, ↓asB_bl, ↓evp_gt, ↓evp_lt, ↓evp_le, ↓evp_ge, ↓stp_set, ↓evp_cCall, ↓evp_cCons, ↓evp_cNil, ↓evp_k1, ↓evp_k2, ↓evp_int, List.set_cons_succ, List.set_cons_zero, ↓asF_nx, ↓stp_ret, ↓asF_rt, ↓stp_skip, ↓stp_drop, ↓evp_add, ↓evp_sub, ↓evp_neg, List.length_cons, List.length_nil, if_true, ↓evp_ok, ↓evp_ret, ↓evp_cFz, ↓evp_cLstE, ↓evp_cTupE, ↓evp_cCat, ↓evp_cLc, ↓h_cItS, ↓asS_tup, ↓asS_lst, ↓asS_scr, ↓evp_cSlL, ↓evp_pno, ↓h_pso, ↓asI_int, ↓evp_cOr, ↓evp_cAnd, ↓evp_cNot, ↓evp_cIf, ↓h_chain, ↓h_cAndV, ↓h_cOrV, Bool.not_true, Bool.not_false, Bool.false_eq_true, if_false]
  refine (pen_ok hl).mono fun d S1 ⟨hd, hp, sm⟩ => ?_
  subst hd
  generalize S.length = n at *
  rw [stp_for, evp_range1]
  simp only [↓h_seq, ↓stp_if, ↓h_cT, ↓evp_c2, ↓evp_c1, ↓evp_cV0, ↓evp_cVs, ↓evp_cK, ↓asB_bl, ↓evp_gt, ↓evp_lt, ↓evp_le, ↓evp_ge, ↓stp_set, ↓evp_cCall, ↓evp_cCons, ↓evp_cNil, ↓evp_k1, ↓evp_k2, ↓evp_int, List.set_cons_succ, List.set_cons_zero, ↓asF_nx, ↓stp_ret, ↓asF_rt, ↓stp_skip, ↓stp_drop, ↓evp_add, ↓evp_sub, ↓evp_neg, List.length_cons, List.length_nil, if_true, ↓evp_ok, ↓evp_ret, ↓evp_cFz, ↓evp_cLstE, ↓evp_cTupE, ↓evp_cCat, ↓evp_cLc, ↓h_cItS, ↓asS_tup, ↓asS_lst, ↓asS_scr, ↓evp_cSlL, ↓evp_pno, ↓h_pso, ↓asI_int, ↓evp_cOr, ↓evp_cAnd, ↓evp_cNot, ↓evp_cIf, ↓h_chain, ↓h_cAndV, ↓h_cOrV, Bool.not_true, Bool.not_false, Bool.false_eq_true, if_false]
  refine ⟨_, rfl, by decide, ?_⟩
  show StP (forL (gNm 2) bodyC _ _ _) _
  refine stp_forL (I := fun i ρ S' => (∃ x0 x2 x3 x4 x5 x6 x7 x8 x9 x10 x11 x12 x13 x14 x15 x16 x17 x18 x19, ρ = [x0, some (.ref n), x2, x3, x4, x5, x6, x7, x8, x9, x10, x11, x12, x13, x14, x15, x16, x17, x18, x19]) ∧ Pen n (40 * i) S') 5 (by rw [rangeD_length]; rfl) (fun i d ρ S' hd hI => ?_) ⟨⟨_, _, _, _, _, _, _, _, _, _, _, _, _, _, _, _, _, _, _, rfl⟩, hp⟩ fun ρ S' hI => ?_
  · obtain ⟨⟨x0, x2, x3, x4, x5, x6, x7, x8, x9, x10, x11, x12, x13, x14, x15, x16, x17, x18, x19, rfl⟩, hp⟩ := hI
    refine ⟨_, _, rfl, ?_⟩
    have hi : i < 5 := by
      have := (List.getElem?_eq_some_iff.mp hd).1
      rw [rangeD_length] at this; omega
    simp only [List.set_cons_succ, List.set_cons_zero, wipeD]
    exact body hp (by omega) fun x3 x4 x5 x6 x7 x8 x9 x10 x11 x12 x13 x14 x15 S' hp => ⟨.inl rfl, ⟨_, _, _, _, _, _, _, _, _, _, _, _, _, _, _, _, _, _, _, rfl⟩, hp.le (by omega)⟩
  · unfold c_law_2
    simp only [↓h_seq, ↓stp_if, ↓h_cT, ↓evp_c2, ↓evp_c1, ↓evp_cV0, ↓evp_cVs, ↓evp_cK, ↓asB_bl, ↓evp_gt, ↓evp_lt, ↓evp_le, ↓evp_ge, ↓stp_set, ↓evp_cCall, ↓evp_cCons, ↓evp_cNil, ↓evp_k1, ↓evp_k2, ↓evp_int, List.set_cons_succ, List.set_cons_zero, ↓asF_nx, ↓stp_ret, ↓asF_rt, ↓stp_skip, ↓stp_drop, ↓evp_add, ↓evp_sub, ↓evp_neg, List.length_cons, List.length_nil, if_true, ↓evp_ok, ↓evp_ret, ↓evp_cFz, ↓evp_cLstE, ↓evp_cTupE, ↓evp_cCat, ↓evp_cLc, ↓h_cItS, ↓asS_tup, ↓asS_lst, ↓asS_scr, ↓evp_cSlL, ↓evp_pno, ↓h_pso, ↓asI_int, ↓evp_cOr, ↓evp_cAnd, ↓evp_cNot, ↓evp_cIf, ↓h_chain, ↓h_cAndV, ↓h_cOrV, Bool.not_true, Bool.not_false, Bool.false_eq_true, if_false]
    exact .inl ⟨_, rfl, rfl⟩
end K09

set_option Elab.async false
set_option linter.all false
set_option maxRecDepth 100000
set_option maxHeartbeats 1000000
set_option autoImplicit false
namespace K09
open PySem PySem.Spec PyProof.Rows L2 DE
theorem isi_tags : ∀ t u b, isi t u = some b → t ∈ bts.map Tag.b ++ cns.map Tag.o ∧ u ∈ bts.map Tag.b ++ cns.map Tag.o := by
  intro t u b h
  have mb : ∀ n, n ∈ bts → Tag.b n ∈ bts.map Tag.b ++ cns.map Tag.o := fun n hn => List.mem_append_left _ (List.mem_map_of_mem hn)
  have mo : ∀ n, n ∈ cns → Tag.o n ∈ bts.map Tag.b ++ cns.map Tag.o := fun n hn => List.mem_append_right _ (List.mem_map_of_mem hn)
  unfold isi at h
  split at h <;> split at h
  · rename_i c; exact ⟨mb _ c.1, mb _ c.2⟩
  · cases h
  · rename_i c; exact ⟨mb _ c.1, mo _ c.2⟩
  · cases h
  · rename_i c; exact ⟨mo _ c.2, mb _ c.1⟩
  · cases h
  · rename_i c; exact ⟨mo _ c.1, mo _ c.2⟩
  · cases h
mutual
theorem pd_any (S S' : Store) : ∀ d : D, toPD S d = toPD S' d
  | .tup ds => by rw [toPD, toPD, pds_any S S' ds]
  | .lst ds => by rw [toPD, toPD, pds_any S S' ds]
  | .non => by rw [toPD, toPD]
  | .bl _ => by rw [toPD, toPD]
  | .int _ => by rw [toPD, toPD]
  | .str _ => by rw [toPD, toPD]
  | .scr _ => by rw [toPD, toPD]
  | .ins _ _ => by rw [toPD, toPD]
  | .ref _ => by rw [toPD, toPD]
  | .exc _ _ => by rw [toPD, toPD]
  | .adr _ => by rw [toPD, toPD]
  | .dct => by rw [toPD, toPD]
  | .ty _ => by rw [toPD, toPD]
  | .cls _ => by rw [toPD, toPD]
  | .lam _ _ _ _ _ => by rw [toPD, toPD]
theorem pds_any (S S' : Store) : ∀ ds : List D, toPDs S ds = toPDs S' ds
  | [] => by rw [toPDs, toPDs]
  | d :: ds => by rw [toPDs, toPDs, pd_any S S' d, pds_any S S' ds]
end
theorem pe_ok : ∀ x y b S, peP x y = some b → m_Price___eq__ [x, y] S = some (.ok (.bl b) S) := by
  intro x y b S h
  refine evp_det (evp_run rfl ?_)
  show StP (c_Price___eq__ [some x, some y] S) _
  unfold c_Price___eq__
  have z2 : 2 ≤ sizeLine := by decide
  unfold peP at h
  split at h
  · rename_i C fs C' gs
    split at h
    · rename_i hc
      obtain ⟨rfl, rfl⟩ := hc
      split at h
      · rename_i a1 b1 a2 b2 e1 e2 e3 e4
        split at h
        · rename_i p q p1 p2
          split at h
          · rename_i hs
            have hb : PyData.eqv p q = b := Option.some.inj h
            obtain ⟨s1, s2⟩ := Bool.and_eq_true_iff.mp hs
            have h0 : ∀ {Q : D → Store → Prop}, EvP (kIsi isi ics ecs (.ins "Price" gs) (.cls "Price") S) Q = Q (.bl true) S := evp_isi (t := .o "Price") (u := .o "Price") rfl rfl (by decide +kernel)
            have f1 : ∀ {Q : D → Store → Prop}, EvP (kFld ["Price"] "first" (.ins "Price" fs) S) Q = Q a1 S := fun {Q} => by
              unfold kFld insAt; simp only [e1]; exact propext Iff.rfl
            have f2 : ∀ {Q : D → Store → Prop}, EvP (kFld ["Price"] "breaks" (.ins "Price" fs) S) Q = Q b1 S := fun {Q} => by
              unfold kFld insAt; simp only [e2]; exact propext Iff.rfl
            have f3 : ∀ {Q : D → Store → Prop}, EvP (kFld ["Price"] "first" (.ins "Price" gs) S) Q = Q a2 S := fun {Q} => by
              unfold kFld insAt; simp only [e3]; exact propext Iff.rfl
            have f4 : ∀ {Q : D → Store → Prop}, EvP (kFld ["Price"] "breaks" (.ins "Price" gs) S) Q = Q b2 S := fun {Q} => by
              unfold kFld insAt; simp only [e4]; exact propext Iff.rfl
            have k1 : toPDr S (.tup [a1, b1]) = some p := by rw [← p1]; exact pd_any S [] _
            have k2 : toPDr S (.tup [a2, b2]) = some q := by rw [← p2]; exact pd_any S [] _
            have ke : ∀ {Q : D → Store → Prop}, EvP (kEq false (.tup [a1, b1]) (.tup [a2, b2]) S) Q = Q (.bl b) S := fun {Q} => by
              unfold kEq; rw [k1, k2]
              simp only [s1, s2, Bool.and_self, if_true, Bool.false_eq_true, if_false, evp_ret, hb]
            simp only [↓stp_ret, ↓h_cAndV, ↓evp_cCall, ↓evp_cCons, ↓evp_cNil, ↓evp_cV0, ↓evp_cVs, ↓evp_cK, DE.evp_k2, h0, ↓asB_bl, if_true, ↓evp_c2, ↓evp_c1, ↓evp_cTupE, f1, f2, f3, f4, ke, List.length_cons, List.length_nil, z2, true_and]
            exact .inl ⟨_, rfl, rfl, trivial⟩
          · cases h
        · cases h
      · cases h
    · cases h
  · rename_i C fs ds
    split at h
    · rename_i hc
      subst hc
      have hb : false = b := Option.some.inj h
      have h0 : ∀ {Q : D → Store → Prop}, EvP (kIsi isi ics ecs (.tup ds) (.cls "Price") S) Q = Q (.bl false) S := evp_isi (t := .b "tuple") (u := .o "Price") rfl rfl (by decide +kernel)
      simp only [↓stp_ret, ↓h_cAndV, ↓evp_cCall, ↓evp_cCons, ↓evp_cNil, ↓evp_cV0, ↓evp_cVs, ↓evp_cK, DE.evp_k2, h0, ↓asB_bl, Bool.false_eq_true, if_false]
      exact .inl ⟨_, rfl, by rw [hb], trivial⟩
    · cases h
  · cases h
end K09

set_option Elab.async false
set_option linter.all false
set_option maxRecDepth 100000
set_option maxHeartbeats 4000000
namespace K09
open PySem PySem.Spec PyProof.Rows L2 DE
abbrev Lw : PySem.W.OpenLaw := PySem.Challenge.rw_movesenough_k09_prices_step_by_step
abbrev R : PySem.W.OpenRow := PySem.W.OpenLaw.row Lw
abbrev S_BadPrice___init__ : Stmt := inClass (top 7) 0
abbrev S_BadNumber___init__ : Stmt := inClass (top 11) 0
def fnL : List He.DefD := [⟨("is_integer", none), "is_integer", "is_integer", defArgs S_is_integer, defBody S_is_integer, defScope S_is_integer, [], []⟩,
  ⟨("is_within", none), "is_within", "is_within", defArgs S_is_within, defBody S_is_within, defScope S_is_within, [], []⟩,
  ⟨("is_listed", none), "is_listed", "is_listed", defArgs S_is_listed, defBody S_is_listed, defScope S_is_listed, [], []⟩,
  ⟨("fixed", none), "fixed", "fixed", defArgs S_fixed, defBody S_fixed, defScope S_fixed, [], []⟩,
  ⟨("need_whole", none), "need_whole", "need_whole", defArgs S_need_whole, defBody S_need_whole, defScope S_need_whole, [], []⟩,
  ⟨("price_at", none), "price_at", "price_at", defArgs S_price_at, defBody S_price_at, defScope S_price_at, [], []⟩,
  ⟨("are_breaks", none), "are_breaks", "are_breaks", defArgs S_are_breaks, defBody S_are_breaks, defScope S_are_breaks, [], []⟩,
  ⟨("Price", some "__init__"), "__init__", "Price.__init__", defArgs S_Price___init__, defBody S_Price___init__, defScope S_Price___init__, [.adr (He.dflAt ("Price", some "__init__") 0)], []⟩,
  ⟨("Price", some "slope"), "slope", "Price.slope", defArgs S_Price_slope, defBody S_Price_slope, defScope S_Price_slope, [], []⟩,
  ⟨("Price", some "at"), "at", "Price.at", defArgs S_Price_at, defBody S_Price_at, defScope S_Price_at, [], []⟩,
  ⟨("Price", some "more"), "more", "Price.more", defArgs S_Price_more, defBody S_Price_more, defScope S_Price_more, [], []⟩,
  ⟨("Price", some "__eq__"), "__eq__", "Price.__eq__", defArgs S_Price___eq__, defBody S_Price___eq__, defScope S_Price___eq__, [], []⟩,
  ⟨("_law_pen", none), "_law_pen", "_law_pen", defArgs S__law_pen, defBody S__law_pen, defScope S__law_pen, [], []⟩,
  ⟨("_law_draw", none), "_law_draw", "_law_draw", defArgs S__law_draw, defBody S__law_draw, defScope S__law_draw, [], []⟩,
  ⟨("_law_pick", none), "_law_pick", "_law_pick", defArgs S__law_pick, defBody S__law_pick, defScope S__law_pick, [], []⟩,
  ⟨("_law_slope", none), "_law_slope", "_law_slope", defArgs S__law_slope, defBody S__law_slope, defScope S__law_slope, [], []⟩,
  ⟨("_law_at", none), "_law_at", "_law_at", defArgs S__law_at, defBody S__law_at, defScope S__law_at, [], []⟩,
  ⟨("_law_ten", none), "_law_ten", "_law_ten", defArgs S__law_ten, defBody S__law_ten, defScope S__law_ten, [], []⟩,
  ⟨("_law_listed", none), "_law_listed", "_law_listed", defArgs S__law_listed, defBody S__law_listed, defScope S__law_listed, [], []⟩,
  ⟨("_law_wide_price", none), "_law_wide_price", "_law_wide_price", defArgs S__law_wide_price, defBody S__law_wide_price, defScope S__law_wide_price, [], []⟩,
  ⟨("_law_far_at", none), "_law_far_at", "_law_far_at", defArgs S__law_far_at, defBody S__law_far_at, defScope S__law_far_at, [], []⟩,
  ⟨("law", none), "law", "law", defArgs S_law, defBody S_law, defScope S_law, [], []⟩,
  ⟨("_law_heard", none), "_law_heard", "_law_heard", defArgs S__law_heard, defBody S__law_heard, defScope S__law_heard, [], []⟩]
def faL : List He.Fa := [.glo "is_integer", .glo "is_within", .glo "is_listed", .glo "fixed", .glo "need_whole", .glo "price_at", .glo "are_breaks", .glo "_law_pen", .glo "_law_draw", .glo "_law_pick", .glo "_law_slope", .glo "_law_at", .glo "_law_ten", .glo "_law_listed", .glo "_law_wide_price", .glo "_law_far_at", .glo "law", .glo "_law_heard", .glo "ManyError", .glo "BadKind", .glo "BadPrice", .glo "BadBox", .glo "BadDay", .glo "BadValue", .glo "BadNumber", .glo "BadPaper", .glo "BadText", .glo "NoName", .glo "Misfit", .glo "Nothing", .glo "TooMany", .glo "Price", .cls "Price", .mkr "Price", .free "abs", .free "all", .free "any", .free "int", .free "bool", .free "isinstance", .free "len", .free "list", .free "max", .free "min", .free "range", .free "repr", .free "set", .free "sorted", .free "sum", .free "super", .free "tuple", .free "zip", .int "MOST_SLOPE" 1000000, .int "MOST_BREAKS" 8, .noat "Price" "first", .noat "Price" "breaks", .noat "Price" "low", .noat "Price" "high", .meth "Price" "slope", .meth "Price" "at", .meth "Price" "more", .meth "Price" "__eq__", .exm "BadKind" "ManyError" true, .exm "BadPrice" "ManyError" true, .exm "BadBox" "ManyError" true, .exm "BadDay" "ManyError" true, .exm "BadValue" "ManyError" true, .exm "BadNumber" "ManyError" true, .exm "BadPaper" "ManyError" true, .exm "BadText" "ManyError" true, .exm "NoName" "ManyError" true, .exm "Misfit" "ManyError" true, .exm "Nothing" "ManyError" true, .exm "TooMany" "ManyError" true]
def xsL : List ExD := [⟨"BadPrice", "BadPrice.__init__", defArgs S_BadPrice___init__, defBody S_BadPrice___init__, defScope S_BadPrice___init__⟩, ⟨"BadNumber", "BadNumber.__init__", defArgs S_BadNumber___init__, defBody S_BadNumber___init__, defScope S_BadNumber___init__⟩]
def tfL : List He.Defn := [("law", none)]
def cnsL : List Str := ["Price", "BadKind", "BadPrice", "BadBox", "BadDay", "BadValue", "BadNumber", "BadPaper", "BadText", "NoName", "Misfit", "Nothing", "TooMany"]
def tagsL : List Tag := bts.map Tag.b ++ cns.map Tag.o
def flds : List Str := ["what", "most", "line", "word", "part", "name"]
def exL (K : PySem.W.Frag) : Bool := isiB K isi tagsL && (ics.all (fun C => insB K (He.ga K C)) && (ecsH.all (fun C => excB K (He.ga K C)) && (ecsH.all (fun C => flds.all fun f => decide (PySem.W.findIn K (.ref (He.ga K C)) f = some none)) &&
  (xsL.all (fun d => xccB K (He.ga K d.x)) && ((neK K (He.ga K "Price") (He.ma K (He.ga K "Price") "__eq__") && (tsP).all fun t => PySem.W.notFirst K (He.ga K "Price") (tagVal K t)))))))
def namesL : List PySem.Str := (["__name__", "is_integer", "is_within", "is_listed", "ManyError", "BadKind", "BadPrice", "BadBox", "BadDay", "BadValue", "BadNumber", "BadPaper", "BadText", "NoName", "Misfit", "Nothing", "TooMany", "fixed", "MOST_SLOPE", "MOST_BREAKS", "are_breaks", "Price", "need_whole", "price_at", "_law_pen", "_law_draw", "_law_pick", "_law_heard", "_law_slope", "_law_at"] : List PySem.Str) ++ (["_law_ten", "_law_listed", "_law_wide_price", "_law_far_at"] : List PySem.Str)
def fileL : Str := (Lw.prog.main.file : Str)
abbrev hkL : PySem.W.Hook := hookY 5 fileL faL fnL xsL tfL exL
def obL (s : PySem.W.SharedT) : AlY := obsY 5 fileL faL fnL xsL tfL exL (HandSHeadRun.getT s)
theorem obL_eq (s : PySem.W.SharedT) : obL s = hkL.obs s.abs := obsY_eq (HandSHeadRun.getT_eq s)
theorem runL (w : World) : HandSHeadRun.RunEq R (PySem.W.view R.prog [38]) hkL obL 12000 namesL w := by
  intro os
  kernel_rfl
end K09

set_option Elab.async false
set_option linter.all false
set_option maxRecDepth 100000
set_option maxHeartbeats 4000000
namespace K09
open PySem PySem.Spec PyProof.Rows L2 DE
theorem allL {w : World} {K : PySem.W.Frag} {h : Heap} {mg : Str → Option Value} {f0 : Addr} (X : K.In h) (G : h.Ns mainGlobals mg) (hfa : mg ("law" : Str) = some (.ref f0)) (c : SaysY fileL faL fnL xsL tfL exL h K) :
    LawAtG Lw w K (L2.CX Lw.prog w) 63 "script" mg f0 h := by
  have e0 := hfa.symm.trans (He.glo_ok X G (c.d.fact 16 (f := .glo "law") rfl))
  cases e0
  obtain ⟨ex1, ex2⟩ := ba c.more
  obtain ⟨ex2, ex3⟩ := ba ex2
  obtain ⟨ex3, ex4⟩ := ba ex3
  obtain ⟨ex4, ex5⟩ := ba ex4
  obtain ⟨ex5, ex6⟩ := ba ex5
  obtain ⟨fd_is_integer, F_is_integer⟩ := c.d.def_ 0 (d := ⟨("is_integer", none), "is_integer", "is_integer", defArgs S_is_integer, defBody S_is_integer, defScope S_is_integer, [], []⟩) rfl
  obtain ⟨fd_is_within, F_is_within⟩ := c.d.def_ 1 (d := ⟨("is_within", none), "is_within", "is_within", defArgs S_is_within, defBody S_is_within, defScope S_is_within, [], []⟩) rfl
  obtain ⟨fd_is_listed, F_is_listed⟩ := c.d.def_ 2 (d := ⟨("is_listed", none), "is_listed", "is_listed", defArgs S_is_listed, defBody S_is_listed, defScope S_is_listed, [], []⟩) rfl
  obtain ⟨fd_fixed, F_fixed⟩ := c.d.def_ 3 (d := ⟨("fixed", none), "fixed", "fixed", defArgs S_fixed, defBody S_fixed, defScope S_fixed, [], []⟩) rfl
  obtain ⟨fd_need_whole, F_need_whole⟩ := c.d.def_ 4 (d := ⟨("need_whole", none), "need_whole", "need_whole", defArgs S_need_whole, defBody S_need_whole, defScope S_need_whole, [], []⟩) rfl
  obtain ⟨fd_price_at, F_price_at⟩ := c.d.def_ 5 (d := ⟨("price_at", none), "price_at", "price_at", defArgs S_price_at, defBody S_price_at, defScope S_price_at, [], []⟩) rfl
  obtain ⟨fd_are_breaks, F_are_breaks⟩ := c.d.def_ 6 (d := ⟨("are_breaks", none), "are_breaks", "are_breaks", defArgs S_are_breaks, defBody S_are_breaks, defScope S_are_breaks, [], []⟩) rfl
  obtain ⟨fd_Price___init__, F_Price___init__⟩ := c.d.def_ 7 (d := ⟨("Price", some "__init__"), "__init__", "Price.__init__", defArgs S_Price___init__, defBody S_Price___init__, defScope S_Price___init__, [.adr (He.dflAt ("Price", some "__init__") 0)], []⟩) rfl
  obtain ⟨fd_Price_slope, F_Price_slope⟩ := c.d.def_ 8 (d := ⟨("Price", some "slope"), "slope", "Price.slope", defArgs S_Price_slope, defBody S_Price_slope, defScope S_Price_slope, [], []⟩) rfl
  obtain ⟨fd_Price_at, F_Price_at⟩ := c.d.def_ 9 (d := ⟨("Price", some "at"), "at", "Price.at", defArgs S_Price_at, defBody S_Price_at, defScope S_Price_at, [], []⟩) rfl
  obtain ⟨fd_Price_more, F_Price_more⟩ := c.d.def_ 10 (d := ⟨("Price", some "more"), "more", "Price.more", defArgs S_Price_more, defBody S_Price_more, defScope S_Price_more, [], []⟩) rfl
  obtain ⟨fd_Price___eq__, F_Price___eq__⟩ := c.d.def_ 11 (d := ⟨("Price", some "__eq__"), "__eq__", "Price.__eq__", defArgs S_Price___eq__, defBody S_Price___eq__, defScope S_Price___eq__, [], []⟩) rfl
  obtain ⟨fd__law_pen, F__law_pen⟩ := c.d.def_ 12 (d := ⟨("_law_pen", none), "_law_pen", "_law_pen", defArgs S__law_pen, defBody S__law_pen, defScope S__law_pen, [], []⟩) rfl
  obtain ⟨fd__law_draw, F__law_draw⟩ := c.d.def_ 13 (d := ⟨("_law_draw", none), "_law_draw", "_law_draw", defArgs S__law_draw, defBody S__law_draw, defScope S__law_draw, [], []⟩) rfl
  obtain ⟨fd__law_pick, F__law_pick⟩ := c.d.def_ 14 (d := ⟨("_law_pick", none), "_law_pick", "_law_pick", defArgs S__law_pick, defBody S__law_pick, defScope S__law_pick, [], []⟩) rfl
  obtain ⟨fd__law_slope, F__law_slope⟩ := c.d.def_ 15 (d := ⟨("_law_slope", none), "_law_slope", "_law_slope", defArgs S__law_slope, defBody S__law_slope, defScope S__law_slope, [], []⟩) rfl
  obtain ⟨fd__law_at, F__law_at⟩ := c.d.def_ 16 (d := ⟨("_law_at", none), "_law_at", "_law_at", defArgs S__law_at, defBody S__law_at, defScope S__law_at, [], []⟩) rfl
  obtain ⟨fd__law_ten, F__law_ten⟩ := c.d.def_ 17 (d := ⟨("_law_ten", none), "_law_ten", "_law_ten", defArgs S__law_ten, defBody S__law_ten, defScope S__law_ten, [], []⟩) rfl
  obtain ⟨fd__law_listed, F__law_listed⟩ := c.d.def_ 18 (d := ⟨("_law_listed", none), "_law_listed", "_law_listed", defArgs S__law_listed, defBody S__law_listed, defScope S__law_listed, [], []⟩) rfl
  obtain ⟨fd__law_wide_price, F__law_wide_price⟩ := c.d.def_ 19 (d := ⟨("_law_wide_price", none), "_law_wide_price", "_law_wide_price", defArgs S__law_wide_price, defBody S__law_wide_price, defScope S__law_wide_price, [], []⟩) rfl
  obtain ⟨fd__law_far_at, F__law_far_at⟩ := c.d.def_ 20 (d := ⟨("_law_far_at", none), "_law_far_at", "_law_far_at", defArgs S__law_far_at, defBody S__law_far_at, defScope S__law_far_at, [], []⟩) rfl
  obtain ⟨fd_law, F_law⟩ := c.d.def_ 21 (d := ⟨("law", none), "law", "law", defArgs S_law, defBody S_law, defScope S_law, [], []⟩) rfl
  obtain ⟨fd__law_heard, F__law_heard⟩ := c.d.def_ 22 (d := ⟨("_law_heard", none), "_law_heard", "_law_heard", defArgs S__law_heard, defBody S__law_heard, defScope S__law_heard, [], []⟩) rfl
  generalize hCT : ctK K cnsL [((He.cT K ("law", none)).2, lq "law")] = CT
  have hct : ∀ x ∈ cnsL, CT x = some (He.ga K x) := fun x hx => by rw [← hCT]; exact ctK_mem hx
  have hct2 : ∀ x Ca, CT x = some Ca → Ca = He.ga K x := fun x Ca e => by rw [← hCT] at e; exact ctK_eq e
  have had : ∀ x ∈ cnsL, adr CT x = He.ga K x := fun x hx => by unfold adr; rw [hct x hx]; rfl
  have IK : IsK K CT isi ics ecsH := by rw [← hCT]; exact isK_of isi_tags ex1 (fun C hC => ⟨(by simp only [ics, List.mem_cons, List.not_mem_nil, or_false] at hC; rcases hC with rfl <;> first | exact He.cls_ok (c.d.fact 32 (f := .cls "Price") rfl)), List.all_eq_true.mp ex2 C hC⟩) (fun C hC => List.all_eq_true.mp ex3 C hC)
  have T : TX K mg CT := {
    IK := IK
    m_abs := He.free_ok X G (c.d.fact 34 (f := .free "abs") rfl)
    m_all := He.free_ok X G (c.d.fact 35 (f := .free "all") rfl)
    m_any := He.free_ok X G (c.d.fact 36 (f := .free "any") rfl)
    m_int := He.free_ok X G (c.d.fact 37 (f := .free "int") rfl)
    m_bool := He.free_ok X G (c.d.fact 38 (f := .free "bool") rfl)
    m_isinstance := He.free_ok X G (c.d.fact 39 (f := .free "isinstance") rfl)
    m_len := He.free_ok X G (c.d.fact 40 (f := .free "len") rfl)
    m_list := He.free_ok X G (c.d.fact 41 (f := .free "list") rfl)
    m_max := He.free_ok X G (c.d.fact 42 (f := .free "max") rfl)
    m_min := He.free_ok X G (c.d.fact 43 (f := .free "min") rfl)
    m_range := He.free_ok X G (c.d.fact 44 (f := .free "range") rfl)
    m_repr := He.free_ok X G (c.d.fact 45 (f := .free "repr") rfl)
    m_set := He.free_ok X G (c.d.fact 46 (f := .free "set") rfl)
    m_sorted := He.free_ok X G (c.d.fact 47 (f := .free "sorted") rfl)
    m_sum := He.free_ok X G (c.d.fact 48 (f := .free "sum") rfl)
    m_super := He.free_ok X G (c.d.fact 49 (f := .free "super") rfl)
    m_tuple := He.free_ok X G (c.d.fact 50 (f := .free "tuple") rfl)
    m_zip := He.free_ok X G (c.d.fact 51 (f := .free "zip") rfl)
    c_Price := ⟨by rw [had _ (by decide)]; exact He.glo_ok X G (c.d.fact 31 (f := .glo "Price") rfl), by rw [had _ (by decide)]; exact hct _ (by decide)⟩
    a_first := fun C hC Ca e => by
      simp only [List.mem_cons, List.not_mem_nil, or_false] at hC
      subst hC; rw [hct2 _ _ e]; exact ⟨He.cls_ok (c.d.fact 32 (f := .cls "Price") rfl), He.noat_ok (c.d.fact 54 (f := .noat "Price" "first") rfl)⟩
    a_breaks := fun C hC Ca e => by
      simp only [List.mem_cons, List.not_mem_nil, or_false] at hC
      subst hC; rw [hct2 _ _ e]; exact ⟨He.cls_ok (c.d.fact 32 (f := .cls "Price") rfl), He.noat_ok (c.d.fact 55 (f := .noat "Price" "breaks") rfl)⟩
    a_low := fun C hC Ca e => by
      simp only [List.mem_cons, List.not_mem_nil, or_false] at hC
      subst hC; rw [hct2 _ _ e]; exact ⟨He.cls_ok (c.d.fact 32 (f := .cls "Price") rfl), He.noat_ok (c.d.fact 56 (f := .noat "Price" "low") rfl)⟩
    a_high := fun C hC Ca e => by
      simp only [List.mem_cons, List.not_mem_nil, or_false] at hC
      subst hC; rw [hct2 _ _ e]; exact ⟨He.cls_ok (c.d.fact 32 (f := .cls "Price") rfl), He.noat_ok (c.d.fact 57 (f := .noat "Price" "high") rfl)⟩
    g_MOST_SLOPE := by
      obtain ⟨tk, e⟩ := He.int_ok X G (c.d.fact 52 (f := .int "MOST_SLOPE" 1000000) rfl)
      unfold tokOf; rw [e]
    g_MOST_BREAKS := by
      obtain ⟨tk, e⟩ := He.int_ok X G (c.d.fact 53 (f := .int "MOST_BREAKS" 8) rfl)
      unfold tokOf; rw [e] }
  have TH : THd K mg CT (He.ga K "ManyError") := {
    IK := IK
    m_isinstance := He.free_ok X G (c.d.fact 39 (f := .free "isinstance") rfl)
    c_ManyError := He.glo_ok X G (c.d.fact 18 (f := .glo "ManyError") rfl)
    exm := fun C hC Cc e => by
      rw [hct2 _ _ e]
      simp only [ecsH, List.mem_cons, List.not_mem_nil, or_false] at hC
      rcases hC with rfl | rfl | rfl | rfl | rfl | rfl | rfl | rfl | rfl | rfl | rfl | rfl
      · exact He.exm_ok (c.d.fact 62 (f := .exm "BadKind" "ManyError" true) rfl)
      · exact He.exm_ok (c.d.fact 63 (f := .exm "BadPrice" "ManyError" true) rfl)
      · exact He.exm_ok (c.d.fact 64 (f := .exm "BadBox" "ManyError" true) rfl)
      · exact He.exm_ok (c.d.fact 65 (f := .exm "BadDay" "ManyError" true) rfl)
      · exact He.exm_ok (c.d.fact 66 (f := .exm "BadValue" "ManyError" true) rfl)
      · exact He.exm_ok (c.d.fact 67 (f := .exm "BadNumber" "ManyError" true) rfl)
      · exact He.exm_ok (c.d.fact 68 (f := .exm "BadPaper" "ManyError" true) rfl)
      · exact He.exm_ok (c.d.fact 69 (f := .exm "BadText" "ManyError" true) rfl)
      · exact He.exm_ok (c.d.fact 70 (f := .exm "NoName" "ManyError" true) rfl)
      · exact He.exm_ok (c.d.fact 71 (f := .exm "Misfit" "ManyError" true) rfl)
      · exact He.exm_ok (c.d.fact 72 (f := .exm "Nothing" "ManyError" true) rfl)
      · exact He.exm_ok (c.d.fact 73 (f := .exm "TooMany" "ManyError" true) rfl)
    c_BadKind := ⟨by rw [had _ (by decide)]; exact He.glo_ok X G (c.d.fact 19 (f := .glo "BadKind") rfl), by rw [had _ (by decide)]; exact hct _ (by decide)⟩
    c_BadPrice := ⟨by rw [had _ (by decide)]; exact He.glo_ok X G (c.d.fact 20 (f := .glo "BadPrice") rfl), by rw [had _ (by decide)]; exact hct _ (by decide)⟩
    c_BadBox := ⟨by rw [had _ (by decide)]; exact He.glo_ok X G (c.d.fact 21 (f := .glo "BadBox") rfl), by rw [had _ (by decide)]; exact hct _ (by decide)⟩
    c_BadDay := ⟨by rw [had _ (by decide)]; exact He.glo_ok X G (c.d.fact 22 (f := .glo "BadDay") rfl), by rw [had _ (by decide)]; exact hct _ (by decide)⟩
    c_BadValue := ⟨by rw [had _ (by decide)]; exact He.glo_ok X G (c.d.fact 23 (f := .glo "BadValue") rfl), by rw [had _ (by decide)]; exact hct _ (by decide)⟩
    c_BadNumber := ⟨by rw [had _ (by decide)]; exact He.glo_ok X G (c.d.fact 24 (f := .glo "BadNumber") rfl), by rw [had _ (by decide)]; exact hct _ (by decide)⟩
    c_BadPaper := ⟨by rw [had _ (by decide)]; exact He.glo_ok X G (c.d.fact 25 (f := .glo "BadPaper") rfl), by rw [had _ (by decide)]; exact hct _ (by decide)⟩
    c_BadText := ⟨by rw [had _ (by decide)]; exact He.glo_ok X G (c.d.fact 26 (f := .glo "BadText") rfl), by rw [had _ (by decide)]; exact hct _ (by decide)⟩
    c_NoName := ⟨by rw [had _ (by decide)]; exact He.glo_ok X G (c.d.fact 27 (f := .glo "NoName") rfl), by rw [had _ (by decide)]; exact hct _ (by decide)⟩
    c_Misfit := ⟨by rw [had _ (by decide)]; exact He.glo_ok X G (c.d.fact 28 (f := .glo "Misfit") rfl), by rw [had _ (by decide)]; exact hct _ (by decide)⟩
    c_Nothing := ⟨by rw [had _ (by decide)]; exact He.glo_ok X G (c.d.fact 29 (f := .glo "Nothing") rfl), by rw [had _ (by decide)]; exact hct _ (by decide)⟩
    c_TooMany := ⟨by rw [had _ (by decide)]; exact He.glo_ok X G (c.d.fact 30 (f := .glo "TooMany") rfl), by rw [had _ (by decide)]; exact hct _ (by decide)⟩
    x_what := fun C hC Ca e => by rw [hct2 _ _ e]; exact ⟨xfB_ok (ba (List.all_eq_true.mp ex3 C hC)).1, of_decide_eq_true (List.all_eq_true.mp (List.all_eq_true.mp ex4 C hC) "what" (by decide))⟩
    x_most := fun C hC Ca e => by rw [hct2 _ _ e]; exact ⟨xfB_ok (ba (List.all_eq_true.mp ex3 C hC)).1, of_decide_eq_true (List.all_eq_true.mp (List.all_eq_true.mp ex4 C hC) "most" (by decide))⟩
    x_line := fun C hC Ca e => by rw [hct2 _ _ e]; exact ⟨xfB_ok (ba (List.all_eq_true.mp ex3 C hC)).1, of_decide_eq_true (List.all_eq_true.mp (List.all_eq_true.mp ex4 C hC) "line" (by decide))⟩
    x_word := fun C hC Ca e => by rw [hct2 _ _ e]; exact ⟨xfB_ok (ba (List.all_eq_true.mp ex3 C hC)).1, of_decide_eq_true (List.all_eq_true.mp (List.all_eq_true.mp ex4 C hC) "word" (by decide))⟩
    x_part := fun C hC Ca e => by rw [hct2 _ _ e]; exact ⟨xfB_ok (ba (List.all_eq_true.mp ex3 C hC)).1, of_decide_eq_true (List.all_eq_true.mp (List.all_eq_true.mp ex4 C hC) "part" (by decide))⟩
    x_name := fun C hC Ca e => by rw [hct2 _ _ e]; exact ⟨xfB_ok (ba (List.all_eq_true.mp ex3 C hC)).1, of_decide_eq_true (List.all_eq_true.mp (List.all_eq_true.mp ex4 C hC) "name" (by decide))⟩ }
  have hmT : ∀ p ∈ CT.T, p = ((He.cT K ("law", none)).2, lq "law") := fun p hp => by rw [← hCT] at hp; exact List.mem_singleton.mp hp
  have hmT2 : ((He.cT K ("law", none)).2, lq "law") ∈ CT.T := by rw [← hCT]; exact List.mem_singleton.mpr rfl
  refine ⟨fd_law, [He.cT K ("law", none)], spD K CT 1 m_law, fun p hp => ?_, fun p hp => ?_, fun p hp => ?_, fun s u => ?_, fun H a ns hl hb hT hS => ?_, fun base KB GB TB => ?_⟩
  · rw [List.mem_singleton.mp hp]; exact c.empty _ (.head _)
  · rw [List.mem_singleton.mp hp]; exact c.out _ (.head _)
  · rw [List.mem_singleton.mp hp]; exact PySem.W.codeHd_of_K X (c.hd _ (.head _))
  · exact FunD.bindsA (ps := ["script"]) F_law (fun _ _ _ _ _ _ us hl => match us, hl with | [_], _ => rfl) s [u] rfl
  · refine law_sp (fun p hp => ?_) hS (law_ok hl)
    rw [hmT p hp]; exact hT _ (.head _)
  have TBl := TB _ (List.mem_singleton.mpr rfl)
  have GX_BadPrice : Xc1 Lw.prog w K mg base CT 1 "BadPrice" "part" := xc1_of (f := "part") (c.x ⟨"BadPrice", "BadPrice.__init__", defArgs S_BadPrice___init__, defBody S_BadPrice___init__, defScope S_BadPrice___init__⟩ (List.mem_of_getElem? (i := 0) rfl)) (He.glo_ok X G (c.d.fact 20 (f := .glo "BadPrice") rfl)) (hct _ (by decide)) (xccB_ok (List.all_eq_true.mp ex5 _ (List.mem_of_getElem? (i := 0) rfl)))
    (of_decide_eq_true (List.all_eq_true.mp (List.all_eq_true.mp ex4 "BadPrice" (by decide)) "part" (by decide))) ⟨rfl, rfl, rfl, by decide, rfl, by decide +kernel, by decide +kernel, by decide +kernel, rfl, rfl⟩ rfl rfl (fun _ _ _ _ _ _ _ _ us hl => match us, hl with | [_, _], _ => rfl) (by decide +kernel) (He.free_ok X G (c.d.fact 49 (f := .free "super") rfl))
    (fun _ _ _ _ _ _ _ _ => pa_cons (pv 1) pa_nil) (fun _ _ _ _ _ _ _ _ => pss_one (ps_ost (pv 0) (pv 1))) (fun _ _ _ _ => rfl) (fun _ _ _ _ => rfl) (fun _ _ _ _ => ⟨_, rfl⟩) (fun _ _ _ _ => rfl)
  have GX_BadNumber : Xc1 Lw.prog w K mg base CT 1 "BadNumber" "part" := xc1_of (f := "part") (c.x ⟨"BadNumber", "BadNumber.__init__", defArgs S_BadNumber___init__, defBody S_BadNumber___init__, defScope S_BadNumber___init__⟩ (List.mem_of_getElem? (i := 1) rfl)) (He.glo_ok X G (c.d.fact 24 (f := .glo "BadNumber") rfl)) (hct _ (by decide)) (xccB_ok (List.all_eq_true.mp ex5 _ (List.mem_of_getElem? (i := 1) rfl)))
    (of_decide_eq_true (List.all_eq_true.mp (List.all_eq_true.mp ex4 "BadNumber" (by decide)) "part" (by decide))) ⟨rfl, rfl, rfl, by decide, rfl, by decide +kernel, by decide +kernel, by decide +kernel, rfl, rfl⟩ rfl rfl (fun _ _ _ _ _ _ _ _ us hl => match us, hl with | [_, _], _ => rfl) (by decide +kernel) (He.free_ok X G (c.d.fact 49 (f := .free "super") rfl))
    (fun _ _ _ _ _ _ _ _ => pa_cons (pv 1) pa_nil) (fun _ _ _ _ _ _ _ _ => pss_one (ps_ost (pv 0) (pv 1))) (fun _ _ _ _ => rfl) (fun _ _ _ _ => rfl) (fun _ _ _ _ => ⟨_, rfl⟩) (fun _ _ _ _ => rfl)
  have G_is_integer : Fn Lw.prog w K mg base CT 1 "is_integer" 1 m_is_integer := ⟨⟨_, fd_is_integer, ["value"], He.glo_ok X G (c.d.fact 0 (f := .glo "is_integer") rfl), F_is_integer.kp, rfl, FunD.bindsN F_is_integer (fun _ _ _ _ _ _ us hl => match us, hl with | [_], _ => rfl), fn_bodyD (k := 0) F_is_integer sc_is_integer rfl fun cdv A outer s H E hr => b_is_integer T  cdv A outer s H E hr⟩⟩
  have G_is_within : Fn Lw.prog w K mg base CT 2 "is_within" 2 m_is_within := ⟨⟨_, fd_is_within, ["value", "most"], He.glo_ok X G (c.d.fact 1 (f := .glo "is_within") rfl), F_is_within.kp, rfl, FunD.bindsN F_is_within (fun _ _ _ _ _ _ us hl => match us, hl with | [_, _], _ => rfl), fn_bodyD (k := 1) F_is_within sc_is_within rfl fun cdv A outer s H E hr => b_is_within T G_is_integer cdv A outer s H E hr⟩⟩
  have G_is_listed : Fn Lw.prog w K mg base CT 1 "is_listed" 1 m_is_listed := ⟨⟨_, fd_is_listed, ["value"], He.glo_ok X G (c.d.fact 2 (f := .glo "is_listed") rfl), F_is_listed.kp, rfl, FunD.bindsN F_is_listed (fun _ _ _ _ _ _ us hl => match us, hl with | [_], _ => rfl), fn_bodyD (k := 0) F_is_listed sc_is_listed rfl fun cdv A outer s H E hr => b_is_listed T  cdv A outer s H E hr⟩⟩
  have R_fixed : ∀ k : Nat, Fn Lw.prog w K mg base CT k "fixed" 1 (m_fixed k) := fun k => by
    induction k with
    | zero => exact fn_none (He.glo_ok X G (c.d.fact 3 (f := .glo "fixed") rfl)) F_fixed.kp rfl (FunD.bindsN (ps := ["value"]) F_fixed (fun _ _ _ _ _ _ us hl => match us, hl with | [_], _ => rfl))
    | succ k ih => exact ⟨⟨_, fd_fixed, ["value"], He.glo_ok X G (c.d.fact 3 (f := .glo "fixed") rfl), F_fixed.kp, rfl, FunD.bindsN F_fixed (fun _ _ _ _ _ _ us hl => match us, hl with | [_], _ => rfl), fn_bodyD F_fixed sc_fixed rfl fun cdv A outer s H E hr => b_fixed T ih cdv A outer s H E hr⟩⟩
  have G_fixed := R_fixed 3
  have G_need_whole : Fn Lw.prog w K mg base CT 3 "need_whole" 2 m_need_whole := ⟨⟨_, fd_need_whole, ["value", "part"], He.glo_ok X G (c.d.fact 4 (f := .glo "need_whole") rfl), F_need_whole.kp, rfl, FunD.bindsN F_need_whole (fun _ _ _ _ _ _ us hl => match us, hl with | [_, _], _ => rfl), fn_bodyD (k := 2) F_need_whole sc_need_whole rfl fun cdv A outer s H E hr => b_need_whole T G_is_integer GX_BadNumber cdv A outer s H E hr⟩⟩
  have G_price_at : Fn Lw.prog w K mg base CT 1 "price_at" 2 m_price_at := ⟨⟨_, fd_price_at, ["price", "n"], He.glo_ok X G (c.d.fact 5 (f := .glo "price_at") rfl), F_price_at.kp, rfl, FunD.bindsN F_price_at (fun _ _ _ _ _ _ us hl => match us, hl with | [_, _], _ => rfl), fn_bodyD (k := 0) F_price_at sc_price_at rfl fun cdv A outer s H E hr => b_price_at T  cdv A outer s H E hr⟩⟩
  have G_are_breaks : Fn Lw.prog w K mg base CT 3 "are_breaks" 2 m_are_breaks := ⟨⟨_, fd_are_breaks, ["value", "first"], He.glo_ok X G (c.d.fact 6 (f := .glo "are_breaks") rfl), F_are_breaks.kp, rfl, FunD.bindsN F_are_breaks (fun _ _ _ _ _ _ us hl => match us, hl with | [_, _], _ => rfl), fn_bodyD (k := 2) F_are_breaks sc_are_breaks rfl fun cdv A outer s H E hr => b_are_breaks T G_is_listed G_is_within cdv A outer s H E hr⟩⟩
  have O_Price___init__ : FnOk Lw.prog w K mg base (L2.CX Lw.prog w) 5 (He.fAd K ("Price", some "__init__")) fd_Price___init__ ["self", "first", "breaks"] (spD K CT 3 m_Price___init__) := fn_bodyD (k := 4) F_Price___init__ sc_Price___init__ rfl fun cdv A outer s H E hr => b_Price___init__ T G_are_breaks G_fixed G_is_within GX_BadPrice cdv A outer s H E hr
  have B_Price___init__ : Binds K fd_Price___init__ ["self", "first", "breaks"] [] := by
    obtain ⟨ds, h1, h2⟩ := FunD.binds1 (ps := ["self", "first", "breaks"]) F_Price___init__ 3 1 (by simp [He.DefD.dvs]) rfl (fun _ _ _ _ _ _ _ us its hu hi => match us, its, hu, hi with | [_, _, _], [_], _, _ => ⟨_, rfl, rfl⟩)
    cases h1
    exact h2
  have GM_Price : Mkr Lw.prog w K mg base CT 5 "Price" 2 m_Price___init__ := ⟨⟨_, _, fd_Price___init__, ["self", "first", "breaks"], He.glo_ok X G (c.d.fact 31 (f := .glo "Price") rfl), hct _ (by decide), He.mkr_ok (c.d.fact 33 (f := .mkr "Price") rfl), rfl, B_Price___init__, O_Price___init__⟩⟩
  have GK_Price : MkrK Lw.prog w K mg base CT 5 "Price" ["breaks", "first"] [1, 0] m_Price___init__ := by
    refine ⟨⟨_, _, fd_Price___init__, ["self", "first", "breaks"], He.glo_ok X G (c.d.fact 31 (f := .glo "Price") rfl), hct _ (by decide), He.mkr_ok (c.d.fact 33 (f := .mkr "Price") rfl), ?_, O_Price___init__⟩⟩
    exact kwb_dfl (ps := ["self", "first", "breaks"]) (n := 1) (ks := ["breaks", "first"]) (m := 1) [1, 0] F_Price___init__ (by simp [He.DefD.dvs]) rfl (by decide) (fun _ _ _ _ _ _ _ us its ws hu hi hw => match us, its, ws, hu, hi, hw with | [_], [_], [_, _], _, _, _ => ⟨_, rfl, rfl⟩)
  have O_Price_slope : FnOk Lw.prog w K mg base (L2.CX Lw.prog w) 4 (He.fAd K ("Price", some "slope")) fd_Price_slope ["self", "n"] (spD K CT 2 m_Price_slope) := fn_bodyD (k := 3) F_Price_slope sc_Price_slope rfl fun cdv A outer s H E hr => b_Price_slope T G_need_whole cdv A outer s H E hr
  have GM_Price_slope : Mt Lw.prog w K mg base CT 4 "Price" "slope" 1 m_Price_slope := ⟨⟨_, _, fd_Price_slope, ["self", "n"], hct _ (by decide), He.cls_ok (c.d.fact 32 (f := .cls "Price") rfl), He.meth_ok (c.d.fact 58 (f := .meth "Price" "slope") rfl), rfl, FunD.bindsN F_Price_slope (fun _ _ _ _ _ _ us hl => match us, hl with | [_, _], _ => rfl), O_Price_slope⟩⟩
  have GK_Price_slope : MtK Lw.prog w K mg base CT 4 "Price" "slope" ["n"] [0] m_Price_slope := ⟨⟨_, _, fd_Price_slope, ["self", "n"], hct _ (by decide), He.cls_ok (c.d.fact 32 (f := .cls "Price") rfl), He.meth_ok (c.d.fact 58 (f := .meth "Price" "slope") rfl), kwb_of [0] F_Price_slope (fun _ _ _ _ _ _ us ws hu hw => match us, ws, hu, hw with | [_], [_], _, _ => rfl), O_Price_slope⟩⟩
  have O_Price_at : FnOk Lw.prog w K mg base (L2.CX Lw.prog w) 4 (He.fAd K ("Price", some "at")) fd_Price_at ["self", "n"] (spD K CT 2 m_Price_at) := fn_bodyD (k := 3) F_Price_at sc_Price_at rfl fun cdv A outer s H E hr => b_Price_at T G_need_whole G_price_at cdv A outer s H E hr
  have GM_Price_at : Mt Lw.prog w K mg base CT 4 "Price" "at" 1 m_Price_at := ⟨⟨_, _, fd_Price_at, ["self", "n"], hct _ (by decide), He.cls_ok (c.d.fact 32 (f := .cls "Price") rfl), He.meth_ok (c.d.fact 59 (f := .meth "Price" "at") rfl), rfl, FunD.bindsN F_Price_at (fun _ _ _ _ _ _ us hl => match us, hl with | [_, _], _ => rfl), O_Price_at⟩⟩
  have GK_Price_at : MtK Lw.prog w K mg base CT 4 "Price" "at" ["n"] [0] m_Price_at := ⟨⟨_, _, fd_Price_at, ["self", "n"], hct _ (by decide), He.cls_ok (c.d.fact 32 (f := .cls "Price") rfl), He.meth_ok (c.d.fact 59 (f := .meth "Price" "at") rfl), kwb_of [0] F_Price_at (fun _ _ _ _ _ _ us ws hu hw => match us, ws, hu, hw with | [_], [_], _, _ => rfl), O_Price_at⟩⟩
  have O_Price_more : FnOk Lw.prog w K mg base (L2.CX Lw.prog w) 7 (He.fAd K ("Price", some "more")) fd_Price_more ["self", "d"] (spD K CT 2 m_Price_more) := fn_bodyD (k := 6) F_Price_more sc_Price_more rfl fun cdv A outer s H E hr => b_Price_more T G_need_whole GM_Price cdv A outer s H E hr
  have GM_Price_more : Mt Lw.prog w K mg base CT 7 "Price" "more" 1 m_Price_more := ⟨⟨_, _, fd_Price_more, ["self", "d"], hct _ (by decide), He.cls_ok (c.d.fact 32 (f := .cls "Price") rfl), He.meth_ok (c.d.fact 60 (f := .meth "Price" "more") rfl), rfl, FunD.bindsN F_Price_more (fun _ _ _ _ _ _ us hl => match us, hl with | [_, _], _ => rfl), O_Price_more⟩⟩
  have O_Price___eq__ : FnOk Lw.prog w K mg base (L2.CX Lw.prog w) 1 (He.fAd K ("Price", some "__eq__")) fd_Price___eq__ ["self", "other"] (spD K CT 2 m_Price___eq__) := fn_bodyD (k := 0) F_Price___eq__ sc_Price___eq__ rfl fun cdv A outer s H E hr => b_Price___eq__ T  cdv A outer s H E hr
  have GM_Price___eq__ : Mt Lw.prog w K mg base CT 1 "Price" "__eq__" 1 m_Price___eq__ := ⟨⟨_, _, fd_Price___eq__, ["self", "other"], hct _ (by decide), He.cls_ok (c.d.fact 32 (f := .cls "Price") rfl), He.meth_ok (c.d.fact 61 (f := .meth "Price" "__eq__") rfl), rfl, FunD.bindsN F_Price___eq__ (fun _ _ _ _ _ _ us hl => match us, hl with | [_, _], _ => rfl), O_Price___eq__⟩⟩
  have G__law_pen : Fn Lw.prog w K mg base CT 1 "_law_pen" 1 m__law_pen := ⟨⟨_, fd__law_pen, ["script"], He.glo_ok X G (c.d.fact 7 (f := .glo "_law_pen") rfl), F__law_pen.kp, rfl, FunD.bindsN F__law_pen (fun _ _ _ _ _ _ us hl => match us, hl with | [_], _ => rfl), fn_bodyD (k := 0) F__law_pen sc__law_pen rfl fun cdv A outer s H E hr => b__law_pen T  cdv A outer s H E hr⟩⟩
  have G__law_draw : Fn Lw.prog w K mg base CT 1 "_law_draw" 2 m__law_draw := ⟨⟨_, fd__law_draw, ["pen", "many"], He.glo_ok X G (c.d.fact 8 (f := .glo "_law_draw") rfl), F__law_draw.kp, rfl, FunD.bindsN F__law_draw (fun _ _ _ _ _ _ us hl => match us, hl with | [_, _], _ => rfl), fn_bodyD (k := 0) F__law_draw sc__law_draw rfl fun cdv A outer s H E hr => b__law_draw T  cdv A outer s H E hr⟩⟩
  have G__law_pick : Fn Lw.prog w K mg base CT 2 "_law_pick" 2 m__law_pick := ⟨⟨_, fd__law_pick, ["pen", "some"], He.glo_ok X G (c.d.fact 9 (f := .glo "_law_pick") rfl), F__law_pick.kp, rfl, FunD.bindsN F__law_pick (fun _ _ _ _ _ _ us hl => match us, hl with | [_, _], _ => rfl), fn_bodyD (k := 1) F__law_pick sc__law_pick rfl fun cdv A outer s H E hr => b__law_pick T G__law_draw cdv A outer s H E hr⟩⟩
  have G__law_slope : Fn Lw.prog w K mg base CT 1 "_law_slope" 2 m__law_slope := ⟨⟨_, fd__law_slope, ["price", "n"], He.glo_ok X G (c.d.fact 10 (f := .glo "_law_slope") rfl), F__law_slope.kp, rfl, FunD.bindsN F__law_slope (fun _ _ _ _ _ _ us hl => match us, hl with | [_, _], _ => rfl), fn_bodyD (k := 0) F__law_slope sc__law_slope rfl fun cdv A outer s H E hr => b__law_slope T  cdv A outer s H E hr⟩⟩
  have G__law_at : Fn Lw.prog w K mg base CT 2 "_law_at" 2 m__law_at := ⟨⟨_, fd__law_at, ["price", "n"], He.glo_ok X G (c.d.fact 11 (f := .glo "_law_at") rfl), F__law_at.kp, rfl, FunD.bindsN F__law_at (fun _ _ _ _ _ _ us hl => match us, hl with | [_, _], _ => rfl), fn_bodyD (k := 1) F__law_at sc__law_at rfl fun cdv A outer s H E hr => b__law_at T G__law_slope cdv A outer s H E hr⟩⟩
  have G__law_ten : Fn Lw.prog w K mg base CT 1 "_law_ten" 1 m__law_ten := ⟨⟨_, fd__law_ten, ["many"], He.glo_ok X G (c.d.fact 12 (f := .glo "_law_ten") rfl), F__law_ten.kp, rfl, FunD.bindsN F__law_ten (fun _ _ _ _ _ _ us hl => match us, hl with | [_], _ => rfl), fn_bodyD (k := 0) F__law_ten sc__law_ten rfl fun cdv A outer s H E hr => b__law_ten T  cdv A outer s H E hr⟩⟩
  have R__law_listed : ∀ k : Nat, Fn Lw.prog w K mg base CT k "_law_listed" 1 (m__law_listed k) := fun k => by
    induction k with
    | zero => exact fn_none (He.glo_ok X G (c.d.fact 13 (f := .glo "_law_listed") rfl)) F__law_listed.kp rfl (FunD.bindsN (ps := ["value"]) F__law_listed (fun _ _ _ _ _ _ us hl => match us, hl with | [_], _ => rfl))
    | succ k ih => exact ⟨⟨_, fd__law_listed, ["value"], He.glo_ok X G (c.d.fact 13 (f := .glo "_law_listed") rfl), F__law_listed.kp, rfl, FunD.bindsN F__law_listed (fun _ _ _ _ _ _ us hl => match us, hl with | [_], _ => rfl), fn_bodyD F__law_listed sc__law_listed rfl fun cdv A outer s H E hr => b__law_listed T ih cdv A outer s H E hr⟩⟩
  have G__law_listed := R__law_listed 3
  have G__law_wide_price : Fn Lw.prog w K mg base CT 3 "_law_wide_price" 1 m__law_wide_price := ⟨⟨_, fd__law_wide_price, ["pen"], He.glo_ok X G (c.d.fact 14 (f := .glo "_law_wide_price") rfl), F__law_wide_price.kp, rfl, FunD.bindsN F__law_wide_price (fun _ _ _ _ _ _ us hl => match us, hl with | [_], _ => rfl), fn_bodyD (k := 2) F__law_wide_price sc__law_wide_price rfl fun cdv A outer s H E hr => b__law_wide_price T G__law_draw G__law_pick cdv A outer s H E hr⟩⟩
  have G__law_far_at : Fn Lw.prog w K mg base CT 2 "_law_far_at" 2 m__law_far_at := ⟨⟨_, fd__law_far_at, ["price", "n"], He.glo_ok X G (c.d.fact 15 (f := .glo "_law_far_at") rfl), F__law_far_at.kp, rfl, FunD.bindsN F__law_far_at (fun _ _ _ _ _ _ us hl => match us, hl with | [_, _], _ => rfl), fn_bodyD (k := 1) F__law_far_at sc__law_far_at rfl fun cdv A outer s H E hr => b__law_far_at T G__law_slope cdv A outer s H E hr⟩⟩
  have GH : Hrd Lw.prog w K mg base CT isi ics 0 := ⟨⟨_, S__law_heard, fd__law_heard, He.glo_ok X G (c.d.fact 17 (f := .glo "_law_heard") rfl), fun_ofD F__law_heard, FunD.bindsN F__law_heard (fun _ _ _ _ _ _ us hl => match us, hl with | [_], _ => rfl), sc__law_heard, by first | exact Or.inl rfl | exact Or.inr (Or.inl rfl) | exact Or.inr (Or.inr rfl), fun cdg A outer s H ask hr hask => b__law_heard TH cdg A outer s H ask hr hask⟩⟩
  have GE : Eqo Lw.prog w K mg base CT 1 "Price" tsP peP := by
    obtain ⟨q1, q2⟩ := ba ex6
    have M := He.meth_ok (c.d.fact 61 (f := .meth "Price" "__eq__") rfl)
    exact ⟨⟨_, _, fd_Price___eq__, ["self", "other"], m_Price___eq__, hct _ (by decide), M.at_, M.fn, q1, FunD.bindsN F_Price___eq__ (fun _ _ _ _ _ _ us hl => match us, hl with | [_, _], _ => rfl), rfl, fun t ht tv e => by rw [← hCT] at e; rw [tagVal_eq e]; exact List.all_eq_true.mp q2 t ht, O_Price___eq__, pe_ok⟩⟩
  obtain ⟨oc, od, dV, kV, doc, pm, an, cdv, ct, osl, rfl, lk, hcd, hD, hK⟩ := F_law.ex
  obtain ⟨cc, rfl⟩ := He.codeIn_ref hcd
  have ecc : He.codeOf K ("law", none) = cc := He.codeOf_eq lk rfl
  have TBl2 : LamX.TabB base mg cc (He.cT K ("law", none)).2 := by rw [← ecc]; exact TBl
  exact law_at (k := 9) lk hcd sc_law rfl ⟨rfl, by decide, by decide⟩ fun outer s H E hr => b_law T G__law_at G__law_draw G__law_far_at G__law_listed G__law_pen G__law_pick G__law_slope G__law_ten G__law_wide_price GM_Price GM_Price_at GM_Price_more GM_Price_slope GK_Price_at GK_Price_slope GK_Price GH GE TBl2 hmT2 (fun p hp _ => by rw [hmT p hp]) (.ref cc) _ outer s H E hr rfl rfl
end K09
open PySem PySem.W PySem.Calls PyProof.Rows
set_option maxRecDepth 100000 in
set_option maxHeartbeats 0 in
theorem PySem.Challenge.cw_movesenough_k09_prices_step_by_step_holds : PySem.Challenge.rw_movesenough_k09_prices_step_by_step.Holds := by
  w_on; o_law
  refine HandSHeadRun.head_any (r := OpenLaw.row PySem.Challenge.rw_movesenough_k09_prices_step_by_step) (q := view (OpenLaw.row PySem.Challenge.rw_movesenough_k09_prices_step_by_step).prog [38]) (H := K09.hkL) (ob := K09.obL) (M := 12000) (loose := K09.namesL) (d := HandSHeadRun.topDef (OpenLaw.row PySem.Challenge.rw_movesenough_k09_prices_step_by_step).prog 38) (kwd := []) K09.obL_eq
    (by kernel_rfl) (fun s => by kernel_rfl) K09.runL (by kernel_rfl) (by kernel_rfl) (by kernel_rfl) (by rfl) (by first | assumption | decide +kernel) (by decide +kernel) ⟨rfl, rfl, rfl, rfl, rfl, by decide +kernel⟩ ?hw ?hc
  case hw => w_witness2
  case hc =>
    refine DE.walk_ofGE (l := PySem.Challenge.rw_movesenough_k09_prices_step_by_step) (n := 63) (x := "script") (CX := fun w => L2.CX PySem.Challenge.pw_movesenough_k09_prices_step_by_step w) rfl (by decide) (by kernel_rfl) ?F (fun _ _ _ _ _ ⟨_, _, _, _, _, _, _, _, _, _, _, _, z⟩ => z)
    intro w mg fa h Y G hmg0
    obtain ⟨K, KX, c⟩ := Y
    have hmg : mg ("law" : PySem.Str) = some (.ref fa) := by
      have e : (HandSHeadRun.topDef (OpenLaw.row PySem.Challenge.rw_movesenough_k09_prices_step_by_step).prog 38).name = ("law" : PySem.Str) := by kernel_rfl
      rw [← e]
      exact hmg0
    exact ⟨K, KX, K09.allL KX G hmg c⟩
