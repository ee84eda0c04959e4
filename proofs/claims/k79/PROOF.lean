import PyProof.Rows.All
import Wide.All
import OpenK.AllK
import Wide.FinOn
import HandS.ForMost
import HandS.ForExc
import HandS.TupAny
import HandS.TupMul
import HandS.IsInst
import HandS.CallSlots
import HandS.Wide
import HandS.Flow
import HandS.TupLe
import HandS.SortInts
import PyProof.ReprRoads
import PyProof.CallFns
import HandS.Walk
import HandS.StrMore
import KE.GoesMore
import HandS.Zip
import HandS.Style
import KE.KExcSuper
import KE.KTryMore
import HandS.ExcValue
import HandS.ExcIs
import HandS.ExcSuper
import HandS.ExcInit
import HandS.ExcField
import HandS.Defaults
import HandS.HeadHook1
import HandS.Ends
import HandS.HeadEnd
import HandS.Head0
import HandS.Head1
import HandS.Head2
import HandS.HeadHook2
import PySem.Challenge.RW_captionhouse_k79_whole_first_parting_fra
set_option Elab.async false
set_option linter.all false
set_option maxRecDepth 100000
set_option maxHeartbeats 1000000
namespace L2.Cap
open PySem PySem.Spec PyProof.Rows

/-- a value of a run: pure data, or an object that may change -/
inductive RV where
  | val (d : PyData)
  | ref (n : Nat)
  | exn (c : Str) (fs : List (Str × PyData))
/-- an object that may change (ro: it is only read) -/
inductive AO where
  | lst (xs : List RV)
  | ro (ds : List PyData)
  | dct (kvs : List (Key × RV))
  | gone
abbrev AH := List AO
inductive Out (A : Type) where
  | ok (a : A)
  | exc (c : Str) (fs : List (Str × PyData))
abbrev M (A : Type) := AH → Option (Out A × AH)
abbrev EnvD := List (Option RV)
abbrev DenE := EnvD → M RV
abbrev DenT := EnvD → M Bool
abbrev DenA := EnvD → M (List RV)

mutual
inductive RepD (K : PySem.W.Frag) (F : Addr → Prop) (H : Hp) : V → PyData → Prop
  | non : RepD K F H .non .none
  | bl (b : Bool) : RepD K F H (.bl b) (.bool b)
  | int (i : Int) : RepD K F H (.int i) (.int i)
  | str (x : Str) : RepD K F H (.str x) (.str x)
  | lst {a : Addr} {xs : List V} {ds : List PyData} : H a = some (.lst xs) → ¬ F a → RepDs K F H xs ds → RepD K F H (.ref a) (.list ds)
  | tup {a : Addr} {xs : List V} {ds : List PyData} : SqT K H a xs → RepDs K F H xs ds → RepD K F H (.ref a) (.tuple ds)
inductive RepDs (K : PySem.W.Frag) (F : Addr → Prop) (H : Hp) : List V → List PyData → Prop
  | nil : RepDs K F H [] []
  | cons {v : V} {vs : List V} {d : PyData} {ds : List PyData} : RepD K F H v d → RepDs K F H vs ds → RepDs K F H (v :: vs) (d :: ds)
end

structure Z where
  F : Addr → Prop
  r : Nat → Addr
  h : AH
  H : Hp

/-- an exception that was caught, at a: its class, its dict -/
def exv (a C : Addr) (d : Option Addr) : HO := .ext fun h => ∃ (oe : Obj) (vs : Array Value), h.get? a = some oe ∧ Zc (.ref C) d oe ∧ oe.data = .fields vs
/-- an exception's dict, as data -/
def XD (K : PySem.W.Frag) (z : Z) (d : Option Addr) (fs : List (Str × PyData)) : Prop := match d with
  | none => fs = []
  | some dd => ∃ ws, z.H dd = some (.xd ws) ∧ Paired (fun (p : Str × V) (q : Str × PyData) => p.1 = q.1 ∧ RepD K z.F z.H p.2 q.2) ws fs
inductive RepV (K : PySem.W.Frag) (z : Z) : V → RV → Prop
  | val {v : V} {d : PyData} : RepD K z.F z.H v d → RepV K z v (.val d)
  | ref {n : Nat} : n < z.h.length → RepV K z (.ref (z.r n)) (.ref n)
  | exn {a C : Addr} {d : Option Addr} {c : Str} {fs : List (Str × PyData)} : PySem.W.nsIn K mainGlobals c = some (some (.ref C)) → z.H a = some (exv a C d) → XD K z d fs → RepV K z (.ref a) (.exn c fs)
abbrev RepVs (K : PySem.W.Frag) (z : Z) : List V → List RV → Prop := Paired (RepV K z)
def RepO (K : PySem.W.Frag) (z : Z) (ho : HO) : AO → Prop
  | .lst xs => ∃ vs, ho = .lst vs ∧ RepVs K z vs xs
  | .ro _ => False
  | .dct kvs => ∃ ws, ho = .dK ws ∧ Paired (fun (p : Key × V) (q : Key × RV) => p.1 = q.1 ∧ RepV K z p.2 q.2) ws kvs
  | .gone => False
def AO.chg : AO → Bool
  | .lst _ => true
  | .dct _ => true
  | _ => false
def live (h : AH) (n : Nat) : Prop := ∃ o, h[n]? = some o ∧ o.chg = true
/-- a list that is only read: the script -/
def RoL (K : PySem.W.Frag) (H : Hp) (a : Addr) (xs : List V) : Prop := (∃ o, H a = some (.frz o (.lst xs))) ∨
  ∃ (o : Obj) (its : Array Value) (n : Nat), K.lookup a = some o ∧ o.cls = .type "list" ∧ o.dict = none ∧ o.data = .seq its n ∧ its.size ≤ sizeLine ∧ Vals xs its.toList
theorem RoL.sq {K : PySem.W.Frag} {H : Hp} {a : Addr} {xs : List V} (h : RoL K H a xs) : SqL K H a xs := by
  rcases h with h | h
  · exact .inl (.inr h)
  · exact .inr h
/-- a list that is only read from here on -/
def RoD (K : PySem.W.Frag) (F : Addr → Prop) (H : Hp) (a : Addr) (ds : List PyData) : Prop := (∃ vs, RoL K H a vs ∧ RepDs K F H vs ds) ∨ RepD K F H (.ref a) (.list ds)
theorem RoD.sq {K : PySem.W.Frag} {F : Addr → Prop} {H : Hp} {a : Addr} {ds : List PyData} (h : RoD K F H a ds) : ∃ vs, SqL K H a vs ∧ RepDs K F H vs ds := by
  rcases h with ⟨vs, h1, h2⟩ | r
  · exact ⟨vs, h1.sq, h2⟩
  · cases r with | lst h _ r => exact ⟨_, .inl (.inl h), r⟩
structure Good (K : PySem.W.Frag) (z : Z) : Prop where
  obj : ∀ n o, z.h[n]? = some o → o.chg = true → z.F (z.r n) ∧ ∃ ho, z.H (z.r n) = some ho ∧ RepO K z ho o
  ro : ∀ n ds, z.h[n]? = some (.ro ds) → RoD K z.F z.H (z.r n) ds
  inj : ∀ n m, live z.h n → live z.h m → z.r n = z.r m → n = m
  trk : ∀ a, z.F a → z.H a ≠ none
structure Ext (z z' : Z) : Prop where
  len : z.h.length ≤ z'.h.length
  agree : ∀ n, n < z.h.length → z'.r n = z.r n
  fresh : ∀ n, z.h.length ≤ n → n < z'.h.length → z.H (z'.r n) = none
  dead : ∀ n, live z'.h n → n < z.h.length → live z.h n
  keep : ∀ b o, z.H b = some o → (∀ n, live z.h n → z.r n ≠ b) → z'.H b = some o
  there : ∀ b, z.H b ≠ none → z'.H b ≠ none
  forb : ∀ a, z'.F a → z.F a ∨ z.H a = none
  hold : ∀ a, z.F a → (∀ n, live z.h n → z.r n ≠ a) → z'.F a

theorem live_lt {h : AH} {n : Nat} (l : live h n) : n < h.length := by
  obtain ⟨o, e, _⟩ := l
  exact (List.getElem?_eq_some_iff.mp e).1
theorem Ext.refl (z : Z) : Ext z z :=
  ⟨Nat.le_refl _, fun _ _ => rfl, fun n h1 h2 => absurd h2 (Nat.not_lt.mpr h1), fun _ l _ => l, fun _ _ e _ => e, fun _ h => h, fun _ h => .inl h, fun _ h _ => h⟩
theorem Ext.out {z z' : Z} (e : Ext z z') {b : Addr} (hb : z.H b ≠ none) (hn : ∀ n, live z.h n → z.r n ≠ b) : ∀ n, live z'.h n → z'.r n ≠ b := by
  intro n l q
  by_cases hl : n < z.h.length
  · exact hn n (e.dead n l hl) (by rw [← e.agree n hl]; exact q)
  · exact hb (by rw [← q]; exact e.fresh n (Nat.not_lt.mp hl) (live_lt l))
theorem Ext.trans {z z1 z2 : Z} (a : Ext z z1) (b : Ext z1 z2) (t : ∀ x, z.F x → z.H x ≠ none) : Ext z z2 where
  len := Nat.le_trans a.len b.len
  agree := fun n h => (b.agree n (Nat.lt_of_lt_of_le h a.len)).trans (a.agree n h)
  fresh := fun n h1 h2 => by
    by_cases hl : n < z1.h.length
    · rw [b.agree n hl]
      exact a.fresh n h1 hl
    · have q := b.fresh n (Nat.not_lt.mp hl) h2
      cases e : z.H (z2.r n) with
      | none => rfl
      | some o => exact absurd q (a.there _ (by rw [e]; intro c; cases c))
  dead := fun n l h => a.dead n (b.dead n l (Nat.lt_of_lt_of_le h a.len)) h
  keep := fun x o e hn => b.keep x o (a.keep x o e hn) (a.out (by rw [e]; intro c; cases c) hn)
  there := fun x h => b.there x (a.there x h)
  forb := fun x h => by
    rcases b.forb x h with q | q
    · exact a.forb x q
    · right
      cases e : z.H x with
      | none => rfl
      | some o => exact absurd q (a.there _ (by rw [e]; intro c; cases c))
  hold := fun x f hn => b.hold x (a.hold x f hn) (a.out (t x f) hn)

section
variable {K : PySem.W.Frag} {z z' : Z}
theorem Good.nolive (g : Good K z) {b : Addr} (hb : ¬ z.F b) : ∀ n, live z.h n → z.r n ≠ b := by
  rintro n ⟨o, e, ng⟩ q
  exact hb (by rw [← q]; exact (g.obj n o e ng).1)
theorem Good.noliveH (g : Good K z) {b : Addr} {u : HO} (hb : z.H b = some u) (h1 : ∀ vs, u ≠ .lst vs) (h2 : ∀ ws, u ≠ .dK ws) : ∀ n, live z.h n → z.r n ≠ b := by
  rintro n ⟨o, e, ng⟩ q
  obtain ⟨ho, eh, r⟩ := (g.obj n o e ng).2
  rw [q, hb] at eh
  cases eh
  cases o with
  | lst xs => obtain ⟨vs, e, _⟩ := r; exact h1 vs e
  | ro ds => exact r
  | dct kvs => obtain ⟨ws, e, _⟩ := r; exact h2 ws e
  | gone => exact r
theorem SqT.ext (g : Good K z) (e : Ext z z') {a : Addr} {xs : List V} (h : SqT K z.H a xs) : SqT K z'.H a xs := by
  rcases h with (h | ⟨o, h⟩) | h
  · exact .inl (.inl (e.keep _ _ h (g.noliveH h (fun _ q => by cases q) (fun _ q => by cases q))))
  · exact .inl (.inr ⟨o, e.keep _ _ h (g.noliveH h (fun _ q => by cases q) (fun _ q => by cases q))⟩)
  · exact .inr h
theorem RoL.ext (g : Good K z) (e : Ext z z') {a : Addr} {xs : List V} (h : RoL K z.H a xs) : RoL K z'.H a xs := by
  rcases h with ⟨o, h⟩ | h
  · exact .inl ⟨o, e.keep _ _ h (g.noliveH h (fun _ q => by cases q) (fun _ q => by cases q))⟩
  · exact .inr h
mutual
theorem RepD.ext (g : Good K z) (e : Ext z z') : ∀ {v : V} {d : PyData}, RepD K z.F z.H v d → RepD K z'.F z'.H v d
  | _, _, .non => .non
  | _, _, .bl b => .bl b
  | _, _, .int i => .int i
  | _, _, .str x => .str x
  | _, _, .lst h nf r => .lst (e.keep _ _ h (g.nolive nf)) (fun q => by
      rcases e.forb _ q with q | q
      · exact nf q
      · rw [h] at q; cases q) (RepDs.ext g e r)
  | _, _, .tup h r => .tup (SqT.ext g e h) (RepDs.ext g e r)
theorem RepDs.ext (g : Good K z) (e : Ext z z') : ∀ {vs : List V} {ds : List PyData}, RepDs K z.F z.H vs ds → RepDs K z'.F z'.H vs ds
  | _, _, .nil => .nil
  | _, _, .cons a b => .cons (RepD.ext g e a) (RepDs.ext g e b)
end
theorem RoD.ext (g : Good K z) (e : Ext z z') {a : Addr} {ds : List PyData} (h : RoD K z.F z.H a ds) : RoD K z'.F z'.H a ds := by
  rcases h with ⟨vs, h1, h2⟩ | r
  · exact .inl ⟨vs, h1.ext g e, RepDs.ext g e h2⟩
  · exact .inr (RepD.ext g e r)
theorem paired_ext (g : Good K z) (e : Ext z z') {ws : List (Str × V)} {fs : List (Str × PyData)} (r : Paired (fun (p : Str × V) (q : Str × PyData) => p.1 = q.1 ∧ RepD K z.F z.H p.2 q.2) ws fs) :
    Paired (fun (p : Str × V) (q : Str × PyData) => p.1 = q.1 ∧ RepD K z'.F z'.H p.2 q.2) ws fs := by
  induction r with
  | nil => exact .nil
  | cons a _ ih => exact .cons ⟨a.1, a.2.ext g e⟩ ih
theorem XD.ext (g : Good K z) (e : Ext z z') {d : Option Addr} {fs : List (Str × PyData)} (r : XD K z d fs) : XD K z' d fs := by
  cases d with
  | none => exact r
  | some dd =>
    obtain ⟨ws, h1, h2⟩ := r
    exact ⟨ws, e.keep _ _ h1 (g.noliveH h1 (fun _ q => by cases q) (fun _ q => by cases q)), paired_ext g e h2⟩
theorem exv_lst {a C : Addr} {d : Option Addr} (vs : List V) : exv a C d ≠ .lst vs := fun q => by unfold exv at q; cases q
theorem exv_dK {a C : Addr} {d : Option Addr} (vs : List (Key × V)) : exv a C d ≠ .dK vs := fun q => by unfold exv at q; cases q
theorem RepV.ext (g : Good K z) (e : Ext z z') {v : V} {x : RV} (r : RepV K z v x) : RepV K z' v x := by
  cases r with
  | val r => exact .val (r.ext g e)
  | exn n h x => exact .exn n (e.keep _ _ h (g.noliveH h exv_lst exv_dK)) (x.ext g e)
  | ref h =>
    rw [← e.agree _ h]
    exact .ref (Nat.lt_of_lt_of_le h e.len)
/-- the same exception, told of another state -/
theorem XD.to (hk : ∀ b o, z.H b = some o → (∀ vs, o ≠ .lst vs) → (∀ ws, o ≠ .dK ws) → z'.H b = some o) (hr : ∀ {v : V} {d : PyData}, RepD K z.F z.H v d → RepD K z'.F z'.H v d) {d : Option Addr} {fs : List (Str × PyData)} (r : XD K z d fs) : XD K z' d fs := by
  cases d with
  | none => exact r
  | some dd =>
    obtain ⟨ws, h1, h2⟩ := r
    refine ⟨ws, hk _ _ h1 (fun _ q => by cases q) (fun _ q => by cases q), ?_⟩
    clear h1
    induction h2 with
    | nil => exact .nil
    | cons a _ ih => exact .cons ⟨a.1, hr a.2⟩ ih
theorem RepV.exnTo (hk : ∀ b o, z.H b = some o → (∀ vs, o ≠ .lst vs) → (∀ ws, o ≠ .dK ws) → z'.H b = some o) (hr : ∀ {v : V} {d : PyData}, RepD K z.F z.H v d → RepD K z'.F z'.H v d) {v : V} {c : Str} {fs : List (Str × PyData)} (r : RepV K z v (.exn c fs)) : RepV K z' v (.exn c fs) := by
  cases r with
  | exn n h x => exact .exn n (hk _ _ h exv_lst exv_dK) (x.to hk hr)
theorem RepVs.ext (g : Good K z) (e : Ext z z') : ∀ {vs : List V} {xs : List RV}, RepVs K z vs xs → RepVs K z' vs xs
  | _, _, .nil => .nil
  | _, _, .cons a b => .cons (RepV.ext g e a) (RepVs.ext g e b)

/-- the slots -/
structure RepE (K : PySem.W.Frag) (z : Z) (env : EnvD) (σ : St) : Prop where
  len : env.length = σ.length
  at' : ∀ (i : Nat) (x : RV), env[i]? = some (some x) → ∃ v, σ[i]? = some (some v) ∧ RepV K z v x
theorem RepE.ext (g : Good K z) (e : Ext z z') {env : EnvD} {σ : St} (r : RepE K z env σ) : RepE K z' env σ :=
  ⟨r.len, fun i x h => let ⟨v, a, b⟩ := r.at' i x h; ⟨v, a, b.ext g e⟩⟩
theorem RepE.set {env : EnvD} {σ : St} (r : RepE K z env σ) {v : V} {x : RV} (rv : RepV K z v x) (i : Nat) : RepE K z (env.set i (some x)) (σ.set i (some v)) := by
  refine ⟨by simp [r.len], fun j y h => ?_⟩
  by_cases hj : j = i
  · subst hj
    have hl : j < env.length := by
      have := (List.getElem?_eq_some_iff.mp h).1
      simpa using this
    rw [List.getElem?_set_self hl] at h
    cases h
    exact ⟨v, by rw [List.getElem?_set_self (by rw [← r.len]; exact hl)], rv⟩
  · rw [List.getElem?_set_ne (Ne.symm hj)] at h ⊢
    exact r.at' j y h

/-! ### endings -/
def Fin (K : PySem.W.Frag) (z : Z) {A : Type} (o : Option (Out A × AH)) (P : A → Z → Prop) (E : Str → List (Str × PyData) → Z → Prop) : Prop :=
  match o with
  | none => False
  | some (.ok a, h') => ∀ z', z'.h = h' → Good K z' → Ext z z' → P a z'
  | some (.exc c fs, h') => ∀ z', z'.h = h' → Good K z' → Ext z z' → E c fs z'

/-- how an exception lies -/
def RepX (K : PySem.W.Frag) (mg : Str → Option Value) (z : Z) (c : Str) (fs : List (Str × PyData)) (cls : Value) (dx : Option Addr) : Prop :=
  mg c = some cls ∧ XD K z dx fs

def bindM {A B : Type} (m : M A) (f : A → M B) : M B := fun h => match m h with
  | none => none
  | some (.exc c fs, h') => some (.exc c fs, h')
  | some (.ok a, h') => f a h'
def retM {A : Type} (a : A) : M A := fun h => some (.ok a, h)

theorem Fin.imp {A : Type} {o : Option (Out A × AH)} {P P' : A → Z → Prop} {E E' : Str → List (Str × PyData) → Z → Prop} (h : Fin K z o P E)
    (hp : ∀ a z', Good K z' → Ext z z' → P a z' → P' a z') (he : ∀ c fs z', Good K z' → Ext z z' → E c fs z' → E' c fs z') : Fin K z o P' E' := by
  unfold Fin at h ⊢
  split at h
  · exact h
  · intro z' e g x
    exact hp _ _ g x (h z' e g x)
  · intro z' e g x
    exact he _ _ _ g x (h z' e g x)
/-- a first part, then the rest from where it ends -/
theorem Fin.bind {A B : Type} {m : M A} {f : A → M B} {P : B → Z → Prop} {E : Str → List (Str × PyData) → Z → Prop} (g : Good K z) (h : Fin K z (bindM m f z.h) P E) :
    Fin K z (m z.h) (fun a z1 => Fin K z1 (f a z1.h) P E) E := by
  unfold bindM at h
  revert h
  cases e : m z.h with
  | none => exact fun h => h
  | some p =>
    obtain ⟨o, h'⟩ := p
    cases o with
    | exc c fs => exact fun h => h
    | ok a =>
      intro h z1 e1 g1 x1
      have h2 : Fin K z (f a h') P E := h
      subst e1
      unfold Fin at h2 ⊢
      revert h2
      split
      · exact fun h => h
      · exact fun h z' e' g' x' => h z' e' g' (x1.trans x' g.trk)
      · exact fun h z' e' g' x' => h z' e' g' (x1.trans x' g.trk)
theorem Fin.ret {A : Type} {a : A} {P : A → Z → Prop} {E : Str → List (Str × PyData) → Z → Prop} (g : Good K z) (h : Fin K z (retM a z.h) P E) : P a z := h z rfl g (Ext.refl z)
end
end L2.Cap

set_option maxRecDepth 100000
set_option maxHeartbeats 1000000
namespace L2.Cap
open PySem PySem.Spec PyProof.Rows

section
variable {K : PySem.W.Frag} {z z' : Z}
theorem RepO.ext (g : Good K z) (e : Ext z z') {ho : HO} {o : AO} (r : RepO K z ho o) : RepO K z' ho o := by
  cases o with
  | lst xs => obtain ⟨vs, a, b⟩ := r; exact ⟨vs, a, b.ext g e⟩
  | ro ds => exact r
  | dct kvs =>
    obtain ⟨ws, a, b⟩ := r
    exact ⟨ws, a, Paired.mapP b fun p q h => ⟨h.1, h.2.ext g e⟩⟩
  | gone => exact r
/-- a new object that is no part of what changes -/
def Z.at (z : Z) (p : Addr) (o : HO) : Z := { z with H := upd z.H p o }
theorem Ext.new (g : Good K z) {p : Addr} (o : HO) (hp : z.H p = none) : Ext z (z.at p o) where
  len := Nat.le_refl _
  agree := fun _ _ => rfl
  fresh := fun n h1 h2 => absurd h2 (Nat.not_lt.mpr h1)
  dead := fun _ l _ => l
  keep := fun b u e _ => by show upd z.H p o b = _; rw [upd_ne (ne_of_none e hp)]; exact e
  there := fun b h => by
    show upd z.H p o b ≠ none
    by_cases hb : b = p
    · subst hb; rw [upd_same]; intro c; cases c
    · rw [upd_ne hb]; exact h
  forb := fun _ h => .inl h
  hold := fun _ h _ => h
theorem Good.new (g : Good K z) {p : Addr} (o : HO) (hp : z.H p = none) : Good K (z.at p o) where
  obj := fun n u e ng => by
    obtain ⟨f, ho, eh, r⟩ := g.obj n u e ng
    refine ⟨f, ho, ?_, r.ext g (Ext.new g o hp)⟩
    show upd z.H p o (z.r n) = _
    rw [upd_ne (ne_of_none eh hp)]
    exact eh
  ro := fun n ds e => by
    exact (g.ro n ds e).ext g (Ext.new g o hp)
  inj := g.inj
  trk := fun a f => (Ext.new g o hp).there a (g.trk a f)
theorem Good.free (g : Good K z) {p : Addr} (hp : z.H p = none) : ¬ z.F p := fun f => g.trk p f hp

/-- data as they may be read: the list itself may be one that changes -/
inductive RepW (K : PySem.W.Frag) (z : Z) : V → PyData → Prop
  | d {v : V} {d : PyData} : RepD K z.F z.H v d → RepW K z v d
  | l {a : Addr} {vs : List V} {ds : List PyData} : z.H a = some (.lst vs) → RepDs K z.F z.H vs ds → RepW K z (.ref a) (.list ds)
def vals : List RV → Option (List PyData)
  | [] => some []
  | .val d :: r => (vals r).map (d :: ·)
  | .ref _ :: _ => none
  | .exn _ _ :: _ => none
def view (x : RV) (h : AH) : Option PyData := match x with
  | .val d => some d
  | .ref n => match h[n]? with
    | some (.lst xs) => (vals xs).map .list
    | _ => none
  | .exn _ _ => none
theorem vals_rep : ∀ {vs : List V} {xs : List RV} {ds : List PyData}, RepVs K z vs xs → vals xs = some ds → RepDs K z.F z.H vs ds
  | _, _, _, .nil, e => by cases e; exact .nil
  | _, _, _, .cons (b := x) (l₂ := xs) r t, e => by
    cases r with
    | ref h => cases e
    | exn _ _ _ => cases e
    | val r =>
      rename_i d
      have e2 : (vals xs).map (d :: ·) = some _ := e
      cases q : vals xs with
      | none => rw [q] at e2; cases e2
      | some ds =>
        rw [q] at e2
        cases e2
        exact .cons r (vals_rep t q)
theorem view_rep (g : Good K z) {v : V} {x : RV} {d : PyData} (r : RepV K z v x) (e : view x z.h = some d) : RepW K z v d := by
  cases r with
  | val r => cases e; exact .d r
  | exn _ _ _ => cases e
  | ref h =>
    rename_i n
    unfold view at e
    simp only at e
    split at e
    · rename_i xs q
      obtain ⟨_, ho, eh, vs, rfl, rr⟩ := g.obj n _ q rfl
      cases q2 : vals xs with
      | none => rw [q2] at e; cases e
      | some ds =>
        rw [q2] at e
        cases e
        exact .l eh (vals_rep rr q2)
    · cases e
mutual
theorem RepD.dp {F : Addr → Prop} {H : Hp} : ∀ {v : V} {d : PyData}, RepD K F H v d → Dp K H v d
  | _, _, .non => .non
  | _, _, .bl b => .bl b
  | _, _, .int i => .int i
  | _, _, .str x => .str x
  | _, _, .lst h _ r => .lst (SqL.of h) (RepDs.dp r)
  | _, _, .tup h r => .tup h (RepDs.dp r)
theorem RepDs.dp {F : Addr → Prop} {H : Hp} : ∀ {vs : List V} {ds : List PyData}, RepDs K F H vs ds → DpAll K H vs ds
  | _, _, .nil => .nil
  | _, _, .cons a b => .cons (RepD.dp a) (RepDs.dp b)
end
theorem RepW.dp {v : V} {d : PyData} (r : RepW K z v d) : Dp K z.H v d := by
  cases r with
  | d r => exact r.dp
  | l h r => exact .lst (SqL.of h) r.dp
theorem RepW.lst {v : V} {ds : List PyData} (r : RepW K z v (.list ds)) : ∃ a vs, v = .ref a ∧ z.H a = some (.lst vs) ∧ RepDs K z.F z.H vs ds := by
  cases r with
  | d r => cases r with | lst h _ r => exact ⟨_, _, rfl, h, r⟩
  | l h r => exact ⟨_, _, rfl, h, r⟩
theorem RepW.tup {v : V} {ds : List PyData} (r : RepW K z v (.tuple ds)) : ∃ a vs, v = .ref a ∧ SqT K z.H a vs ∧ RepDs K z.F z.H vs ds ∧ RepD K z.F z.H v (.tuple ds) := by
  cases r with
  | d r => cases r with | tup h r => exact ⟨_, _, rfl, h, r, .tup h r⟩
theorem RepW.int {v : V} {i : Int} (r : RepW K z v (.int i)) : v = .int i := by
  cases r with | d r => cases r; rfl
theorem RepW.str {v : V} {x : Str} (r : RepW K z v (.str x)) : v = .str x := by
  cases r with | d r => cases r; rfl
theorem RepW.bl {v : V} {x : Bool} (r : RepW K z v (.bool x)) : v = .bl x := by
  cases r with | d r => cases r; rfl
theorem RepW.non {v : V} (r : RepW K z v .none) : v = .non := by
  cases r with | d r => cases r; rfl
theorem RepDs.length {F : Addr → Prop} {H : Hp} : ∀ {vs : List V} {ds : List PyData}, RepDs K F H vs ds → vs.length = ds.length
  | _, _, .nil => rfl
  | _, _, .cons _ b => by rw [List.length_cons, List.length_cons, RepDs.length b]
theorem RepDs.append {F : Addr → Prop} {H : Hp} : ∀ {vs ws : List V} {ds es : List PyData}, RepDs K F H vs ds → RepDs K F H ws es → RepDs K F H (vs ++ ws) (ds ++ es)
  | _, _, _, _, .nil, r => r
  | _, _, _, _, .cons a b, r => .cons a (RepDs.append b r)
theorem RepDs.get {F : Addr → Prop} {H : Hp} : ∀ {vs : List V} {ds : List PyData} {i : Nat} {d : PyData}, RepDs K F H vs ds → ds[i]? = some d → ∃ v, vs[i]? = some v ∧ RepD K F H v d
  | _, _, _, _, .nil, e => by simp at e
  | _, _, 0, _, .cons a _, e => by
    simp at e
    subst e
    exact ⟨_, rfl, a⟩
  | _, _, i + 1, _, .cons _ b, e => by
    obtain ⟨v, h1, h2⟩ := RepDs.get (i := i) b (by simpa using e)
    exact ⟨v, by simpa using h1, h2⟩
theorem RepDs.take {F : Addr → Prop} {H : Hp} : ∀ {vs : List V} {ds : List PyData} (n : Nat), RepDs K F H vs ds → RepDs K F H (vs.take n) (ds.take n)
  | _, _, 0, _ => by rw [List.take_zero, List.take_zero]; exact .nil
  | _, _, _ + 1, .nil => .nil
  | _, _, n + 1, .cons a b => .cons a (RepDs.take n b)
theorem RepDs.drop {F : Addr → Prop} {H : Hp} : ∀ {vs : List V} {ds : List PyData} (n : Nat), RepDs K F H vs ds → RepDs K F H (vs.drop n) (ds.drop n)
  | _, _, 0, r => r
  | _, _, _ + 1, .nil => .nil
  | _, _, n + 1, .cons _ b => RepDs.drop n b
theorem RepDs.rep {F : Addr → Prop} {H : Hp} {vs : List V} {ds : List PyData} (r : RepDs K F H vs ds) : ∀ n : Nat, RepDs K F H (List.replicate n vs).flatten (List.replicate n ds).flatten
  | 0 => .nil
  | n + 1 => by
    rw [List.replicate_succ, List.replicate_succ, List.flatten_cons, List.flatten_cons]
    exact r.append (RepDs.rep r n)
theorem RepDs.rev {F : Addr → Prop} {H : Hp} : ∀ {vs : List V} {ds : List PyData}, RepDs K F H vs ds → RepDs K F H vs.reverse ds.reverse
  | _, _, .nil => .nil
  | _, _, .cons a b => by
    rw [List.reverse_cons, List.reverse_cons]
    exact (RepDs.rev b).append (.cons a .nil)
theorem RepDs.toVs : ∀ {vs : List V} {ds : List PyData}, RepDs K z.F z.H vs ds → RepVs K z vs (ds.map .val)
  | _, _, .nil => .nil
  | _, _, .cons a b => .cons (.val a) (RepDs.toVs b)

/-- a new list, a new tuple -/
theorem new_lst (g : Good K z) {p : Addr} {vs : List V} {ds : List PyData} (hp : z.H p = none) (r : RepDs K z.F z.H vs ds) : RepD K (z.at p (.lst vs)).F (z.at p (.lst vs)).H (.ref p) (.list ds) :=
  .lst upd_same (g.free hp) (r.ext g (Ext.new g _ hp))
theorem new_tup (g : Good K z) {p : Addr} {vs : List V} {ds : List PyData} (hp : z.H p = none) (r : RepDs K z.F z.H vs ds) : RepD K (z.at p (.tup vs)).F (z.at p (.tup vs)).H (.ref p) (.tuple ds) :=
  .tup (SqT.of upd_same) (r.ext g (Ext.new g _ hp))
end

/-! ### operators over data -/
/-- what is wanted of a datum that comes: Q, wherever it lies -/
def Gives (K : PySem.W.Frag) (z : Z) (d : PyData) (Q : VK) : Prop := ∀ z', z'.h = z.h → Good K z' → Ext z z' → ∀ v, RepD K z'.F z'.H v d → Q v z'.H
section
variable {K : PySem.W.Frag} {z : Z} {Q : VK}
theorem Gives.here (g : Good K z) {d : PyData} {v : V} (q : Gives K z d Q) (r : RepD K z.F z.H v d) : Q v z.H := q z rfl g (Ext.refl z) v r
theorem Gives.lst (g : Good K z) {vs : List V} {ds : List PyData} (q : Gives K z (.list ds) Q) (r : RepDs K z.F z.H vs ds) : ∀ p, z.H p = none → Q (.ref p) (upd z.H p (.lst vs)) :=
  fun p hp => q (z.at p (.lst vs)) rfl (g.new _ hp) (Ext.new g _ hp) _ (new_lst g hp r)
theorem Gives.tup (g : Good K z) {vs : List V} {ds : List PyData} (q : Gives K z (.tuple ds) Q) (r : RepDs K z.F z.H vs ds) : ∀ p, z.H p = none → Q (.ref p) (upd z.H p (.tup vs)) :=
  fun p hp => q (z.at p (.tup vs)) rfl (g.new _ hp) (Ext.new g _ hp) _ (new_tup g hp r)
end
def rD2 (K : PySem.W.Frag) (f : PyData → PyData → Option PyData) : R2 := fun x y H Q => ∃ (z : Z) (a b d : PyData), z.H = H ∧ Good K z ∧ RepW K z x a ∧ RepW K z y b ∧ f a b = some d ∧ Gives K z d Q
theorem OpR.imp {X : Cx} {f : Value → Value → Sem Value} {r r' : R2} (h : OpR X f r) (i : ∀ x y H Q, r' x y H Q → r x y H Q) : OpR X f r' :=
  fun pins s σ H x y v u Q I rx ry q => h pins s σ H x y v u Q I rx ry (i _ _ _ _ q)

def addD : PyData → PyData → Option PyData
  | .int i, .int j => some (.int (i + j))
  | .str a, .str b => if a.length + b.length ≤ sizeLine then some (.str (a ++ b)) else none
  | .list a, .list b => if a.length + b.length ≤ sizeLine then some (.list (a ++ b)) else none
  | .tuple a, .tuple b => if a.length + b.length ≤ sizeLine then some (.tuple (a ++ b)) else none
  | _, _ => none
def subD : PyData → PyData → Option PyData
  | .int i, .int j => some (.int (i - j))
  | _, _ => none
def fdivD : PyData → PyData → Option PyData
  | .int i, .int j => if 0 < j ∧ j.natAbs.log2 < 9000 then some (.int (i / j)) else none
  | _, _ => none
def modD : PyData → PyData → Option PyData
  | .int i, .int j => if 0 < j then some (.int (i % j)) else none
  | _, _ => none
def powD : PyData → PyData → Option PyData
  | .int i, .int j => if 0 ≤ j ∧ j ≤ 1000000 ∧ i.natAbs < 2 ^ 64 then some (.int (i ^ j.toNat)) else none
  | _, _ => none
section
variable {X : Cx}
theorem opd_add : OpR X (binaryOp .Add) (rD2 X.K addD) := by
  refine OpR.imp (op_add.or (op_add_str.or (op_cat.or op_catA))) ?_
  rintro x y H Q ⟨z, a, b, d, rfl, g, ra, rb, e, q⟩
  unfold addD at e
  split at e
  · cases e
    exact .inl ⟨_, _, ra.int, rb.int, q.here g (.int _)⟩
  · split at e
    · rename_i hl
      cases e
      exact .inr (.inl ⟨_, _, ra.str, rb.str, hl, q.here g (.str _)⟩)
    · cases e
  · split at e
    · rename_i hl
      cases e
      obtain ⟨p, vs, rfl, hp, rp⟩ := ra.lst
      obtain ⟨p2, vs2, rfl, hp2, rp2⟩ := rb.lst
      exact .inr (.inr (.inl ⟨p, p2, vs, vs2, rfl, rfl, hp, hp2, by rw [rp.length, rp2.length]; exact hl, q.lst g (rp.append rp2)⟩))
    · cases e
  · split at e
    · rename_i hl
      cases e
      obtain ⟨p, vs, rfl, hp, rp, rd⟩ := ra.tup
      obtain ⟨p2, vs2, rfl, hp2, rp2, rd2⟩ := rb.tup
      refine .inr (.inr (.inr ⟨p, p2, vs, vs2, rfl, rfl, hp, hp2, by rw [rp.length, rp2.length]; exact hl, fun e => ?_, fun _ e => ?_, fun _ _ => q.tup g (rp.append rp2)⟩))
      · subst e
        cases rp
        exact q.here g rd2
      · subst e
        cases rp2
        rw [List.append_nil] at q
        exact q.here g rd
    · cases e
  · cases e
theorem opd_sub : OpR X (binaryOp .Sub) (rD2 X.K subD) := by
  refine OpR.imp op_sub ?_
  rintro x y H Q ⟨z, a, b, d, rfl, g, ra, rb, e, q⟩
  unfold subD at e
  split at e
  · cases e
    exact ⟨_, _, ra.int, rb.int, q.here g (.int _)⟩
  · cases e
theorem opd_fdiv : OpR X (binaryOp .FloorDiv) (rD2 X.K fdivD) := by
  refine OpR.imp op_fdivW ?_
  rintro x y H Q ⟨z, a, b, d, rfl, g, ra, rb, e, q⟩
  unfold fdivD at e
  split at e
  · split at e
    · rename_i hc
      cases e
      exact ⟨_, _, ra.int, rb.int, hc, q.here g (.int _)⟩
    · cases e
  · cases e
theorem opd_mod : OpR X (binaryOp .Mod) (rD2 X.K modD) := by
  refine OpR.imp op_mod ?_
  rintro x y H Q ⟨z, a, b, d, rfl, g, ra, rb, e, q⟩
  unfold modD at e
  split at e
  · split at e
    · rename_i hc
      cases e
      exact ⟨_, _, ra.int, rb.int, hc, q.here g (.int _)⟩
    · cases e
  · cases e
theorem opd_pow : OpR X (binaryOp .Pow) (rD2 X.K powD) := by
  refine OpR.imp op_pow ?_
  rintro x y H Q ⟨z, a, b, d, rfl, g, ra, rb, e, q⟩
  unfold powD at e
  split at e
  · split at e
    · rename_i hc
      cases e
      exact ⟨_, _, ra.int, rb.int, hc, q.here g (.int _)⟩
    · cases e
  · cases e
end

/-! ### times -/
section
variable {X : Cx}
theorem tuple_mulSame (l : Addr) (items : Array Value) (n : Nat) (dd : Option Addr) (sl : Array (Option Value)) (x : Int) (u : Tok) (c0 : (decide (x < -(2 ^ 63)) || decide (x ≥ 2 ^ 63)) = false) (c1 : (items.isEmpty || x == 1) = true) :
    Meets (Builtin.«tuple.__mul__» ⟨[.ref l, .int x u], []⟩) (fun _ R s => s.heap.get? l = some { cls := .type "tuple", dict := dd, data := .seq items n, slots := sl } ∧ R (.ok (.ret (Value.ref l))) s) :=
  .of_wp fun prog w A R s h => by
    obtain ⟨hp, g, d, tk, os⟩ := s
    obtain ⟨hl, h⟩ := h
    have f1 := AutoSeq1.idx_int
    wp_walk using wpAny_loadPart' hl
    repeat (first
      | (refine wpAny_ite_false (decide_eq_false (by rw [c0]; exact Bool.false_ne_true)) ?_; wp_walk using wpAny_loadPart' hl)
      | (refine wpAny_ite_true (decide_eq_true c1) ?_; wp_walk using wpAny_loadPart' hl))
    exact ⟨_, rfl, h⟩
end
end L2.Cap

set_option maxRecDepth 100000
set_option maxHeartbeats 1000000
namespace L2.Cap
open PySem PySem.Spec PyProof.Rows
section
variable {X : Cx}
/-- t * 1 is t -/
theorem op_repT1 : OpR X (binaryOp .Mult) (fun x y H Q => ∃ l xs, x = .ref l ∧ y = .int 1 ∧ SqT X.K H l xs ∧ Q (.ref l) H) := by
  intro pins s σ H x y v u Q I rx ry h
  obtain ⟨l, xs, rfl, rfl, hT, q⟩ := h
  cases rx
  obtain ⟨t, rfl⟩ := ry
  obtain ⟨its, r, ⟨⟨cls, dd, data, sl⟩, ho, hc, n, hd⟩, hs⟩ := I.tuple hT
  simp only at hc hd
  subst hc hd
  refine wpAny_binaryOp_repeat_ref (T := "tuple") (U := "int") (by decide) ⟨_, ho, rfl⟩ (fun s' => typeIs_int s' 1 t) noFill_tuple_mul F.fills_int_mul F.slot_int_rmul repeat_tuple F.slot_int_index.lookup
    (call_meets F.slot_int_rmul (typeIs_int s 1 t) F.entry_int_rmul (F.args_int_rmul_2 _ _) (int_rmul_tuple 1 t l its.toArray n dd sl)
      ⟨ho, rfl, ⟨_, ho, rfl⟩, call_meets F.slot_tuple_mul ⟨_, ho, rfl⟩ F.entry_tuple_mul (F.args_tuple_mul_2 _ _)
        (tuple_mulSame l its.toArray n dd sl 1 t (by decide) (by simp)) ⟨ho, ?_⟩⟩)
  exact ⟨.ref l, H, I, rfl, q⟩
theorem op_repS : OpR X (binaryOp .Mult) (fun x y H Q => ∃ z n, x = .str z ∧ y = .int n ∧ MulOk z n ∧ Q (.str (Txt.mul z n)) H) := by
  intro pins s σ H x y v u Q I rx ry h
  obtain ⟨z, n, rfl, rfl, ok, q⟩ := h
  obtain ⟨t, rfl⟩ := rx
  obtain ⟨t', rfl⟩ := ry
  exact SB.mul ok fun t' k => ⟨.str _, H, I.tok _, ⟨_, rfl⟩, q⟩
end
theorem mulOk_of {x : Str} {n : Int} (h1 : -(2 ^ 62) ≤ n) (h2 : n < 2 ^ 62) (h3 : x.length * n.toNat ≤ sizeLine) : MulOk x n := by
  have hs := sizeLine_eq
  refine ⟨?_, fun hn hz => ?_, fun _ _ => ?_⟩
  · rw [decide_eq_false (by omega), decide_eq_false (by omega)]; rfl
  · have hn1 : 1 ≤ n := by omega
    intro hgt
    have q : (x.length : Int) * n ≤ 16777216 := by
      have : ((x.length * n.toNat : Nat) : Int) ≤ 16777216 := by omega
      rw [Int.natCast_mul, Int.toNat_of_nonneg (by omega)] at this
      exact this
    have : ((2 ^ 63 - 1 : Int) / n) * n < (x.length : Int) * n := Int.mul_lt_mul_of_pos_right hgt (by omega)
    have hd : (2 ^ 63 - 1 : Int) = n * ((2 ^ 63 - 1) / n) + (2 ^ 63 - 1) % n := (Int.mul_ediv_add_emod _ _).symm
    have hm : (2 ^ 63 - 1 : Int) % n < n := Int.emod_lt_of_pos _ (by omega)
    rw [Int.mul_comm] at hd
    omega
  · show decide (x.length * n.toNat > sizeLine) = false
    exact decide_eq_false (by omega)
def mulD : PyData → PyData → Option PyData
  | .int i, .int j => if i.natAbs.log2 + j.natAbs.log2 < 1000000 ∨ (-(2 ^ 64) < i ∧ i < 2 ^ 64) ∨ (-(2 ^ 64) < j ∧ j < 2 ^ 64) then some (.int (i * j)) else none
  | .str x, .int n => if -(2 ^ 62) ≤ n ∧ n < 2 ^ 62 ∧ x.length * n.toNat ≤ sizeLine then some (.str (Txt.mul x n)) else none
  | .list a, .int k => if -(2 ^ 63) ≤ k ∧ k < 2 ^ 63 ∧ a.length * k.toNat ≤ sizeLine then some (.list (List.replicate k.toNat a).flatten) else none
  | .tuple a, .int k => if k = 1 then some (.tuple a) else if a ≠ [] ∧ 2 ≤ k ∧ k ≤ 1000 ∧ a.length ≤ 1000 then some (.tuple (List.replicate k.toNat a).flatten) else none
  | _, _ => none
section
variable {X : Cx}
theorem opd_mul : OpR X (binaryOp .Mult) (rD2 X.K mulD) := by
  refine OpR.imp (op_mulW.or (op_mul.or (op_repS.or (op_rep.or (op_repT1.or op_repT))))) ?_
  rintro x y H Q ⟨z, a, b, d, rfl, g, ra, rb, e, q⟩
  unfold mulD at e
  split at e
  · split at e
    · rename_i hc
      cases e
      rcases hc with hc | hc
      · exact .inl ⟨_, _, ra.int, rb.int, hc, q.here g (.int _)⟩
      · exact .inr (.inl ⟨_, _, ra.int, rb.int, hc, q.here g (.int _)⟩)
    · cases e
  · split at e
    · rename_i hc
      cases e
      exact .inr (.inr (.inl ⟨_, _, ra.str, rb.int, mulOk_of hc.1 hc.2.1 hc.2.2, q.here g (.str _)⟩))
    · cases e
  · split at e
    · rename_i hc
      cases e
      obtain ⟨p, vs, rfl, hp, rp⟩ := ra.lst
      exact .inr (.inr (.inr (.inl ⟨p, _, vs, rfl, rb.int, hp, hc.1, hc.2.1, by rw [rp.length]; exact hc.2.2, q.lst g (rp.rep _)⟩)))
    · cases e
  · split at e
    · rename_i hc
      cases e
      subst hc
      obtain ⟨p, vs, rfl, hp, rp, rd⟩ := ra.tup
      exact .inr (.inr (.inr (.inr (.inl ⟨p, vs, rfl, rb.int, hp, q.here g rd⟩))))
    · split at e
      · rename_i hc
        cases e
        obtain ⟨p, vs, rfl, hp, rp, rd⟩ := ra.tup
        refine .inr (.inr (.inr (.inr (.inr ⟨p, _, vs, rfl, rb.int, hp, ?_, hc.2.1, hc.2.2.1, by rw [rp.length]; exact hc.2.2.2, q.tup g (rp.rep _)⟩))))
        intro e
        subst e
        cases rp
        exact hc.1 rfl
      · cases e
  · cases e
end

/-! ### comparisons -/
def eqD : PyData → PyData → Option PyData
  | .str x, .str y => some (.bool (decide (x = y)))
  | a, b => if (SeqAt.shaped a && SeqAt.shaped b) = true then some (.bool (PyData.eqv a b)) else none
def neD : PyData → PyData → Option PyData
  | .str x, .str y => some (.bool (!decide (x = y)))
  | a, b => if (SeqAt.shaped a && SeqAt.shaped b) = true then some (.bool (!PyData.eqv a b)) else none
theorem dec_str {x y : Str} : decide (V.str x = V.str y) = decide (x = y) := by
  rw [Bool.eq_iff_iff]
  simp
def ltD : PyData → PyData → Option PyData
  | .int i, .int j => some (.bool (decide (i < j)))
  | .str a, .str b => some (.bool (decide (a.cps.toList < b.cps.toList)))
  | _, _ => none
def leD : PyData → PyData → Option PyData
  | .int i, .int j => some (.bool (decide (i ≤ j)))
  | .str a, .str b => some (.bool (!decide (b.cps.toList < a.cps.toList)))
  | _, _ => none
def gtD : PyData → PyData → Option PyData
  | .int i, .int j => some (.bool (decide (j < i)))
  | .str a, .str b => some (.bool (decide (b.cps.toList < a.cps.toList)))
  | _, _ => none
def geD : PyData → PyData → Option PyData
  | .int i, .int j => some (.bool (decide (j ≤ i)))
  | .str a, .str b => some (.bool (!decide (a.cps.toList < b.cps.toList)))
  | _, _ => none
def isNone : PyData → Bool
  | .none => true
  | _ => false
def isD : PyData → PyData → Option PyData
  | a, .none => some (.bool (isNone a))
  | .bool a, .bool b => some (.bool (decide (a = b)))
  | _, _ => none
def isnotD : PyData → PyData → Option PyData
  | a, .none => some (.bool (!isNone a))
  | .bool a, .bool b => some (.bool (!decide (a = b)))
  | _, _ => none
def flatD : PyData → Bool
  | .none => true
  | .bool _ => true
  | .int _ => true
  | .str _ => true
  | _ => false
def memD (x : PyData) (xs : List PyData) : Bool := xs.any fun y => PyData.eqv y x
def inD : PyData → PyData → Option PyData
  | .str a, .str b => some (.bool (!(Builtin.Str.occurrences b a 0 b.length 1).isEmpty))
  | x, .list ys => if flatD x = true ∧ ys.all flatD = true then some (.bool (memD x ys)) else none
  | x, .tuple ys => if flatD x = true ∧ ys.all flatD = true then some (.bool (memD x ys)) else none
  | _, _ => none
def notD : Option PyData → Option PyData
  | some (.bool b) => some (.bool (!b))
  | _ => none
def notinD (a b : PyData) : Option PyData := notD (inD a b)
section
variable {K : PySem.W.Frag} {z : Z}
theorem flat_rep {F : Addr → Prop} {H : Hp} {v : V} {d : PyData} (r : RepD K F H v d) (f : flatD d = true) : flatV v = true := by
  cases r with
  | non => rfl
  | bl _ => rfl
  | int _ => rfl
  | str _ => rfl
  | lst _ _ _ => cases f
  | tup _ _ => cases f
theorem flats_rep {F : Addr → Prop} {H : Hp} : ∀ {vs : List V} {ds : List PyData}, RepDs K F H vs ds → ds.all flatD = true → vs.all flatV = true
  | _, _, .nil, _ => rfl
  | _, _, .cons a b, f => by
    rw [List.all_cons, Bool.and_eq_true] at f ⊢
    exact ⟨flat_rep a f.1, flats_rep b f.2⟩
theorem eqv_flat {F : Addr → Prop} {H : Hp} {v w : V} {d e : PyData} (r : RepD K F H v d) (r' : RepD K F H w e) (f : flatD d = true) (f' : flatD e = true) : eqV v w = PyData.eqv d e := by
  cases r with
  | non => cases r' with
    | non => rfl
    | bl _ => rfl
    | int _ => rfl
    | str _ => rfl
    | lst _ _ _ => cases f'
    | tup _ _ => cases f'
  | bl _ => cases r' with
    | non => rfl
    | bl _ => rfl
    | int _ => rfl
    | str _ => rfl
    | lst _ _ _ => cases f'
    | tup _ _ => cases f'
  | int _ => cases r' with
    | non => rfl
    | bl _ => rfl
    | int _ => rfl
    | str _ => rfl
    | lst _ _ _ => cases f'
    | tup _ _ => cases f'
  | str _ => cases r' with
    | non => rfl
    | bl _ => rfl
    | int _ => rfl
    | str _ => rfl
    | lst _ _ _ => cases f'
    | tup _ _ => cases f'
  | lst _ _ _ => cases f
  | tup _ _ => cases f
theorem mem_rep {F : Addr → Prop} {H : Hp} {v : V} {d : PyData} (r : RepD K F H v d) (f : flatD d = true) : ∀ {vs : List V} {ds : List PyData}, RepDs K F H vs ds → ds.all flatD = true → inV v vs = memD d ds
  | _, _, .nil, _ => rfl
  | _, _, .cons a b, g => by
    rw [List.all_cons, Bool.and_eq_true] at g
    have ih := mem_rep r f b g.2
    unfold inV memD at ih ⊢
    rw [List.any_cons, List.any_cons, eqv_flat a r g.1 f, ih]
theorem flat_w {v : V} {d : PyData} (r : RepW K z v d) (f : flatD d = true) : RepD K z.F z.H v d := by
  cases r with
  | d r => exact r
  | l _ _ => cases f
theorem isNone_rep {v : V} {d : PyData} (r : RepW K z v d) : decide (v = V.non) = isNone d := by
  cases r with
  | l _ _ => exact decide_eq_false (fun c => by cases c)
  | d r => cases r with
    | non => rfl
    | bl _ => exact decide_eq_false (fun c => by cases c)
    | int _ => exact decide_eq_false (fun c => by cases c)
    | str _ => exact decide_eq_false (fun c => by cases c)
    | lst _ _ _ => exact decide_eq_false (fun c => by cases c)
    | tup _ _ => exact decide_eq_false (fun c => by cases c)
end
section
variable {X : Cx}
theorem opd_eq (hu : X.A.units + 64 < cLine) : OpR X (compareOp .Eq) (rD2 X.K eqD) := by
  refine OpR.imp (op_eq.or (op_eqD hu)) ?_
  rintro x y H Q ⟨z, a, b, d, rfl, g, ra, rb, e, q⟩
  unfold eqD at e
  split at e
  · cases e
    refine .inl ?_
    rw [ra.str, rb.str]
    refine ⟨rfl, ?_⟩
    rw [dec_str]
    exact q.here g (.bl _)
  · split at e
    · rename_i hc
      cases e
      rw [Bool.and_eq_true] at hc
      exact .inr ⟨_, _, ra.dp, rb.dp, hc.1, hc.2, q.here g (.bl _)⟩
    · cases e
theorem opd_ne (hu : X.A.units + 64 < cLine) : OpR X (compareOp .NotEq) (rD2 X.K neD) := by
  refine OpR.imp (op_ne.or (op_neD hu)) ?_
  rintro x y H Q ⟨z, a, b, d, rfl, g, ra, rb, e, q⟩
  unfold neD at e
  split at e
  · cases e
    refine .inl ?_
    rw [ra.str, rb.str]
    refine ⟨rfl, ?_⟩
    rw [dec_str]
    exact q.here g (.bl _)
  · split at e
    · rename_i hc
      cases e
      rw [Bool.and_eq_true] at hc
      exact .inr ⟨_, _, ra.dp, rb.dp, hc.1, hc.2, q.here g (.bl _)⟩
    · cases e
theorem opd_lt : OpR X (compareOp .Lt) (rD2 X.K ltD) := by
  refine OpR.imp (op_lt.or op_lt_str) ?_
  rintro x y H Q ⟨z, a, b, d, rfl, g, ra, rb, e, q⟩
  unfold ltD at e
  split at e
  · cases e
    exact .inl ⟨_, _, ra.int, rb.int, q.here g (.bl _)⟩
  · cases e
    exact .inr ⟨_, _, ra.str, rb.str, q.here g (.bl _)⟩
  · cases e
theorem opd_le : OpR X (compareOp .LtE) (rD2 X.K leD) := by
  refine OpR.imp (op_le.or op_le_str) ?_
  rintro x y H Q ⟨z, a, b, d, rfl, g, ra, rb, e, q⟩
  unfold leD at e
  split at e
  · cases e
    exact .inl ⟨_, _, ra.int, rb.int, q.here g (.bl _)⟩
  · cases e
    exact .inr ⟨_, _, ra.str, rb.str, q.here g (.bl _)⟩
  · cases e
theorem opd_gt : OpR X (compareOp .Gt) (rD2 X.K gtD) := by
  refine OpR.imp (op_gt.or op_gt_str) ?_
  rintro x y H Q ⟨z, a, b, d, rfl, g, ra, rb, e, q⟩
  unfold gtD at e
  split at e
  · cases e
    exact .inl ⟨_, _, ra.int, rb.int, q.here g (.bl _)⟩
  · cases e
    exact .inr ⟨_, _, ra.str, rb.str, q.here g (.bl _)⟩
  · cases e
theorem opd_ge : OpR X (compareOp .GtE) (rD2 X.K geD) := by
  refine OpR.imp (op_ge.or op_ge_str) ?_
  rintro x y H Q ⟨z, a, b, d, rfl, g, ra, rb, e, q⟩
  unfold geD at e
  split at e
  · cases e
    exact .inl ⟨_, _, ra.int, rb.int, q.here g (.bl _)⟩
  · cases e
    exact .inr ⟨_, _, ra.str, rb.str, q.here g (.bl _)⟩
  · cases e
theorem opd_is : OpR X (compareOp .Is) (rD2 X.K isD) := by
  refine OpR.imp (op_isN.or op_is_bl) ?_
  rintro x y H Q ⟨z, a, b, d, rfl, g, ra, rb, e, q⟩
  unfold isD at e
  split at e
  · cases e
    refine .inl ⟨rb.non, ?_⟩
    rw [isNone_rep ra]
    exact q.here g (.bl _)
  · cases e
    exact .inr ⟨_, _, ra.bl, rb.bl, q.here g (.bl _)⟩
  · cases e
theorem opd_isnot : OpR X (compareOp .IsNot) (rD2 X.K isnotD) := by
  refine OpR.imp (op_notN.or op_isnot_bl) ?_
  rintro x y H Q ⟨z, a, b, d, rfl, g, ra, rb, e, q⟩
  unfold isnotD at e
  split at e
  · cases e
    refine .inl ⟨rb.non, ?_⟩
    rw [isNone_rep ra]
    exact q.here g (.bl _)
  · cases e
    exact .inr ⟨_, _, ra.bl, rb.bl, q.here g (.bl _)⟩
  · cases e
theorem opd_in : OpR X (compareOp .In) (rD2 X.K inD) := by
  refine OpR.imp (op_in_str.or op_in_seq) ?_
  rintro x y H Q ⟨z, a, b, d, rfl, g, ra, rb, e, q⟩
  unfold inD at e
  split at e
  · cases e
    exact .inl ⟨_, _, ra.str, rb.str, q.here g (.bl _)⟩
  · split at e
    · rename_i hc
      cases e
      obtain ⟨p, vs, rfl, hp, rp⟩ := rb.lst
      have rx := flat_w ra hc.1
      refine .inr ⟨p, vs, rfl, .inl (SqL.of hp), flat_rep rx hc.1, flats_rep rp hc.2, ?_⟩
      rw [mem_rep rx hc.1 rp hc.2]
      exact q.here g (.bl _)
    · cases e
  · split at e
    · rename_i hc
      cases e
      obtain ⟨p, vs, rfl, hp, rp, _⟩ := rb.tup
      have rx := flat_w ra hc.1
      refine .inr ⟨p, vs, rfl, .inr hp, flat_rep rx hc.1, flats_rep rp hc.2, ?_⟩
      rw [mem_rep rx hc.1 rp hc.2]
      exact q.here g (.bl _)
    · cases e
  · cases e
theorem opd_notin : OpR X (compareOp .NotIn) (rD2 X.K notinD) := by
  refine OpR.imp (op_notin_str.or op_notIn_seq) ?_
  rintro x y H Q ⟨z, a, b, d, rfl, g, ra, rb, e, q⟩
  unfold notinD inD at e
  split at e
  · cases e
    exact .inl ⟨_, _, ra.str, rb.str, q.here g (.bl _)⟩
  · split at e
    · rename_i hc
      cases e
      obtain ⟨p, vs, rfl, hp, rp⟩ := rb.lst
      have rx := flat_w ra hc.1
      refine .inr ⟨p, vs, rfl, .inl (SqL.of hp), flat_rep rx hc.1, flats_rep rp hc.2, ?_⟩
      rw [mem_rep rx hc.1 rp hc.2]
      exact q.here g (.bl _)
    · cases e
  · split at e
    · rename_i hc
      cases e
      obtain ⟨p, vs, rfl, hp, rp, _⟩ := rb.tup
      have rx := flat_w ra hc.1
      refine .inr ⟨p, vs, rfl, .inr hp, flat_rep rx hc.1, flats_rep rp hc.2, ?_⟩
      rw [mem_rep rx hc.1 rp hc.2]
      exact q.here g (.bl _)
    · cases e
  · cases e
theorem und_neg : UnR X (unaryOp .USub) (fun x H Q => ∃ z d e, z.H = H ∧ Good X.K z ∧ RepW X.K z x d ∧ (match d with | .int i => some (PyData.int (-i)) | _ => none) = some e ∧ Gives X.K z e Q) := by
  intro pins s σ H x v Q I rx h
  obtain ⟨z, d, e, rfl, g, ra, e1, q⟩ := h
  split at e1
  · cases e1
    exact un_neg pins s σ _ x v Q I rx ⟨_, ra.int, q.here g (.int _)⟩
  · cases e1
end

/-! ### what may be read, the script among it -/
inductive RepR (K : PySem.W.Frag) (z : Z) : V → PyData → Prop
  | w {v : V} {d : PyData} : RepW K z v d → RepR K z v d
  | ro {a : Addr} {ds : List PyData} : RoD K z.F z.H a ds → RepR K z (.ref a) (.list ds)
def viewR (x : RV) (h : AH) : Option PyData := match x with
  | .val d => some d
  | .ref n => match h[n]? with
    | some (.lst xs) => (vals xs).map .list
    | some (.ro ds) => some (.list ds)
    | _ => none
  | .exn _ _ => none
section
variable {K : PySem.W.Frag} {z : Z}
theorem viewR_rep (g : Good K z) {v : V} {x : RV} {d : PyData} (r : RepV K z v x) (e : viewR x z.h = some d) : RepR K z v d := by
  cases r with
  | val r => cases e; exact .w (.d r)
  | exn _ _ _ => cases e
  | ref h =>
    rename_i n
    unfold viewR at e
    simp only at e
    split at e
    · rename_i xs q
      refine .w (view_rep g (.ref h) ?_)
      unfold view
      simp only [q]
      exact e
    · rename_i ds q
      cases e
      exact .ro (g.ro n ds q)
    · cases e
theorem RepR.lst {v : V} {ds : List PyData} (r : RepR K z v (.list ds)) : ∃ a vs, v = .ref a ∧ SqL K z.H a vs ∧ RepDs K z.F z.H vs ds := by
  cases r with
  | w r => obtain ⟨a, vs, e, h, r⟩ := r.lst; exact ⟨a, vs, e, SqL.of h, r⟩
  | ro h => obtain ⟨vs, h1, h2⟩ := h.sq; exact ⟨_, _, rfl, h1, h2⟩
theorem RepR.nl {v : V} {d : PyData} (r : RepR K z v d) (h : ∀ ds, d ≠ .list ds) : RepD K z.F z.H v d := by
  cases r with
  | w r => cases r with
    | d r => exact r
    | l _ _ => exact absurd rfl (h _)
  | ro _ => exact absurd rfl (h _)
theorem RepR.dp {v : V} {d : PyData} (r : RepR K z v d) : Dp K z.H v d := by
  cases r with
  | w r => exact r.dp
  | ro h => obtain ⟨vs, h1, h2⟩ := h.sq; exact .lst h1 h2.dp
theorem RepR.int {v : V} {i : Int} (r : RepR K z v (.int i)) : v = .int i := by
  cases r.nl (fun _ c => by cases c); rfl
theorem RepR.str {v : V} {x : Str} (r : RepR K z v (.str x)) : v = .str x := by
  cases r.nl (fun _ c => by cases c); rfl
theorem RepR.bl {v : V} {x : Bool} (r : RepR K z v (.bool x)) : v = .bl x := by
  cases r.nl (fun _ c => by cases c); rfl
theorem RepR.non {v : V} (r : RepR K z v .none) : v = .non := by
  cases r.nl (fun _ c => by cases c); rfl
theorem RepR.tup {v : V} {ds : List PyData} (r : RepR K z v (.tuple ds)) : ∃ a vs, v = .ref a ∧ SqT K z.H a vs ∧ RepDs K z.F z.H vs ds ∧ RepD K z.F z.H v (.tuple ds) := by
  have q := r.nl (fun _ c => by cases c)
  cases q with | tup h r => exact ⟨_, _, rfl, h, r, .tup h r⟩
end

/-! ### subscripts -/
def lookK (kvs : List (Key × RV)) (k : Key) : Option RV := (kvs.find? fun kv => decide (kv.1 = k)).map (·.2)
def ixD : PyData → PyData → Option PyData
  | .list ds, .int i => atI ds i
  | .tuple ds, .int i => atI ds i
  | .str z, .int i => if z.length ≤ sizeLine then (atI z.cps.toList i).map fun c => .str ⟨#[c]⟩ else none
  | _, _ => none
def ixV (x y : RV) (h : AH) : Option RV := match x, y with
  | .val d, .val i => (ixD d i).map .val
  | .ref n, .val (.int i) => match h[n]? with
    | some (.lst xs) => atI xs i
    | some (.ro ds) => (atI ds i).map .val
    | some (.dct kvs) => lookK kvs (.inl i)
    | _ => none
  | .ref n, .val (.str k) => match h[n]? with
    | some (.dct kvs) => lookK kvs (.inr k)
    | _ => none
  | _, _ => none
theorem atI_some {A B : Type} {R : A → B → Prop} {xs : List A} {ys : List B} {i : Int} {y : B} (hl : xs.length = ys.length) (h : atI ys i = some y) (hr : ∀ (j : Nat) y, ys[j]? = some y → ∃ x, xs[j]? = some x ∧ R x y) : ∃ x, atI xs i = some x ∧ R x y := by
  unfold atI at h ⊢
  rw [hl]
  cases e : ixN ys.length i with
  | none => rw [e] at h; cases h
  | some j =>
    rw [e] at h
    exact hr j y h
section
variable {K : PySem.W.Frag} {z : Z}
theorem RepDs.atI {F : Addr → Prop} {H : Hp} {vs : List V} {ds : List PyData} {i : Int} {d : PyData} (r : RepDs K F H vs ds) (h : L2.atI ds i = some d) : ∃ v, L2.atI vs i = some v ∧ RepD K F H v d :=
  atI_some r.length h fun j y e => r.get e
theorem RepVs.get : ∀ {vs : List V} {xs : List RV} {i : Nat} {x : RV}, RepVs K z vs xs → xs[i]? = some x → ∃ v, vs[i]? = some v ∧ RepV K z v x
  | _, _, _, _, .nil, e => by simp at e
  | _, _, 0, _, .cons a _, e => by
    simp at e
    subst e
    exact ⟨_, rfl, a⟩
  | _, _, i + 1, _, .cons _ b, e => by
    obtain ⟨v, h1, h2⟩ := RepVs.get (i := i) b (by simpa using e)
    exact ⟨v, by simpa using h1, h2⟩
theorem RepVs.atI {vs : List V} {xs : List RV} {i : Int} {x : RV} (r : RepVs K z vs xs) (h : L2.atI xs i = some x) : ∃ v, L2.atI vs i = some v ∧ RepV K z v x :=
  atI_some (Paired.length r) h fun j y e => RepVs.get r e
theorem lookK_rep {k : Key} : ∀ {ws : List (Key × V)} {kvs : List (Key × RV)} {x : RV}, Paired (fun (p : Key × V) (q : Key × RV) => p.1 = q.1 ∧ RepV K z p.2 q.2) ws kvs → lookK kvs k = some x → ∃ v, valV ws k = some v ∧ RepV K z v x
  | _, _, _, .nil, e => by cases e
  | _, _, x, .cons (a := p) (b := q) (l₁ := ws) (l₂ := kvs) r t, e => by
    unfold lookK at e
    rw [List.find?_cons] at e
    by_cases hk : q.1 = k
    · rw [decide_eq_true hk] at e
      have e' : q.2 = x := Option.some.inj e
      subst e'
      exact ⟨p.2, valV_pos (r.1.trans hk), r.2⟩
    · rw [decide_eq_false hk] at e
      obtain ⟨v, h1, h2⟩ := lookK_rep (k := k) t e
      exact ⟨v, by rw [valV_neg (fun c => hk (r.1.symm.trans c))]; exact h1, h2⟩
end
section
variable {X : Cx}
theorem ix_dict (hu : X.A.units + 1 < cLine) : IxR X (fun x y H Q => ∃ a v, x = .ref a ∧ DGet H a y (some v) ∧ Q v H) := by
  intro value slice pins s σ H x y v u Q I rx ry h hs
  obtain ⟨a, w, rfl, g, q⟩ := h
  cases rx
  exact tail_any (dict_typeIs I g) PySem.F.slot_dict_getitem.lookup (d_getItem hu I g ry fun w' s3 I3 rw' => ⟨w, H, I3, rw', q⟩) hs
def rIxV (K : PySem.W.Frag) : R2 := fun x y H Q => ∃ (z : Z) (a b v : RV), z.H = H ∧ Good K z ∧ RepV K z x a ∧ RepV K z y b ∧ ixV a b z.h = some v ∧ ∀ w, RepV K z w v → Q w H
theorem IxR.imp {r r' : R2} (h : IxR X r) (i : ∀ x y H Q, r' x y H Q → r x y H Q) : IxR X r' :=
  fun value slice pins s σ H x y v u Q I rx ry q hs => h value slice pins s σ H x y v u Q I rx ry (i _ _ _ _ q) hs
theorem ixd (hu : X.A.units + 1 < cLine) : IxR X (rIxV X.K) := by
  refine IxR.imp (ix_list.or (ix_tup.or (ix_str.or (ix_dict hu)))) ?_
  rintro x y H Q ⟨z, a, b, v, rfl, g, ra, rb, e, q⟩
  unfold ixV at e
  split at e
  · rename_i d i
    cases ra with | val ra =>
    cases rb with | val rb =>
    unfold ixD at e
    split at e
    · rename_i ds i
      cases rb
      cases ra with | lst h nf r =>
      cases e2 : atI ds i with
      | none => rw [e2] at e; cases e
      | some d =>
        rw [e2] at e
        cases e
        obtain ⟨w, h1, h2⟩ := r.atI e2
        exact .inl ⟨_, _, _, w, rfl, rfl, SqL.of h, h1, q _ (.val h2)⟩
    · rename_i ds i
      cases rb
      cases ra with | tup h r =>
      cases e2 : atI ds i with
      | none => rw [e2] at e; cases e
      | some d =>
        rw [e2] at e
        cases e
        obtain ⟨w, h1, h2⟩ := r.atI e2
        exact .inr (.inl ⟨_, _, _, w, rfl, rfl, h, h1, q _ (.val h2)⟩)
    · rename_i zs i
      cases rb
      cases ra
      split at e
      · rename_i hl
        cases e2 : atI zs.cps.toList i with
        | none => rw [e2] at e; cases e
        | some c =>
          rw [e2] at e
          cases e
          exact .inr (.inr (.inl ⟨zs, i, c, rfl, rfl, hl, e2, q _ (.val (.str _))⟩))
      · cases e
    · cases e
  · rename_i n i
    cases rb with | val rb =>
    cases rb
    cases ra with | ref hn =>
    split at e
    · rename_i xs eh
      obtain ⟨_, ho, h1, vs, rfl, rr⟩ := g.obj n _ eh rfl
      obtain ⟨w, h2, h3⟩ := RepVs.atI rr e
      exact .inl ⟨_, _, _, w, rfl, rfl, SqL.of h1, h2, q _ h3⟩
    · rename_i ds eh
      obtain ⟨vs, h1, h2⟩ := (g.ro n _ eh).sq
      cases e2 : atI ds i with
      | none => rw [e2] at e; cases e
      | some d =>
        rw [e2] at e
        cases e
        obtain ⟨w, h3, h4⟩ := h2.atI e2
        exact .inl ⟨_, _, _, w, rfl, rfl, h1, h3, q _ (.val h4)⟩
    · rename_i kvs eh
      obtain ⟨_, ho, h1, ws, rfl, rr⟩ := g.obj n _ eh rfl
      obtain ⟨w, h2, h3⟩ := lookK_rep rr e
      exact .inr (.inr (.inr ⟨_, w, rfl, by rw [← h2]; exact DGet.k (k := .inl i) h1, q _ h3⟩))
    · cases e
  · rename_i n k
    cases rb with | val rb =>
    cases rb
    cases ra with | ref hn =>
    split at e
    · rename_i kvs eh
      obtain ⟨_, ho, h1, ws, rfl, rr⟩ := g.obj n _ eh rfl
      obtain ⟨w, h2, h3⟩ := lookK_rep rr e
      exact .inr (.inr (.inr ⟨_, w, rfl, by rw [← h2]; exact DGet.k (k := .inr k) h1, q _ h3⟩))
    · cases e
  · cases e
end

/-! ### slices -/
def cutD (xs : List PyData) (lo hi : Option Int) : List PyData := (xs.drop (HT.sIx xs.length 0 lo)).take (HT.sIx xs.length xs.length hi - HT.sIx xs.length 0 lo)
def slD (d : PyData) (lo hi : Option Int) : Option PyData := match d with
  | .list xs => some (.list (cutD xs lo hi))
  | .tuple xs => some (.tuple (cutD xs lo hi))
  | .str z => if z.length ≤ sizeLine then some (.str (cutS z lo hi)) else none
  | _ => none
section
variable {K : PySem.W.Frag} {z : Z} {X : Cx}
theorem RepDs.cut {F : Addr → Prop} {H : Hp} {vs : List V} {ds : List PyData} (r : RepDs K F H vs ds) (lo hi : Option Int) : RepDs K F H (cutV vs lo hi) (cutD ds lo hi) := by
  unfold cutV cutD
  rw [r.length]
  exact (r.drop _).take _
theorem cutD_whole {xs : List PyData} {lo hi : Option Int} (h1 : HT.sIx xs.length 0 lo = 0) (h2 : HT.sIx xs.length xs.length hi = xs.length) : cutD xs lo hi = xs := by
  unfold cutD
  rw [h1, h2]
  simp
theorem SlR.imp {r r' : V → Option Int → Option Int → Hp → VK → Prop} (h : SlR X r) (i : ∀ x lo hi H Q, r' x lo hi H Q → r x lo hi H Q) : SlR X r' :=
  fun pins s σ H x v vl vu lo hi sl Q I rx hs pl pu q => h pins s σ H x v vl vu lo hi sl Q I rx hs pl pu (i _ _ _ _ _ q)
def rSlD (K : PySem.W.Frag) : V → Option Int → Option Int → Hp → VK → Prop := fun x lo hi H Q => ∃ (z : Z) (a d : PyData), z.H = H ∧ Good K z ∧ RepW K z x a ∧ slD a lo hi = some d ∧ Gives K z d Q
theorem sld : SlR X (rSlD X.K) := by
  refine SlR.imp (sl_list.or (sl_tupA.or sl_str)) ?_
  rintro x lo hi H Q ⟨z, a, d, rfl, g, ra, e, q⟩
  unfold slD at e
  split at e
  · cases e
    obtain ⟨p, vs, rfl, hp, rp⟩ := ra.lst
    exact .inl ⟨p, vs, rfl, SqL.of hp, q.lst g (rp.cut lo hi)⟩
  · cases e
    obtain ⟨p, vs, rfl, hp, rp, rd⟩ := ra.tup
    refine .inr (.inl ⟨p, vs, rfl, hp, fun hw => ?_, fun _ => q.tup g (rp.cut lo hi)⟩)
    rw [rp.length] at hw
    rw [cutD_whole hw.1 hw.2] at q
    exact q.here g rd
  · split at e
    · rename_i hl
      cases e
      exact .inr (.inr ⟨_, ra.str, hl, q.here g (.str _)⟩)
    · cases e
  · cases e
end
end L2.Cap

set_option maxRecDepth 100000
set_option maxHeartbeats 1000000
namespace L2.Cap
open PySem PySem.Spec PyProof.Rows

/-! ### the forms -/
inductive Op2 | add | sub | mul | fdiv | mod | pow
  deriving DecidableEq
inductive Cm | eq | ne | lt | le | gt | ge | is | isnot | isin | notin
  deriving DecidableEq
/-- built-in functions of data -/
inductive Bf | len | min | max | abs | ord | str | int | tuple | list | sum | all | any | repr | sorted
  deriving DecidableEq
/-- methods of texts -/
inductive Mf | join | startswith | split | rstrip | strip
  deriving DecidableEq
inductive Ty | int | bool | str | tuple | list
  deriving DecidableEq
mutual
inductive Ex where
  | var (i : Nat)
  | cint (i : Int)
  | cstr (x : Str)
  | cbl (b : Bool)
  | cnon
  | glo (x : Str)
  | bin (o : Op2) (a b : Ex)
  | neg (a : Ex)
  | cmp (o : Cm) (a b : Ex)
  | chn (o p : Cm) (a b c : Ex)
  | bop (k : Bool) (l : Xs)
  | nt (a : Ex)
  | ife (c a b : Ex)
  | tup (l : Xs)
  | lst (l : Xs)
  | lstH (l : Xs)
  | ix (a b : Ex)
  | slc (a : Ex) (lo hi : Oe)
  | slcH (a : Ex) (lo hi : Oe)
  | call (f : Str) (l : Xs)
  | callP (f : Str) (l : Xs)
  | blt (f : Bf) (l : Xs)
  | listH (a : Ex)
  | isi (a : Ex) (t : Ty)
  | lc (heap : Bool) (elt : Ex) (tg : Tg) (it : It') (cs : Xs) (own : List (Str × Nat))
  | app (o e : Ex)
  | dsp (ks : List Str) (l : Xs)
  | mth0 (m : Mf) (o : Ex)
  | mth1 (m : Mf) (o e : Ex)
  | frz (e : Ex)
  | isx (a : Ex) (c : Str) (tab : List Str)
  | atx (a : Ex) (f : Str) (tab : List Str)
  | isN (neg : Bool) (a : Ex)
  | eqR (ne : Bool) (a b : Ex)
  | outc (o f : Str) (cs : List Str) (e : Ex)
inductive Xs where
  | nil
  | cons (e : Ex) (l : Xs)
inductive Oe where
  | no
  | so (e : Ex)
inductive It' where
  | ex (e : Ex)
  | rng1 (a : Ex)
  | rng2 (a b : Ex)
  | enu (e : Ex)
  | zip (a b : Ex)
inductive Tg where
  | nm (i : Nat)
  | tup (l : Ts)
  | sub (o i : Ex)
inductive Ts where
  | nil
  | cons (t : Tg) (l : Ts)
end
/-- what an except suite takes: of the error e -/
inductive Sx0 where
  | con (d : PyData)
  | fld (f : Str)
inductive Sx where
  | one (a : Sx0)
  | err
  | tup (a b : Sx0)
  | lst (a : Sx0)
/-- a clause: its classes, its name's slot, what it does -/
inductive Ac where
  | asg (i : Nat) (x : Sx)
  | ret (x : Sx)
structure Hd where
  cls : List Str
  nm : Option Nat
  act : Ac
mutual
inductive Sm where
  | asg (t : Tg) (e : Ex)
  | par (ts : List Nat) (l : Xs)
  | aug (i : Nat) (o : Op2) (e : Ex)
  | expr (e : Ex)
  | ife (c : Ex) (a b : Ss)
  | loop (t : Tg) (it : It') (b : Ss)
  | whl (c : Ex) (b : Ss)
  | ret (e : Ex)
  | ret0
  | brk
  | cnt
  | pas
  | rai (c : Str) (f : Option Str) (e : Ex)
  | tryx (b : Ss) (hs : List Hd) (tab : List Str)
inductive Ss where
  | nil
  | cons (s : Sm) (l : Ss)
end

/-! ### what they mean -/
def failM {A : Type} : M A := fun _ => none
/-- a step that leaves the objects as they are -/
def readM {A : Type} (f : AH → Option A) : M A := fun h => match f h with
  | some a => some (.ok a, h)
  | none => none
def opF : Op2 → PyData → PyData → Option PyData
  | .add => addD
  | .sub => subD
  | .mul => mulD
  | .fdiv => fdivD
  | .mod => modD
  | .pow => powD
def augF : Op2 → PyData → PyData → Option PyData
  | .add, .int i, .int j => some (.int (i + j))
  | .sub, .int i, .int j => some (.int (i - j))
  | .mul, .int i, .int j => if (-(2 ^ 64) < i ∧ i < 2 ^ 64) ∨ (-(2 ^ 64) < j ∧ j < 2 ^ 64) then some (.int (i * j)) else none
  | _, _, _ => none
def cmF : Cm → PyData → PyData → Option PyData
  | .eq => eqD
  | .ne => neD
  | .lt => ltD
  | .le => leD
  | .gt => gtD
  | .ge => geD
  | .is => isD
  | .isnot => isnotD
  | .isin => inD
  | .notin => notinD
/-- two values by a function of data -/
def two (f : PyData → PyData → Option PyData) (x y : RV) : M RV := readM fun h => do
  let a ← view x h
  let b ← view y h
  let d ← f a b
  return .val d
def truD : PyData → Option Bool
  | .none => some false
  | .bool b => some b
  | .int i => some (i != 0)
  | .str x => if x.length ≤ sizeLine then some ((x.length : Int) != 0) else none
  | .list xs => some (!xs.isEmpty)
  | .tuple xs => some (!xs.isEmpty)
  | .dict _ => none
def truV (x : RV) (h : AH) : Option Bool := (viewR x h).bind truD
def truM (x : RV) : M Bool := readM (truV x)
def boolOf : RV → M Bool
  | .val (.bool b) => retM b
  | _ => failM
def intOf : RV → M Int
  | .val (.int i) => retM i
  | _ => failM
def strOf : RV → M Str
  | .val (.str i) => retM i
  | _ => failM
def dataOf : RV → M PyData
  | .val d => retM d
  | .ref _ => failM
  | .exn _ _ => failM
def allVal (xs : List RV) : M (List PyData) := readM fun _ => vals xs
def newM (o : AO) : M RV := fun h => some (.ok (.ref h.length), h ++ [o])
def tyD : PyData → String
  | .none => "NoneType"
  | .bool _ => "bool"
  | .int _ => "int"
  | .str _ => "str"
  | .list _ => "list"
  | .tuple _ => "tuple"
  | .dict _ => "dict"
def isiD : Ty → PyData → Bool
  | .int, .int _ => true
  | .int, .bool _ => true
  | .bool, .bool _ => true
  | .str, .str _ => true
  | .tuple, .tuple _ => true
  | .list, .list _ => true
  | _, _ => false
def boolsOf : List PyData → Option (List Bool)
  | [] => some []
  | .bool b :: r => (boolsOf r).map (b :: ·)
  | _ :: _ => none
def intsOf : List PyData → Option (List Int)
  | [] => some []
  | .int b :: r => (intsOf r).map (b :: ·)
  | _ :: _ => none
def strsOf : List PyData → Option (List Str)
  | [] => some []
  | .str b :: r => (strsOf r).map (b :: ·)
  | _ :: _ => none
/-- into its place -/
def insI (x : Int) : List Int → List Int
  | [] => [x]
  | y :: r => if x ≤ y then x :: y :: r else y :: insI x r
def sortI : List Int → List Int
  | [] => []
  | x :: r => insI x (sortI r)
def maxI (x : Int) : List Int → Int
  | [] => x
  | y :: r => maxI (if y > x then y else x) r
def minI (x : Int) : List Int → Int
  | [] => x
  | y :: r => minI (if y < x then y else x) r
def lenF : List PyData → Option PyData
  | [.list xs] => some (.int xs.length)
  | [.tuple xs] => some (.int xs.length)
  | [.str x] => if x.length ≤ sizeLine then some (.int x.length) else none
  | _ => none
def minF : List PyData → Option PyData
  | [.int i, .int j] => some (.int (if j < i then j else i))
  | [.list ds] => match intsOf ds with
    | some (n :: ns) => some (.int (minI n ns))
    | _ => none
  | _ => none
def maxF : List PyData → Option PyData
  | [.int i, .int j] => some (.int (if j > i then j else i))
  | [.list ds] => match intsOf ds with
    | some (n :: ns) => some (.int (maxI n ns))
    | _ => none
  | _ => none
def absF : List PyData → Option PyData
  | [.int i] => some (.int (if i < 0 then -i else i))
  | _ => none
def ordF : List PyData → Option PyData
  | [.str x] => if x.length = 1 then some (.int (x.cps.getD 0 0 : Nat)) else none
  | _ => none
def strF : List PyData → Option PyData
  | [.int i] => if i.natAbs.log2 < 1920 then some (.str (toString i)) else none
  | _ => none
def intF : List PyData → Option PyData
  | [.int i] => some (.int i)
  | [.bool b] => some (.int (if b then 1 else 0))
  | [.str a] => if a.length ≤ 640 then (PySem.intText? a).map .int else none
  | _ => none
def tupleF : List PyData → Option PyData
  | [.list ds] => some (.tuple ds)
  | [.tuple ds] => some (.tuple ds)
  | _ => none
def listF : List PyData → Option PyData
  | [.list ds] => some (.list ds)
  | [.tuple ds] => some (.list ds)
  | _ => none
def sumF : List PyData → Option PyData
  | [.list ds] => (intsOf ds).map fun ns => .int ns.sum
  | _ => none
def allF : List PyData → Option PyData
  | [.list ds] => (boolsOf ds).map fun bs => .bool (bs.all id)
  | _ => none
def anyF : List PyData → Option PyData
  | [.list ds] => (boolsOf ds).map fun bs => .bool (bs.any id)
  | _ => none
def reprF : List PyData → Option PyData
  | [d] => if d.showable = true ∧ d.hasDict = false ∧ d.depth ≤ 60 ∧ d.shown.length ≤ sizeLine then some (.str d.shown) else none
  | _ => none
def sortedF : List PyData → Option PyData
  | [.list ds] => (intsOf ds).map fun ns => .list ((sortI ns).map .int)
  | _ => none
def bfF : Bf → List PyData → Option PyData
  | .len => lenF
  | .min => minF
  | .max => maxF
  | .abs => absF
  | .ord => ordF
  | .str => strF
  | .int => intF
  | .tuple => tupleF
  | .list => listF
  | .sum => sumF
  | .all => allF
  | .any => anyF
  | .repr => reprF
  | .sorted => sortedF
def joinL (a : Str) (ds : List PyData) : Option PyData := match strsOf ds with
  | some ys => if (ys.map (·.length)).sum + ys.length * a.length ≤ 16777216 then some (.str (Txt.join a ys)) else none
  | none => none
def joinF (a : Str) : PyData → Option PyData
  | .list ds => joinL a ds
  | .tuple ds => joinL a ds
  | _ => none
def startF (a : Str) : PyData → Option PyData
  | .str b => some (.bool (Txt.startswith a b))
  | _ => none
def splitF (a : Str) : PyData → Option PyData
  | .str b => if (b.length == 0) = false ∧ a.length + 2 ≤ sizeLine then some (.list ((Txt.split a b).map .str)) else none
  | _ => none
def rstripF (a : Str) : PyData → Option PyData
  | .str b => if a.length ≤ sizeLine then some (.str (Txt.rstripChars a b)) else none
  | _ => none
def stripF (a : Str) : Option PyData := if a.length ≤ sizeLine then some (.str (Txt.strip a)) else none
def mf1 : Mf → Str → PyData → Option PyData
  | .join => joinF
  | .startswith => startF
  | .split => splitF
  | .rstrip => rstripF
  | .strip => fun _ _ => none
def mf0 : Mf → Str → Option PyData
  | .strip => stripF
  | _ => fun _ => none
def viewsR (h : AH) : List RV → Option (List PyData)
  | [] => some []
  | x :: r => match viewR x h, viewsR h r with
    | some d, some ds => some (d :: ds)
    | _, _ => none
/-- the data of a value and of what it holds, for good -/
def frzV : Nat → AH → RV → Option PyData
  | _, _, .val d => some d
  | 0, _, .ref _ => none
  | k + 1, h, .ref n => match h[n]? with
    | some (.lst xs) => (xs.mapM (frzV k h)).map .list
    | _ => none
  | _, _, .exn _ _ => none
/-- given up as objects: their data from here on -/
def goneM (n : Nat) (ds : List PyData) : M PyData := fun h => match h[n]? with
  | some (.lst _) => some (.ok (.list ds), h.set n (.ro ds))
  | _ => none
def itemsM (n : Nat) : M (List RV) := readM fun h => match h[n]? with
  | some (.lst xs) => some xs
  | _ => none
def seqM {A B : Type} (f : A → M B) : List A → M (List B)
  | [] => retM []
  | x :: r => bindM (f x) fun y => bindM (seqM f r) fun ys => retM (y :: ys)
def frzM : Nat → RV → M PyData
  | _, .val d => retM d
  | 0, .ref _ => failM
  | k + 1, .ref n => bindM (itemsM n) fun xs => bindM (seqM (frzM k) xs) fun ds => goneM n ds
  | _, .exn _ _ => failM
def callPure (f : List RV → M RV) (xs : List RV) : M RV := fun h => match vals xs with
  | none => none
  | some ds => match f (ds.map .val) [] with
    | some (.ok v, g) => match frzV 3 g v with
      | some d => some (.ok (.val d), h)
      | none => none
    | some (.exc c fs, _) => some (.exc c fs, h)
    | none => none
def itemsD : PyData → Option (List PyData)
  | .list ds => some ds
  | .tuple ds => some ds
  | .str z => some (z.cps.toList.map fun c => .str ⟨#[c]⟩)
  | _ => none
def itemsV (x : RV) (h : AH) : Option (List PyData) := match x with
  | .val d => itemsD d
  | .ref n => match h[n]? with
    | some (.ro ds) => some ds
    | _ => none
  | .exn _ _ => none
def seqD : PyData → Option (List PyData)
  | .list ds => some ds
  | .tuple ds => some ds
  | _ => none
def pairI (k : Nat) : List PyData → List PyData
  | [] => []
  | d :: r => .tuple [.int k, d] :: pairI (k + 1) r
def rngL (a : Int) : Nat → List PyData
  | 0 => []
  | n + 1 => .int a :: rngL (a + 1) n
structure Gd where
  con : Str → Option PyData
  fn : Str → List RV → M RV

def lstM (x : RV) : M Unit := readM fun h => match x with
  | .ref n => match h[n]? with
    | some (.lst _) => some ()
    | _ => none
  | _ => none
def appV (x y : RV) : M RV := fun h => match x with
  | .ref n => match h[n]? with
    | some (.lst xs) => if xs.length < sizeLine then some (.ok (.val .none), h.set n (.lst (xs ++ [y]))) else none
    | _ => none
  | _ => none
def putK' (kvs : List (Key × RV)) (k : Key) (v : RV) : List (Key × RV) :=
  if (kvs.any fun kv => decide (kv.1 = k)) = true then kvs.map (fun kv => if kv.1 = k then (kv.1, v) else kv) else kvs ++ [(k, v)]
/-- o[i] = v -/
def setV (o i v : RV) : M Unit := fun h => match o, i with
  | .ref n, .val (.int k) => match h[n]? with
    | some (.lst xs) => (ixN xs.length k).bind fun j => some (.ok (), h.set n (.lst (xs.set j v)))
    | some (.dct kvs) => if kvs.length < sizeLine then some (.ok (), h.set n (.dct (putK' kvs (.inl k) v))) else none
    | _ => none
  | .ref n, .val (.str k) => match h[n]? with
    | some (.dct kvs) => if kvs.length < sizeLine then some (.ok (), h.set n (.dct (putK' kvs (.inr k) v))) else none
    | _ => none
  | _, _ => none
def wipeD (env : EnvD) : List Nat → EnvD
  | [] => env
  | v :: vs => (wipeD env vs).set v none
/-- the list of a comprehension -/
def lcM (tgt : PyData → EnvD → M EnvD) (cond : EnvD → M Bool) (elt : EnvD → M RV) (env : EnvD) : List PyData → List RV → M (List RV)
  | [], acc => retM acc
  | d :: ds, acc => bindM (tgt d env) fun env2 => bindM (cond env2) fun b =>
    if b then bindM (elt env2) fun v => if acc.length < sizeLine then lcM tgt cond elt env ds (acc ++ [v]) else failM else lcM tgt cond elt env ds acc

/-- raises nothing -/
def sureM {A : Type} (m : M A) : M A := fun h => match m h with
  | some (.ok a, h') => some (.ok a, h')
  | _ => none
def slotM (env : EnvD) (i : Nat) : M RV := match env[i]? with
  | some (some v) => retM v
  | _ => failM
def conM : Option PyData → M RV
  | some d => retM (.val d)
  | none => failM
def isxM (c : Str) (tab : List Str) : RV → M RV
  | .exn c' _ => if c' ∈ tab then retM (.val (.bool (decide (c' = c)))) else failM
  | _ => failM
def atxM (f : Str) (tab : List Str) : RV → M RV
  | .exn c' fs => if c' ∈ tab then (match fs.lookup f with
    | some d => retM (.val d)
    | none => failM) else failM
  | _ => failM
def isNoneV : RV → Bool
  | .val d => isNone d
  | _ => false
def eqF (ne : Bool) (x y : PyData) : Option PyData := if ne then neD x y else eqD x y
/-- == and != where a side may be only read -/
def twoR (f : PyData → PyData → Option PyData) (x y : RV) : M RV := readM fun h => do
  let a ← viewR x h
  let b ← viewR y h
  let d ← f a b
  return .val d
/-- what a call returns, in a list; or what is told of its error -/
def outcM (fault : List RV → M RV) (cs : List Str) (m : M RV) : M RV := fun h => match m h with
  | some (.ok (.val d), h') => some (.ok (.val (.list [d])), h')
  | some (.exc c fs, h') => if c ∈ cs then fault [.exn c fs] h' else none
  | _ => none
mutual
def den (G : Gd) : Ex → DenE
  | .var i, env => slotM env i
  | .cint i, _ => retM (.val (.int i))
  | .cstr x, _ => retM (.val (.str x))
  | .cbl b, _ => retM (.val (.bool b))
  | .cnon, _ => retM (.val .none)
  | .glo x, _ => conM (G.con x)
  | .bin o a b, env => bindM (den G a env) fun x => bindM (den G b env) fun y => two (opF o) x y
  | .neg a, env => bindM (den G a env) fun x => bindM (intOf x) fun i => retM (.val (.int (-i)))
  | .cmp o a b, env => bindM (den G a env) fun x => bindM (den G b env) fun y => two (cmF o) x y
  | .chn o p a b c, env => bindM (den G a env) fun x => bindM (den G b env) fun y => bindM (two (cmF o) x y) fun k => bindM (boolOf k) fun k =>
    if k then bindM (den G c env) fun w => two (cmF p) y w else retM (.val (.bool false))
  | .bop k l, env => denB G k l env
  | .nt a, env => bindM (den G a env) fun x => bindM (truM x) fun b => retM (.val (.bool (!b)))
  | .ife c a b, env => bindM (den G c env) fun x => bindM (truM x) fun k => if k then den G a env else den G b env
  | .tup l, env => bindM (denA G l env) fun xs => bindM (allVal xs) fun ds => if ds.length ≤ sizeLine then retM (.val (.tuple ds)) else failM
  | .lst l, env => bindM (denA G l env) fun xs => bindM (allVal xs) fun ds => if ds.length ≤ sizeLine then retM (.val (.list ds)) else failM
  | .lstH l, env => bindM (denA G l env) fun xs => if xs.length ≤ sizeLine then newM (.lst xs) else failM
  | .ix a b, env => bindM (den G a env) fun x => bindM (den G b env) fun y => readM (ixV x y)
  | .slc a lo hi, env => bindM (den G a env) fun x => bindM (denO G lo env) fun l => bindM (denO G hi env) fun u => readM fun h => do
    let d ← view x h
    let r ← slD d l u
    return .val r
  | .slcH a lo hi, env => bindM (den G a env) fun x => bindM (denO G lo env) fun l => bindM (denO G hi env) fun u => fun h => match view x h with
    | some (.list ds) => newM (.lst ((cutD ds l u).map .val)) h
    | _ => none
  | .call f l, env => bindM (denA G l env) fun xs => G.fn f xs
  | .callP f l, env => bindM (denA G l env) fun xs => callPure (G.fn f) xs
  | .blt f l, env => bindM (denA G l env) fun xs => readM fun h => do
    let ds ← viewsR h xs
    let d ← bfF f ds
    return .val d
  | .listH a, env => bindM (den G a env) fun x => fun h => match viewR x h with
    | some (.list ds) => newM (.lst (ds.map .val)) h
    | some (.tuple ds) => newM (.lst (ds.map .val)) h
    | _ => none
  | .isi a t, env => bindM (den G a env) fun x => readM fun h => do
    let d ← viewR x h
    return .val (.bool (isiD t d))
  | .lc heap elt tg it cs own, env => bindM (denI G it env) fun ds =>
    bindM (sureM (lcM (fun d e => denG G tg (.val d) e) (fun e => denC G cs e) (fun e => den G elt e) (wipeD env (own.map (·.2))) ds [])) fun xs =>
    if heap then newM (.lst xs) else bindM (allVal xs) fun ds => retM (.val (.list ds))
  | .app o e, env => bindM (den G o env) fun x => bindM (lstM x) fun _ => bindM (den G e env) fun y => appV x y
  | .dsp ks l, env => bindM (denA G l env) fun xs => if xs.length = ks.length ∧ ks.length ≤ 15 then newM (.dct ((ks.map Sum.inr).zip xs)) else failM
  | .mth0 m o, env => bindM (den G o env) fun x => bindM (strOf x) fun a => readM fun _ => do
    let r ← mf0 m a
    return .val r
  | .mth1 m o e, env => bindM (den G o env) fun x => bindM (strOf x) fun a => bindM (den G e env) fun y => readM fun h => do
    let d ← viewR y h
    let r ← mf1 m a d
    return .val r
  | .frz e, env => bindM (den G e env) fun x => bindM (frzM 3 x) fun d => retM (.val d)
  | .isx a c tab, env => bindM (den G a env) fun x => isxM c tab x
  | .atx a f tab, env => bindM (den G a env) fun x => atxM f tab x
  | .isN neg a, env => bindM (den G a env) fun x => retM (.val (.bool (neg != isNoneV x)))
  | .eqR ne a b, env => bindM (den G a env) fun x => bindM (den G b env) fun y => twoR (eqF ne) x y
  | .outc _ f cs e, env => outcM (G.fn f) cs (den G e env)
def denA (G : Gd) : Xs → DenA
  | .nil, _ => retM []
  | .cons e l, env => bindM (den G e env) fun x => bindM (denA G l env) fun xs => retM (x :: xs)
/-- and (true), or (false) -/
def denB (G : Gd) (k : Bool) : Xs → DenE
  | .nil, _ => failM
  | .cons e .nil, env => den G e env
  | .cons e l, env => bindM (den G e env) fun x => bindM (truM x) fun b => if b = k then denB G k l env else retM x
/-- tests of a comprehension: none or one -/
def denC (G : Gd) : Xs → EnvD → M Bool
  | .nil, _ => retM true
  | .cons e .nil, env => bindM (den G e env) truM
  | .cons _ _, _ => failM
def denO (G : Gd) : Oe → EnvD → M (Option Int)
  | .no, _ => retM none
  | .so e, env => bindM (den G e env) fun x => bindM (intOf x) fun i => retM (some i)
/-- what is walked -/
def denI (G : Gd) : It' → EnvD → M (List PyData)
  | .ex e, env => bindM (den G e env) fun x => readM (itemsV x)
  | .rng1 a, env => bindM (den G a env) fun x => bindM (intOf x) fun j => if -(2 ^ 62) ≤ j ∧ j < 2 ^ 62 then retM (rngL 0 j.toNat) else failM
  | .rng2 a b, env => bindM (den G a env) fun x => bindM (den G b env) fun y => bindM (intOf x) fun i => bindM (intOf y) fun j =>
    if -(2 ^ 62) ≤ i ∧ i < 2 ^ 62 ∧ -(2 ^ 62) ≤ j ∧ j < 2 ^ 62 then retM (rngL i (j - i).toNat) else failM
  | .enu e, env => bindM (den G e env) fun x => bindM (dataOf x) fun d => readM fun _ => (seqD d).map (pairI 0)
  | .zip a b, env => bindM (den G a env) fun x => bindM (den G b env) fun y => bindM (dataOf x) fun d => bindM (dataOf y) fun e => readM fun _ => match d, e with
    | .list ds, .list es => some ((ds.zip es).map fun p => .tuple [p.1, p.2])
    | .tuple ds, .tuple es => some ((ds.zip es).map fun p => .tuple [p.1, p.2])
    | _, _ => none
/-- a target takes a value -/
def denG (G : Gd) : Tg → RV → EnvD → M EnvD
  | .nm i, v, env => retM (env.set i (some v))
  | .tup l, v, env => match v with
    | .val (.tuple ds) => denGs G l ds env
    | _ => failM
  | .sub o i, v, env => bindM (den G o env) fun x => bindM (den G i env) fun y => bindM (setV x y v) fun _ => retM env
def denGs (G : Gd) : Ts → List PyData → EnvD → M EnvD
  | .nil, ds, env => match ds with
    | [] => retM env
    | _ :: _ => failM
  | .cons t l, ds, env => match ds with
    | [] => failM
    | d :: r => bindM (sureM (denG G t (.val d) env)) fun env2 => denGs G l r env2
end

inductive OutS where
  | next (env : EnvD)
  | brk (env : EnvD)
  | cont (env : EnvD)
  | ret (v : RV)
  | exc (c : Str) (fs : List (Str × PyData)) (env : EnvD)
abbrev DenS := EnvD → AH → Option (OutS × AH)
/-- an expression ahead of the rest of a statement -/
def andThen {A : Type} (m : M A) (env : EnvD) (f : A → AH → Option (OutS × AH)) : AH → Option (OutS × AH) := fun h => match m h with
  | none => none
  | some (.exc c fs, h') => some (.exc c fs env, h')
  | some (.ok a, h') => f a h'
def loopS (tgt : PyData → EnvD → M EnvD) (body : DenS) : List PyData → DenS
  | [], env, h => some (.next env, h)
  | d :: ds, env, h => andThen (sureM (tgt d env)) env (fun env2 h2 => match body env2 h2 with
    | some (.next e, h') => loopS tgt body ds e h'
    | some (.cont e, h') => loopS tgt body ds e h'
    | some (.brk e, h') => some (.next e, h')
    | r => r) h
def whileS (cond : EnvD → M Bool) (body : DenS) : Nat → DenS
  | 0, _, _ => none
  | n + 1, env, h => andThen (cond env) env (fun b h2 => if b then match body env h2 with
      | some (.next e, h') => whileS cond body n e h'
      | some (.cont e, h') => whileS cond body n e h'
      | some (.brk e, h') => some (.next e, h')
      | r => r
    else some (.next env, h2)) h
def setAll : List Nat → List RV → EnvD → Option EnvD
  | [], [], env => some env
  | i :: is, x :: xs, env => setAll is xs (env.set i (some x))
  | _, _, _ => none
def fuelW : Nat := 1000000
/-- an error is raised -/
def raiS (c : Str) (f : Option Str) (env : EnvD) (x : RV) (h : AH) : Option (OutS × AH) := match x with
  | .val d => some (.exc c (match f with | some f => [(f, d)] | none => []) env, h)
  | _ => none
def sx0D (fs : List (Str × PyData)) : Sx0 → Option PyData
  | .con d => some d
  | .fld f => fs.lookup f
def sxV (c : Str) (fs : List (Str × PyData)) : Sx → Option RV
  | .one a => (sx0D fs a).map .val
  | .err => some (.exn c fs)
  | .tup a b => match sx0D fs a, sx0D fs b with
    | some x, some y => some (.val (.tuple [x, y]))
    | _, _ => none
  | .lst a => (sx0D fs a).map fun x => .val (.list [x])
def offE (env : EnvD) : Option Nat → EnvD
  | some n => env.set n none
  | none => env
def acR (i : Option Nat) (c : Str) (fs : List (Str × PyData)) (env : EnvD) (h : AH) : Ac → Option (OutS × AH)
  | .asg j x => (sxV c fs x).bind fun v => some (.next (offE (env.set j (some v)) i), h)
  | .ret x => (sxV c fs x).bind fun v => some (.ret v, h)
def hdR : List Hd → Str → List (Str × PyData) → EnvD → AH → Option (OutS × AH)
  | [], c, fs, env, h => some (.exc c fs env, h)
  | hd :: r, c, fs, env, h => if c ∈ hd.cls then acR hd.nm c fs env h hd.act else hdR r c fs env h
def tryS (hs : List Hd) (tab : List Str) (r : Option (OutS × AH)) : Option (OutS × AH) := match r with
  | some (.exc c fs env, h) => if c ∈ tab then hdR hs c fs env h else none
  | r => r
mutual
def denS (G : Gd) : Sm → DenS
  | .asg t e, env => andThen (den G e env) env fun x => andThen (sureM (denG G t x env)) env fun env2 h => some (.next env2, h)
  | .par ts l, env => andThen (denA G l env) env fun xs h => match setAll ts xs env with
    | some e => some (.next e, h)
    | none => none
  | .aug i o e, env => andThen (slotM env i) env fun x => andThen (den G e env) env fun y => andThen (two (augF o) x y) env fun v h => some (.next (env.set i (some v)), h)
  | .expr e, env => andThen (den G e env) env fun _ h => some (.next env, h)
  | .ife c a b, env => andThen (bindM (den G c env) truM) env fun k => if k then denSs G a env else denSs G b env
  | .loop t it b, env => andThen (denI G it env) env fun ds => loopS (fun d e => denG G t (.val d) e) (fun e => denSs G b e) ds env
  | .whl c b, env => whileS (fun e => bindM (den G c e) truM) (fun e => denSs G b e) fuelW env
  | .ret e, env => andThen (den G e env) env fun x h => some (.ret x, h)
  | .ret0, _ => fun h => some (.ret (.val .none), h)
  | .brk, env => fun h => some (.brk env, h)
  | .cnt, env => fun h => some (.cont env, h)
  | .pas, env => fun h => some (.next env, h)
  | .rai c f e, env => andThen (den G e env) env fun x => raiS c f env x
  | .tryx b hs tab, env => fun h => tryS hs tab (denSs G b env h)
def denSs (G : Gd) : Ss → DenS
  | .nil, env => fun h => some (.next env, h)
  | .cons s l, env => fun h => match denS G s env h with
    | some (.next e, h') => denSs G l e h'
    | r => r
end
/-- a def: its slots, its body -/
structure Fd where
  n : Nat
  body : Ss
def runF (G : Gd) (f : Fd) (xs : List RV) : M RV := fun h => match denSs G f.body (xs.map some ++ List.replicate (f.n - xs.length) none) h with
  | some (.next _, h') => some (.ok (.val .none), h')
  | some (.ret v, h') => some (.ok v, h')
  | some (.exc c fs _, h') => some (.exc c fs, h')
  | _ => none
/-- the program: constants, defs; k calls deep -/
structure Pg where
  con : List (Str × PyData)
  fns : List (Str × Fd)
def run (P : Pg) : Nat → Str → List RV → M RV
  | 0, _, _ => failM
  | k + 1, f, xs => match P.fns.lookup f with
    | some d => runF ⟨fun x => P.con.lookup x, run P k⟩ d xs
    | none => failM
def Pg.gd (P : Pg) (k : Nat) : Gd := ⟨fun x => P.con.lookup x, run P k⟩
end L2.Cap

set_option maxRecDepth 100000
set_option maxHeartbeats 1000000
namespace L2.Cap
open PySem PySem.Spec PyProof.Rows

abbrev EXC := Str → List (Str × PyData) → Z → Prop
/-- what a reading's exception is to reach -/
def wX (K : PySem.W.Frag) (mg : Str → Option Value) (W : WX) (σ : St) : EXC := fun c fs z' => ∀ cls dx, RepX K mg z' c fs cls dx → W cls dx σ z'.H
/-- the reading of a meaning; R: how what comes is to lie -/
def tM {A B : Type} (K : PySem.W.Frag) (mg : Str → Option Value) (W : WX) (R : Z → A → B → Prop) (d : EnvD → M A) : St → Hp → (B → Hp → Prop) → Prop :=
  fun σ H Q => ∃ z env, z.H = H ∧ Good K z ∧ RepE K z env σ ∧ Fin K z (d env z.h) (fun a z' => ∀ b, R z' a b → Q b z'.H) (wX K mg W σ)
abbrev tD (X : Cx) (W : WX) (d : DenE) : TE := tM X.K X.mg W (fun z a v => RepV X.K z v a) d
abbrev tA (X : Cx) (W : WX) (d : DenA) : TA := tM X.K X.mg W (fun z a v => RepVs X.K z v a) d
abbrev tTe (X : Cx) (W : WX) (d : EnvD → M Bool) : TT := tM X.K X.mg W (fun _ a b => b = a) d
abbrev tOe (X : Cx) (W : WX) (d : EnvD → M (Option Int)) : TO := tM X.K X.mg W (fun _ a b => b = a) d

theorem PE.imp {X : Cx} {e : Expr} {t t' : TE} (h : PE X e t) (i : ∀ σ H Q, t' σ H Q → t σ H Q) : PE X e t' := ⟨fun pins s σ H Q I q => h.run pins s σ H Q I (i _ _ _ q)⟩
theorem PT.imp {X : Cx} {e : Expr} {t t' : TT} (h : PT X e t) (i : ∀ σ H Q, t' σ H Q → t σ H Q) : PT X e t' := ⟨fun pins s σ H Q I q => h.run pins s σ H Q I (i _ _ _ q)⟩
theorem PW.imp {X : Cx} {e : Expr} {t t' : TT} (h : PW X e t) (i : ∀ σ H Q, t' σ H Q → t σ H Q) : PW X e t' := ⟨fun wh pins s σ H Q I q => h.run wh pins s σ H Q I (i _ _ _ q)⟩
theorem PA.imp {X : Cx} {e : List Expr} {t t' : TA} (h : PA X e t) (i : ∀ σ H Q, t' σ H Q → t σ H Q) : PA X e t' := ⟨fun pos pins s σ H Q I q => h.run pos pins s σ H Q I (i _ _ _ q)⟩
theorem PO.imp {X : Cx} {e : Option Expr} {t t' : TO} (h : PO X e t) (i : ∀ σ H Q, t' σ H Q → t σ H Q) : PO X e t' := ⟨fun pins s σ H Q I q => h.run pins s σ H Q I (i _ _ _ q)⟩
theorem PS.imp {X : Cx} {e : Stmt} {t t' : TS} (h : PS X e t) (i : ∀ D σ H, t' D σ H → t D σ H) : PS X e t' := ⟨fun pins s σ H D I q => h.run pins s σ H D I (i _ _ _ q)⟩
theorem PSs.imp {X : Cx} {e : List Stmt} {t t' : TS} (h : PSs X e t) (i : ∀ D σ H, t' D σ H → t D σ H) : PSs X e t' := ⟨fun pins s σ H D I q => h.run pins s σ H D I (i _ _ _ q)⟩

section
variable {K : PySem.W.Frag} {z : Z} {A B : Type} {P : A → Z → Prop} {E : EXC}
theorem Fin.read {f : AH → Option A} (h : Fin K z (readM f z.h) P E) : ∃ a, f z.h = some a ∧ ∀ z', z'.h = z.h → Good K z' → Ext z z' → P a z' := by
  unfold readM at h
  cases e : f z.h with
  | none => rw [e] at h; exact h.elim
  | some a => rw [e] at h; exact ⟨a, rfl, h⟩
theorem Fin.reads {f : AH → Option A} {Q : B → Z → Prop} {k : A → M B} (g : Good K z) (h : Fin K z (bindM (readM f) k z.h) Q E) : ∃ a, f z.h = some a ∧ Fin K z (k a z.h) Q E := by
  obtain ⟨a, e, q⟩ := Fin.read (Fin.bind g h)
  exact ⟨a, e, q z rfl g (Ext.refl z)⟩
theorem Fin.fail (h : Fin K z (failM z.h) P E) : False := h
theorem Fin.intOf {Q : B → Z → Prop} {x : RV} {k : Int → M B} (g : Good K z) (h : Fin K z (bindM (intOf x) k z.h) Q E) : ∃ i, x = .val (.int i) ∧ Fin K z (k i z.h) Q E := by
  have q := Fin.bind g h
  unfold Cap.intOf at q
  split at q
  · exact ⟨_, rfl, Fin.ret g q⟩
  · exact q.elim
theorem Fin.boolOf {Q : B → Z → Prop} {x : RV} {k : Bool → M B} (g : Good K z) (h : Fin K z (bindM (boolOf x) k z.h) Q E) : ∃ i, x = .val (.bool i) ∧ Fin K z (k i z.h) Q E := by
  have q := Fin.bind g h
  unfold Cap.boolOf at q
  split at q
  · exact ⟨_, rfl, Fin.ret g q⟩
  · exact q.elim
theorem Fin.dataOf {Q : B → Z → Prop} {x : RV} {k : PyData → M B} (g : Good K z) (h : Fin K z (bindM (dataOf x) k z.h) Q E) : ∃ i, x = .val i ∧ Fin K z (k i z.h) Q E := by
  have q := Fin.bind g h
  unfold Cap.dataOf at q
  split at q
  · exact ⟨_, rfl, Fin.ret g q⟩
  · exact q.elim
  · exact q.elim
end

section
variable {X : Cx} {W : WX} {a b c e : Expr} {da db dc : DenE} {pos : Pos}
/-- the first part of a bind: the rest is told with where it lies -/
theorem tM.bind {A B C D : Type} {K : PySem.W.Frag} {mg : Str → Option Value} {R : Z → C → D → Prop} {Ra : Z → A → B → Prop} {da : EnvD → M A} {f : EnvD → A → M C} {σ : St} {H : Hp} {Q : D → Hp → Prop} {Q' : B → Hp → Prop}
    (h : tM K mg W R (fun env => bindM (da env) (f env)) σ H Q)
    (n : ∀ z1 env a b, Good K z1 → RepE K z1 env σ → Ra z1 a b → Fin K z1 (f env a z1.h) (fun a z' => ∀ b, R z' a b → Q b z'.H) (wX K mg W σ) → Q' b z1.H) : tM K mg W Ra da σ H Q' := by
  obtain ⟨z, env, rfl, g, re, fin⟩ := h
  exact ⟨z, env, rfl, g, re, (Fin.bind g fin).imp (fun a z1 g1 e1 q b r => n z1 env a b g1 (re.ext g e1) r q) fun _ _ _ _ _ q => q⟩
theorem de_var {i : Nat} {x : Str} (hN : X.N[i]? = some x) (hv : Vis X.env.scope x) (hd : (x == ("__debug__" : Str)) = false) (hcd : (x == ("__classdict__" : Str)) = false) :
    PE X (.Name x pos) (tD X W (fun env => slotM env i)) := by
  refine PE.imp (pe_var hN hv hd hcd) ?_
  rintro σ H Q ⟨z, env, rfl, g, re, fin⟩
  unfold slotM at fin
  dsimp only at fin
  cases e : env[i]? with
  | none => rw [e] at fin; exact fin.elim
  | some o =>
    cases o with
    | none => rw [e] at fin; exact fin.elim
    | some v =>
      rw [e] at fin
      obtain ⟨w, h1, h2⟩ := re.at' i v e
      exact ⟨w, h1, Fin.ret g fin w h2⟩
theorem de_con {v : V} {d : PyData} (h : PE X e (tC v)) (r : ∀ F H, RepD X.K F H v d) : PE X e (tD X W (fun _ => retM (.val d))) := by
  refine PE.imp h ?_
  rintro σ H Q ⟨z, env, rfl, g, re, fin⟩
  exact Fin.ret g fin v (.val (r _ _))
/-- two values, by a rule of data -/
theorem two_rd {K : PySem.W.Frag} {z : Z} {f : PyData → PyData → Option PyData} {x y : RV} {vx vy : V} {P : RV → Z → Prop} {E : EXC} {Q : VK} (g : Good K z) (rx : RepV K z vx x) (ry : RepV K z vy y)
    (fin : Fin K z (two f x y z.h) P E) (n : ∀ d z', z'.h = z.h → Good K z' → Ext z z' → P (.val d) z' → ∀ v, RepD K z'.F z'.H v d → Q v z'.H) : rD2 K f vx vy z.H Q := by
  obtain ⟨v, e, q⟩ := Fin.read fin
  cases e1 : view x z.h with
  | none => rw [e1] at e; cases e
  | some d1 =>
    cases e2 : view y z.h with
    | none => rw [e1, e2] at e; cases e
    | some d2 =>
      rw [e1, e2] at e
      cases e3 : f d1 d2 with
      | none =>
        have e' : (f d1 d2).bind (fun d => some (RV.val d)) = some v := e
        rw [e3] at e'; cases e'
      | some d =>
        have e' : (f d1 d2).bind (fun d => some (RV.val d)) = some v := e
        rw [e3] at e'
        have e4 : RV.val d = v := Option.some.inj e'
        subst e4
        exact ⟨z, d1, d2, d, rfl, g, view_rep g rx e1, view_rep g ry e2, e3, fun z' h1 g' x' v' r' => n d z' h1 g' x' (q z' h1 g' x') v' r'⟩
theorem de_bin {op : Operator} {f : PyData → PyData → Option PyData} (ho : OpR X (binaryOp op) (rD2 X.K f)) (ha : PE X a (tD X W da)) (hb : PE X b (tD X W db)) :
    PE X (.BinOp a op b pos) (tD X W (fun env => bindM (da env) fun x => bindM (db env) fun y => two f x y)) := by
  refine PE.imp (pe_op ho ha hb) fun σ H Q h => ?_
  unfold tOp
  refine tM.bind h fun z1 env x vx g1 re rx fin => ?_
  refine ⟨z1, env, rfl, g1, re, (Fin.bind g1 fin).imp (fun y z2 g2 e2 fin2 vy ry => ?_) fun _ _ _ _ _ q => q⟩
  exact two_rd g2 (rx.ext g1 e2) ry fin2 fun d z' _ _ _ q v r => q v (.val r)
theorem de_cmp {op : CmpOp} {f : PyData → PyData → Option PyData} (ho : OpR X (compareOp op) (rD2 X.K f)) (ha : PE X a (tD X W da)) (hb : PE X b (tD X W db)) (hm : behindInMarks op b = false) :
    PE X (.Compare a [op] [b] pos) (tD X W (fun env => bindM (da env) fun x => bindM (db env) fun y => two f x y)) := by
  refine PE.imp (pe_cmpR ho ha hb hm) fun σ H Q h => ?_
  unfold tOp
  refine tM.bind h fun z1 env x vx g1 re rx fin => ?_
  refine ⟨z1, env, rfl, g1, re, (Fin.bind g1 fin).imp (fun y z2 g2 e2 fin2 vy ry => ?_) fun _ _ _ _ _ q => q⟩
  exact two_rd g2 (rx.ext g1 e2) ry fin2 fun d z' _ _ _ q v r => q v (.val r)
theorem de_neg (ha : PE X a (tD X W da)) : PE X (.UnaryOp .USub a pos) (tD X W (fun env => bindM (da env) fun x => bindM (intOf x) fun i => retM (.val (.int (-i))))) := by
  refine PE.imp (pe_un un_neg ha) fun σ H Q h => ?_
  unfold tUn
  refine tM.bind h fun z1 env x vx g1 re rx fin => ?_
  obtain ⟨i, rfl, fin⟩ := Fin.intOf g1 fin
  cases rx with | val rx =>
  cases rx
  exact ⟨i, rfl, Fin.ret g1 fin _ (.val (.int _))⟩
theorem RepV.bool {K : PySem.W.Frag} {z : Z} {v : V} {k : Bool} (r : RepV K z v (.val (.bool k))) : v = .bl k := by
  cases r with | val r => cases r; rfl
theorem RepD.bool {K : PySem.W.Frag} {F : Addr → Prop} {H : Hp} {v : V} {k : Bool} (r : RepD K F H v (.bool k)) : v = .bl k := by
  cases r; rfl
theorem de_chn {op op' : CmpOp} {f f' : PyData → PyData → Option PyData} (ho : OpR X (compareOp op) (rD2 X.K f)) (ho' : OpR X (compareOp op') (rD2 X.K f')) (ha : PE X a (tD X W da)) (hb : PE X b (tD X W db)) (hc : PE X c (tD X W dc))
    (hm : lastMarks [op, op'] [b, c] = false) :
    PE X (.Compare a [op, op'] [b, c] pos) (tD X W (fun env => bindM (da env) fun x => bindM (db env) fun y => bindM (two f x y) fun k => bindM (boolOf k) fun k =>
      if k then bindM (dc env) fun w => two f' y w else retM (.val (.bool false)))) := by
  refine PE.imp (pe_chain ho ho' ha hb hc hm) fun σ H Q h => ?_
  unfold tChain
  refine tM.bind h fun z1 env x vx g1 re rx fin => ?_
  refine ⟨z1, env, rfl, g1, re, (Fin.bind g1 fin).imp (fun y z2 g2 e2 fin2 vy ry => ?_) fun _ _ _ _ _ q => q⟩
  refine two_rd g2 (rx.ext g1 e2) ry (Fin.bind g2 fin2) fun d z3 h3 g3 e3 fin3 v rv => ?_
  obtain ⟨k, ek, fin4⟩ := Fin.boolOf g3 fin3
  cases ek
  refine ⟨k, rv.bool, ?_⟩
  cases k with
  | true =>
    rw [if_pos rfl]
    have fin4 : Fin X.K z3 (bindM (dc env) (fun w => two f' y w) z3.h) _ _ := fin4
    refine ⟨z3, env, rfl, g3, (re.ext g1 e2).ext g2 e3, (Fin.bind g3 fin4).imp (fun w z4 g4 e4 fin5 vw rw' => ?_) fun _ _ _ _ _ q => q⟩
    exact two_rd g4 ((ry.ext g2 e3).ext g3 e4) rw' fin5 fun d z' _ _ _ q v r => q v (.val r)
  | false =>
    rw [if_neg Bool.false_ne_true]
    exact Fin.ret g3 fin4 _ (.val (.bl _))

/-! ### truth, and, or, not -/
theorem tru_rep {K : PySem.W.Frag} {z : Z} {x : RV} {v : V} {k : Bool} (g : Good K z) (r : RepV K z v x) (e : truV x z.h = some k) : TruV K v z.H k := by
  unfold truV at e
  cases e1 : viewR x z.h with
  | none => rw [e1] at e; cases e
  | some d =>
    rw [e1] at e
    have e : truD d = some k := e
    have q := viewR_rep g r e1
    unfold truD at e
    split at e
    · cases e; rw [q.non]; rfl
    · cases e; rw [q.bl]; rfl
    · cases e; rw [q.int]; rfl
    · split at e
      · rename_i hl
        cases e
        rw [q.str]
        exact ⟨hl, rfl⟩
      · cases e
    · cases e
      obtain ⟨a, vs, rfl, h, rr⟩ := q.lst
      refine .inl ⟨vs, h, ?_⟩
      cases rr <;> rfl
    · cases e
      obtain ⟨a, vs, rfl, h, rr, _⟩ := q.tup
      refine .inr (.inl ⟨vs, h, ?_⟩)
      cases rr <;> rfl
    · cases e
/-- a value by its truth, as a test -/
theorem dt_truth (ha : PE X a (tD X W da)) (he : ∀ whole, isTrue a X.env whole = (do let v ← whole; standAt a.pos; holding [v] (truthy v))) : PT X a (tTe X W (fun env => bindM (da env) truM)) := by
  refine PT.imp (pt_truth ha he) fun σ H Q h => ?_
  refine tM.bind h fun z1 env x vx g1 re rx fin => ?_
  obtain ⟨k, e, q⟩ := Fin.read fin
  exact ⟨k, tru_rep g1 rx e, q z1 rfl g1 (Ext.refl _) _ rfl⟩
/-- a comparison as a test: its value is a bool -/
theorem cm_bool {f : PyData → PyData → Option PyData} (hf : ∀ a b d, f a b = some d → ∃ k, d = .bool k) {K : PySem.W.Frag} {z : Z} {x y : RV} {P : Bool → Z → Prop} {E : EXC} (g : Good K z) (fin : Fin K z (bindM (two f x y) truM z.h) P E) :
    Fin K z (two f x y z.h) (fun v z' => ∃ k, v = .val (.bool k) ∧ P k z') E := by
  have q := Fin.bind g fin
  unfold two readM at q ⊢
  dsimp only at q ⊢
  cases e : (do let a ← view x z.h; let b ← view y z.h; let d ← f a b; return RV.val d : Option RV) with
  | none => rw [e] at q; exact q.elim
  | some v =>
    rw [e] at q
    intro z' h1 g' x'
    obtain ⟨k, e2, q2⟩ := Fin.read (q z' h1 g' x')
    cases e3 : view x z.h with
    | none => rw [e3] at e; cases e
    | some d1 =>
      cases e4 : view y z.h with
      | none => rw [e3, e4] at e; cases e
      | some d2 =>
        rw [e3, e4] at e
        have e' : (f d1 d2).bind (fun d => some (RV.val d)) = some v := e
        cases e5 : f d1 d2 with
        | none => rw [e5] at e'; cases e'
        | some d =>
          rw [e5] at e'
          have e6 : RV.val d = v := Option.some.inj e'
          obtain ⟨k', rfl⟩ := hf _ _ _ e5
          subst e6
          cases e2
          exact ⟨_, rfl, q2 z' rfl g' (Ext.refl _)⟩
theorem dt_cmp {op : CmpOp} {f : PyData → PyData → Option PyData} (hf : ∀ a b d, f a b = some d → ∃ k, d = .bool k) (ho : OpR X (compareOp op) (rD2 X.K f)) (ha : PE X a (tD X W da)) (hb : PE X b (tD X W db)) (hm : behindInMarks op b = false) :
    PT X (.Compare a [op] [b] pos) (tTe X W (fun env => bindM (bindM (da env) fun x => bindM (db env) fun y => two f x y) truM)) := by
  refine PT.imp (pt_cmpR ho ha hb hm) fun σ H Q h => ?_
  unfold tTest tOp
  obtain ⟨z, env, rfl, g, re, fin⟩ := h
  have fin1 : Fin X.K z (bindM (da env) (fun x => bindM (bindM (db env) fun y => two f x y) truM) z.h) (fun a z' => ∀ b, b = a → Q b z'.H) (wX X.K X.mg W σ) := by
    have e : bindM (bindM (da env) fun x => bindM (db env) fun y => two f x y) truM z.h = bindM (da env) (fun x => bindM (bindM (db env) fun y => two f x y) truM) z.h := by
      unfold bindM
      cases da env z.h with
      | none => rfl
      | some p => obtain ⟨o, h'⟩ := p; cases o <;> rfl
    rw [← e]
    exact fin
  refine ⟨z, env, rfl, g, re, (Fin.bind g fin1).imp (fun x z1 g1 e1 fin2 vx rx => ?_) fun _ _ _ _ _ q => q⟩
  have fin3 : Fin X.K z1 (bindM (db env) (fun y => bindM (two f x y) truM) z1.h) (fun a z' => ∀ b, b = a → Q b z'.H) (wX X.K X.mg W σ) := by
    have e : bindM (bindM (db env) fun y => two f x y) truM z1.h = bindM (db env) (fun y => bindM (two f x y) truM) z1.h := by
      unfold bindM
      cases db env z1.h with
      | none => rfl
      | some p => obtain ⟨o, h'⟩ := p; cases o <;> rfl
    rw [← e]
    exact fin2
  refine ⟨z1, env, rfl, g1, re.ext g e1, (Fin.bind g1 fin3).imp (fun y z2 g2 e2 fin4 vy ry => ?_) fun _ _ _ _ _ q => q⟩
  refine two_rd g2 (rx.ext g1 e2) ry (cm_bool hf g2 fin4) fun d z' _ _ _ q v r => ?_
  obtain ⟨k, ek, q⟩ := q
  cases ek
  exact ⟨k, r.bool, q k rfl⟩
end
end L2.Cap

set_option maxRecDepth 100000
set_option maxHeartbeats 1000000
namespace L2.Cap
open PySem PySem.Spec PyProof.Rows
theorem bindM_assoc {A B C : Type} (m : M A) (f : A → M B) (g : B → M C) (h : AH) : bindM (bindM m f) g h = bindM m (fun a => bindM (f a) g) h := by
  unfold bindM
  cases m h with
  | none => rfl
  | some p => obtain ⟨o, h'⟩ := p; cases o <;> rfl
section
variable {X : Cx} {W : WX} {a b c e : Expr} {rest : List Expr} {da db dc : DenE} {pos : Pos}
theorem Fin.tru {K : PySem.W.Frag} {z : Z} {B : Type} {Q : B → Z → Prop} {E : EXC} {x : RV} {k : Bool → M B} (g : Good K z) (h : Fin K z (bindM (truM x) k z.h) Q E) : ∃ b, truV x z.h = some b ∧ Fin K z (k b z.h) Q E :=
  Fin.reads g h
theorem de_one {op : BoolOp} (h : PE X a (tD X W da)) : PE X (.BoolOp op [a] pos) (tD X W da) := pe_one h
theorem de_and (ha : PE X a (tD X W da)) (hb : PE X (.BoolOp .And (b :: rest) pos) (tD X W db)) :
    PE X (.BoolOp .And (a :: b :: rest) pos) (tD X W (fun env => bindM (da env) fun x => bindM (truM x) fun k => if k = true then db env else retM x)) := by
  refine PE.imp (pe_andT ha hb) fun σ H Q h => ?_
  unfold tAndT
  refine tM.bind h fun z1 env x vx g1 re rx fin => ?_
  obtain ⟨k, e, fin⟩ := Fin.tru g1 fin
  refine ⟨k, tru_rep g1 rx e, ?_⟩
  cases k with
  | true => exact ⟨z1, env, rfl, g1, re, fin⟩
  | false => exact Fin.ret g1 fin _ rx
theorem de_or (ha : PE X a (tD X W da)) (hb : PE X (.BoolOp .Or (b :: rest) pos) (tD X W db)) :
    PE X (.BoolOp .Or (a :: b :: rest) pos) (tD X W (fun env => bindM (da env) fun x => bindM (truM x) fun k => if k = false then db env else retM x)) := by
  refine PE.imp (pe_orT ha hb) fun σ H Q h => ?_
  unfold tOrT
  refine tM.bind h fun z1 env x vx g1 re rx fin => ?_
  obtain ⟨k, e, fin⟩ := Fin.tru g1 fin
  refine ⟨k, tru_rep g1 rx e, ?_⟩
  cases k with
  | false => exact ⟨z1, env, rfl, g1, re, fin⟩
  | true => exact Fin.ret g1 fin _ rx
theorem and_tru (m : M RV) (n : M RV) (h : AH) : bindM (bindM m fun x => bindM (truM x) fun k => if k = true then n else retM x) truM h = bindM (bindM m truM) (fun k => if k = true then bindM n truM else retM false) h := by
  rw [bindM_assoc, bindM_assoc]
  unfold bindM
  cases m h with
  | none => rfl
  | some p =>
    obtain ⟨o, h'⟩ := p
    cases o with
    | exc c fs => rfl
    | ok x =>
      unfold truM readM
      dsimp only
      cases e : truV x h' with
      | none => rfl
      | some k =>
        cases k with
        | true => rfl
        | false =>
          simp [retM, e]
theorem or_tru (m : M RV) (n : M RV) (h : AH) : bindM (bindM m fun x => bindM (truM x) fun k => if k = false then n else retM x) truM h = bindM (bindM m truM) (fun k => if k = false then bindM n truM else retM true) h := by
  rw [bindM_assoc, bindM_assoc]
  unfold bindM
  cases m h with
  | none => rfl
  | some p =>
    obtain ⟨o, h'⟩ := p
    cases o with
    | exc c fs => rfl
    | ok x =>
      unfold truM readM
      dsimp only
      cases e : truV x h' with
      | none => rfl
      | some k =>
        cases k with
        | false => rfl
        | true =>
          simp [retM, e]
theorem tM.congr {A B : Type} {K : PySem.W.Frag} {mg : Str → Option Value} {R : Z → A → B → Prop} {d d' : EnvD → M A} {σ : St} {H : Hp} {Q : B → Hp → Prop} (h : tM K mg W R d σ H Q) (e : ∀ env x, d env x = d' env x) : tM K mg W R d' σ H Q := by
  obtain ⟨z, env, rfl, g, re, fin⟩ := h
  exact ⟨z, env, rfl, g, re, by rw [← e]; exact fin⟩
theorem dw_one {op : BoolOp} {d : EnvD → M Bool} (ha : PT X a (tTe X W d)) : PW X (.BoolOp op [a] pos) (tTe X W d) := by
  cases op with
  | And => exact pw_and1 ha
  | Or => exact pw_or1 ha
theorem dw_and (ha : PT X a (tTe X W (fun env => bindM (da env) truM))) (hb : PW X (.BoolOp .And (b :: rest) pos) (tTe X W (fun env => bindM (db env) truM))) :
    PW X (.BoolOp .And (a :: b :: rest) pos) (tTe X W (fun env => bindM (bindM (da env) fun x => bindM (truM x) fun k => if k = true then db env else retM x) truM)) := by
  refine PW.imp (pw_and ha hb) fun σ H Q h => ?_
  unfold tAnd
  refine tM.bind (f := fun env k => if k = true then bindM (db env) truM else retM false) (h.congr fun env x => and_tru (da env) (db env) x) fun z1 env k k' g1 re rx fin => ?_
  subst rx
  cases k' with
  | true => exact ⟨z1, env, rfl, g1, re, fin⟩
  | false => exact Fin.ret g1 fin _ rfl
theorem dw_or (ha : PT X a (tTe X W (fun env => bindM (da env) truM))) (hb : PW X (.BoolOp .Or (b :: rest) pos) (tTe X W (fun env => bindM (db env) truM))) :
    PW X (.BoolOp .Or (a :: b :: rest) pos) (tTe X W (fun env => bindM (bindM (da env) fun x => bindM (truM x) fun k => if k = false then db env else retM x) truM)) := by
  refine PW.imp (pw_or ha hb) fun σ H Q h => ?_
  unfold tOr
  refine tM.bind (f := fun env k => if k = false then bindM (db env) truM else retM true) (h.congr fun env x => or_tru (da env) (db env) x) fun z1 env k k' g1 re rx fin => ?_
  subst rx
  cases k' with
  | false => exact ⟨z1, env, rfl, g1, re, fin⟩
  | true => exact Fin.ret g1 fin _ rfl
theorem de_nt (ha : PE X a (tD X W da)) : PE X (.UnaryOp .Not a pos) (tD X W (fun env => bindM (da env) fun x => bindM (truM x) fun b => retM (.val (.bool (!b))))) := by
  refine PE.imp (pe_notT ha) fun σ H Q h => ?_
  unfold tNotT
  refine tM.bind h fun z1 env x vx g1 re rx fin => ?_
  obtain ⟨k, e, fin⟩ := Fin.tru g1 fin
  exact ⟨k, tru_rep g1 rx e, Fin.ret g1 fin _ (.val (.bl _))⟩
theorem nt_tru (m : M RV) (h : AH) : bindM (bindM m fun x => bindM (truM x) fun b => retM (.val (.bool (!b)))) truM h = bindM (bindM m truM) (fun k => retM (!k)) h := by
  rw [bindM_assoc, bindM_assoc]
  unfold bindM
  cases m h with
  | none => rfl
  | some p =>
    obtain ⟨o, h'⟩ := p
    cases o with
    | exc c fs => rfl
    | ok x =>
      unfold truM readM
      dsimp only
      cases e : truV x h' with
      | none => rfl
      | some k => rfl
theorem dt_nt (ha : PT X a (tTe X W (fun env => bindM (da env) truM))) : PT X (.UnaryOp .Not a pos) (tTe X W (fun env => bindM (bindM (da env) fun x => bindM (truM x) fun b => retM (.val (.bool (!b)))) truM)) := by
  refine PT.imp (pt_not ha) fun σ H Q h => ?_
  unfold tNot
  refine tM.bind (f := fun env k => retM (!k)) (h.congr fun env x => nt_tru (da env) x) fun z1 env k k' g1 re rx fin => ?_
  subst rx
  exact Fin.ret g1 fin _ rfl
theorem de_ife (hc : PT X c (tTe X W (fun env => bindM (dc env) truM))) (ha : PE X a (tD X W da)) (hb : PE X b (tD X W db)) :
    PE X (.IfExp c a b pos) (tD X W (fun env => bindM (dc env) fun x => bindM (truM x) fun k => if k then da env else db env)) := by
  refine PE.imp (pe_ifExp hc ha hb) fun σ H Q h => ?_
  unfold tIf
  refine tM.bind (f := fun env k => if k then da env else db env) (h.congr fun env x => (bindM_assoc _ _ _ x).symm) fun z1 env k k' g1 re rx fin => ?_
  subst rx
  cases k' with
  | true => exact ⟨z1, env, rfl, g1, re, fin⟩
  | false => exact ⟨z1, env, rfl, g1, re, fin⟩

/-! ### argument lists, displays, subscripts -/
variable {es : List Expr} {dA : DenA}
theorem da_nil : PA X [] (tA X W (fun _ => retM [])) := by
  refine PA.imp pa_nil ?_
  rintro σ H Q ⟨z, env, rfl, g, re, fin⟩
  exact Fin.ret g fin _ .nil
theorem da_cons (ha : PE X a (tD X W da)) (hr : PA X es (tA X W dA)) (hs : starEach (a :: es) X.env = (false, eval a X.env) :: starEach es X.env) :
    PA X (a :: es) (tA X W (fun env => bindM (da env) fun x => bindM (dA env) fun xs => retM (x :: xs))) := by
  refine PA.imp (pa_cons ha hr hs) fun σ H Q h => ?_
  unfold tCons
  refine tM.bind h fun z1 env x vx g1 re rx fin => ?_
  refine ⟨z1, env, rfl, g1, re, (Fin.bind g1 fin).imp (fun y z2 g2 e2 fin2 vy ry => ?_) fun _ _ _ _ _ q => q⟩
  exact Fin.ret g2 fin2 _ (.cons (rx.ext g1 e2) ry)
theorem Fin.allVal {K : PySem.W.Frag} {z : Z} {B : Type} {Q : B → Z → Prop} {E : EXC} {xs : List RV} {k : List PyData → M B} (g : Good K z) (h : Fin K z (bindM (allVal xs) k z.h) Q E) : ∃ ds, vals xs = some ds ∧ Fin K z (k ds z.h) Q E :=
  Fin.reads g h
theorem de_tup {k : Nat} (h : PA X es (tA X W dA)) : PE X (.Tuple es k pos) (tD X W (fun env => bindM (dA env) fun xs => bindM (allVal xs) fun ds => if ds.length ≤ sizeLine then retM (.val (.tuple ds)) else failM)) := by
  refine PE.imp (pe_tup h) fun σ H Q h => ?_
  unfold tTup
  refine tM.bind h fun z1 env xs vs g1 re rx fin => ?_
  obtain ⟨ds, e, fin⟩ := Fin.allVal g1 fin
  have rd := vals_rep rx e
  split at fin
  · rename_i hl
    refine ⟨by rw [rd.length]; exact hl, fun p hp => ?_⟩
    exact fin (z1.at p (.tup vs)) rfl (g1.new _ hp) (Ext.new g1 _ hp) _ (.val (new_tup g1 hp rd))
  · exact fin.elim
theorem de_lst (h : PA X es (tA X W dA)) : PE X (.List es pos) (tD X W (fun env => bindM (dA env) fun xs => bindM (allVal xs) fun ds => if ds.length ≤ sizeLine then retM (.val (.list ds)) else failM)) := by
  refine PE.imp (pe_lst h) fun σ H Q h => ?_
  unfold tLst
  refine tM.bind h fun z1 env xs vs g1 re rx fin => ?_
  obtain ⟨ds, e, fin⟩ := Fin.allVal g1 fin
  have rd := vals_rep rx e
  split at fin
  · rename_i hl
    refine ⟨by rw [rd.length]; exact hl, fun p hp => ?_⟩
    exact fin (z1.at p (.lst vs)) rfl (g1.new _ hp) (Ext.new g1 _ hp) _ (.val (new_lst g1 hp rd))
  · exact fin.elim
theorem de_ix (hu : X.A.units + 1 < cLine) (ha : PE X a (tD X W da)) (hb : PE X b (tD X W db)) (hs : PlainIx b) : PE X (.Subscript a b pos) (tD X W (fun env => bindM (da env) fun x => bindM (db env) fun y => readM (ixV x y))) := by
  refine PE.imp (pe_ix (ixd hu) ha hb hs) fun σ H Q h => ?_
  unfold tOp
  refine tM.bind h fun z1 env x vx g1 re rx fin => ?_
  refine ⟨z1, env, rfl, g1, re, (Fin.bind g1 fin).imp (fun y z2 g2 e2 fin2 vy ry => ?_) fun _ _ _ _ _ q => q⟩
  obtain ⟨v, e, q⟩ := Fin.read fin2
  exact ⟨z2, x, y, v, rfl, g2, rx.ext g1 e2, ry, e, fun w r => q z2 rfl g2 (Ext.refl _) w r⟩
variable {lo hi : Option Expr} {dl dh : EnvD → M (Option Int)}
theorem do_no : PO X none (tOe X W (fun _ => retM none)) := by
  refine PO.imp po_none ?_
  rintro σ H Q ⟨z, env, rfl, g, re, fin⟩
  exact Fin.ret g fin _ rfl
theorem do_so (ha : PE X a (tD X W da)) : PO X (some a) (tOe X W (fun env => bindM (da env) fun x => bindM (intOf x) fun i => retM (some i))) := by
  refine PO.imp (po_some ha) fun σ H Q h => ?_
  unfold tPart
  refine tM.bind h fun z1 env x vx g1 re rx fin => ?_
  obtain ⟨i, rfl, fin⟩ := Fin.intOf g1 fin
  cases rx with | val rx =>
  cases rx
  exact ⟨i, rfl, Fin.ret g1 fin _ rfl⟩
theorem de_slc {p2 : Pos} (ha : PE X a (tD X W da)) (hl : PO X lo (tOe X W dl)) (hh : PO X hi (tOe X W dh)) :
    PE X (.Subscript a (.Slice lo hi none p2) pos) (tD X W (fun env => bindM (da env) fun x => bindM (dl env) fun l => bindM (dh env) fun u => readM fun h => do
      let d ← view x h
      let r ← slD d l u
      return .val r)) := by
  refine PE.imp (pe_slice sld ha hl hh) fun σ H Q h => ?_
  unfold tSl
  refine tM.bind h fun z1 env x vx g1 re rx fin => ?_
  refine ⟨z1, env, rfl, g1, re, (Fin.bind g1 fin).imp (fun l z2 g2 e2 fin2 l' rl => ?_) fun _ _ _ _ _ q => q⟩
  subst rl
  refine ⟨z2, env, rfl, g2, re.ext g1 e2, (Fin.bind g2 fin2).imp (fun u z3 g3 e3 fin3 u' ru => ?_) fun _ _ _ _ _ q => q⟩
  subst ru
  obtain ⟨v, e, q⟩ := Fin.read fin3
  cases e1 : view x z3.h with
  | none => rw [e1] at e; cases e
  | some d =>
    rw [e1] at e
    have e' : (slD d l' u').bind (fun r => some (RV.val r)) = some v := e
    cases e2' : slD d l' u' with
    | none => rw [e2'] at e'; cases e'
    | some r =>
      rw [e2'] at e'
      have e4 : RV.val r = v := Option.some.inj e'
      subst e4
      exact ⟨z3, d, r, rfl, g3, view_rep g3 ((rx.ext g1 e2).ext g2 e3) e1, e2', fun z' h1 g' x' v' r' => q z' h1 g' x' v' (.val r')⟩
end
end L2.Cap

set_option maxRecDepth 100000
set_option maxHeartbeats 1000000
namespace L2.Cap
open PySem PySem.Spec PyProof.Rows
abbrev RepRs (K : PySem.W.Frag) (z : Z) : List V → List PyData → Prop := Paired (RepR K z)
def rDc (K : PySem.W.Frag) (f : List PyData → Option PyData) : List V → Hp → VK → Prop := fun xs H Q => ∃ (z : Z) (ds : List PyData) (d : PyData), z.H = H ∧ Good K z ∧ RepRs K z xs ds ∧ f ds = some d ∧ Gives K z d Q
section
variable {X : Cx} {K : PySem.W.Frag} {z : Z}
theorem CallR.imp {f : Value} {r r' : List V → Hp → VK → Prop} (h : CallR X f r) (i : ∀ xs H Q, r' xs H Q → r xs H Q) : CallR X f r' :=
  fun pins s σ H xs us Q I rx q => h pins s σ H xs us Q I rx (i _ _ _ q)
theorem one {xs : List V} {d : PyData} (r : RepRs K z xs [d]) : ∃ v, xs = [v] ∧ RepR K z v d := by
  cases r with | cons r t => cases t; exact ⟨_, rfl, r⟩
theorem two' {xs : List V} {d e : PyData} (r : RepRs K z xs [d, e]) : ∃ v w, xs = [v, w] ∧ RepR K z v d ∧ RepR K z w e := by
  cases r with | cons r t => cases t with | cons r' t => cases t; exact ⟨_, _, rfl, r, r'⟩
theorem ints_rep {F : Addr → Prop} {H : Hp} : ∀ {vs : List V} {ds : List PyData} {ns : List Int}, RepDs K F H vs ds → intsOf ds = some ns → vs = ns.map V.int
  | _, _, _, .nil, e => by cases e; rfl
  | _, _, _, .cons (ds := ds) r t, e => by
    cases r <;> try (exact absurd e (by intro c; cases c))
    rename_i i
    have e2 : (intsOf ds).map (i :: ·) = some _ := e
    cases q : intsOf ds with
    | none => rw [q] at e2; cases e2
    | some ns => rw [q] at e2; cases e2; rw [ints_rep t q]; rfl
theorem bools_rep {F : Addr → Prop} {H : Hp} : ∀ {vs : List V} {ds : List PyData} {ns : List Bool}, RepDs K F H vs ds → boolsOf ds = some ns → vs = ns.map V.bl
  | _, _, _, .nil, e => by cases e; rfl
  | _, _, _, .cons (ds := ds) r t, e => by
    cases r <;> try (exact absurd e (by intro c; cases c))
    rename_i i
    have e2 : (boolsOf ds).map (i :: ·) = some _ := e
    cases q : boolsOf ds with
    | none => rw [q] at e2; cases e2
    | some ns => rw [q] at e2; cases e2; rw [bools_rep t q]; rfl
theorem strs_rep {F : Addr → Prop} {H : Hp} : ∀ {vs : List V} {ds : List PyData} {ns : List Str}, RepDs K F H vs ds → strsOf ds = some ns → vs = ns.map V.str
  | _, _, _, .nil, e => by cases e; rfl
  | _, _, _, .cons (ds := ds) r t, e => by
    cases r <;> try (exact absurd e (by intro c; cases c))
    rename_i i
    have e2 : (strsOf ds).map (i :: ·) = some _ := e
    cases q : strsOf ds with
    | none => rw [q] at e2; cases e2
    | some ns => rw [q] at e2; cases e2; rw [strs_rep t q]; rfl
theorem ints_of {F : Addr → Prop} {H : Hp} : ∀ ns : List Int, RepDs K F H (ns.map V.int) (ns.map .int)
  | [] => .nil
  | n :: ns => .cons (.int n) (ints_of ns)

theorem crd_len : CallR X (.builtin "len") (rDc X.K lenF) := by
  refine CallR.imp (call_len_seq.or call_len_str) ?_
  rintro xs H Q ⟨z, ds, d, rfl, g, r0, e, q⟩
  unfold lenF at e
  split at e
  · cases e
    obtain ⟨v, rfl, r⟩ := one r0
    obtain ⟨a, vs, rfl, h, rr⟩ := r.lst
    exact .inl ⟨a, vs, rfl, .inl h, by rw [rr.length]; exact q.here g (.int _)⟩
  · cases e
    obtain ⟨v, rfl, r⟩ := one r0
    obtain ⟨a, vs, rfl, h, rr, _⟩ := r.tup
    exact .inl ⟨a, vs, rfl, .inr h, by rw [rr.length]; exact q.here g (.int _)⟩
  · split at e
    · rename_i hl
      cases e
      obtain ⟨v, rfl, r⟩ := one r0
      exact .inr ⟨_, by rw [r.str], hl, q.here g (.int _)⟩
    · cases e
  · cases e
theorem maxI_is : ∀ (ns : List Int) (x m : Int), m ∈ x :: ns → (∀ y, y ∈ x :: ns → y ≤ m) → maxI x ns = m
  | [], x, m, h, _ => by simp at h; exact h.symm
  | y :: r, x, m, h, hm => by
    unfold maxI
    refine maxI_is r _ m ?_ ?_
    · have h1 := hm x (by simp)
      have h2 := hm y (by simp)
      rcases List.mem_cons.mp h with rfl | h
      · by_cases c : y > m
        · omega
        · rw [if_neg c]; simp
      · rcases List.mem_cons.mp h with rfl | h
        · by_cases c : m > x
          · rw [if_pos c]; simp
          · have : x = m := by omega
            rw [if_neg c, this]; simp
        · exact List.mem_cons_of_mem _ h
    · intro w hw
      rcases List.mem_cons.mp hw with rfl | hw
      · split
        · exact hm y (by simp)
        · exact hm x (by simp)
      · exact hm w (by simp [hw])
theorem minI_is : ∀ (ns : List Int) (x m : Int), m ∈ x :: ns → (∀ y, y ∈ x :: ns → m ≤ y) → minI x ns = m
  | [], x, m, h, _ => by simp at h; exact h.symm
  | y :: r, x, m, h, hm => by
    unfold minI
    refine minI_is r _ m ?_ ?_
    · have h1 := hm x (by simp)
      have h2 := hm y (by simp)
      rcases List.mem_cons.mp h with rfl | h
      · by_cases c : y < m
        · omega
        · rw [if_neg c]; simp
      · rcases List.mem_cons.mp h with rfl | h
        · by_cases c : m < x
          · rw [if_pos c]; simp
          · have : x = m := by omega
            rw [if_neg c, this]; simp
        · exact List.mem_cons_of_mem _ h
    · intro w hw
      rcases List.mem_cons.mp hw with rfl | hw
      · split
        · exact hm y (by simp)
        · exact hm x (by simp)
      · exact hm w (by simp [hw])
theorem crd_max (hc : X.calm = true) : CallR X (.builtin "max") (rDc X.K maxF) := by
  refine CallR.imp ((call_max2 hc).or (cr_max hc)) ?_
  rintro xs H Q ⟨z, ds, d, rfl, g, r0, e, q⟩
  unfold maxF at e
  split at e
  · cases e
    obtain ⟨v, w, rfl, r1, r2⟩ := two' r0
    exact .inl ⟨_, _, by rw [r1.int, r2.int], q.here g (.int _)⟩
  · obtain ⟨v, rfl, r⟩ := one r0
    obtain ⟨a, vs, rfl, h, rr⟩ := r.lst
    split at e
    · rename_i n ns hi
      cases e
      have ev := ints_rep rr hi
      subst ev
      refine .inr ⟨a, n :: ns, rfl, h, by simp, fun m hm hl => ?_⟩
      rw [maxI_is ns n m hm hl] at q
      exact q.here g (.int _)
    · cases e
  · cases e
theorem crd_min (hc : X.calm = true) : CallR X (.builtin "min") (rDc X.K minF) := by
  refine CallR.imp ((call_min2 hc).or (cr_min hc)) ?_
  rintro xs H Q ⟨z, ds, d, rfl, g, r0, e, q⟩
  unfold minF at e
  split at e
  · cases e
    obtain ⟨v, w, rfl, r1, r2⟩ := two' r0
    exact .inl ⟨_, _, by rw [r1.int, r2.int], q.here g (.int _)⟩
  · obtain ⟨v, rfl, r⟩ := one r0
    obtain ⟨a, vs, rfl, h, rr⟩ := r.lst
    split at e
    · rename_i n ns hi
      cases e
      have ev := ints_rep rr hi
      subst ev
      refine .inr ⟨a, n :: ns, rfl, h, by simp, fun m hm hl => ?_⟩
      rw [minI_is ns n m hm hl] at q
      exact q.here g (.int _)
    · cases e
  · cases e
theorem crd_abs : CallR X (.builtin "abs") (rDc X.K absF) := by
  refine CallR.imp call_abs ?_
  rintro xs H Q ⟨z, ds, d, rfl, g, r0, e, q⟩
  unfold absF at e
  split at e
  · cases e
    obtain ⟨v, rfl, r⟩ := one r0
    exact ⟨_, by rw [r.int], q.here g (.int _)⟩
  · cases e
theorem crd_ord : CallR X (.builtin "ord") (rDc X.K ordF) := by
  refine CallR.imp call_ord ?_
  rintro xs H Q ⟨z, ds, d, rfl, g, r0, e, q⟩
  unfold ordF at e
  split at e
  · split at e
    · rename_i hl
      cases e
      obtain ⟨v, rfl, r⟩ := one r0
      exact ⟨_, by rw [r.str], hl, q.here g (.int _)⟩
    · cases e
  · cases e
theorem crd_str : CallR X (.type "str") (rDc X.K strF) := by
  refine CallR.imp call_str_int ?_
  rintro xs H Q ⟨z, ds, d, rfl, g, r0, e, q⟩
  unfold strF at e
  split at e
  · split at e
    · rename_i hl
      cases e
      obtain ⟨v, rfl, r⟩ := one r0
      exact ⟨_, by rw [r.int], hl, q.here g (.str _)⟩
    · cases e
  · cases e
theorem crd_int : CallR X (.type "int") (rDc X.K intF) := by
  refine CallR.imp (call_int1.or call_int_str) ?_
  rintro xs H Q ⟨z, ds, d, rfl, g, r0, e, q⟩
  unfold intF at e
  split at e
  · cases e
    obtain ⟨v, rfl, r⟩ := one r0
    exact .inl (.inl ⟨_, by rw [r.int], q.here g (.int _)⟩)
  · cases e
    obtain ⟨v, rfl, r⟩ := one r0
    exact .inl (.inr ⟨_, by rw [r.bl], q.here g (.int _)⟩)
  · rename_i a
    split at e
    · rename_i hl
      obtain ⟨v, rfl, r⟩ := one r0
      cases e2 : PySem.intText? a with
      | none => rw [e2] at e; cases e
      | some n =>
        rw [e2] at e
        cases e
        exact .inr ⟨a, n, by rw [r.str], e2, hl, q.here g (.int _)⟩
    · cases e
  · cases e
theorem crd_tuple : CallR X (.type "tuple") (rDc X.K tupleF) := by
  refine CallR.imp call_tuple_of ?_
  rintro xs H Q ⟨z, ds, d, rfl, g, r0, e, q⟩
  unfold tupleF at e
  split at e
  · cases e
    obtain ⟨v, rfl, r⟩ := one r0
    obtain ⟨a, vs, rfl, h, rr⟩ := r.lst
    exact ⟨a, vs, rfl, .inl ⟨h, q.tup g rr⟩⟩
  · cases e
    obtain ⟨v, rfl, r⟩ := one r0
    obtain ⟨a, vs, rfl, h, rr, rd⟩ := r.tup
    exact ⟨a, vs, rfl, .inr ⟨h, q.here g rd⟩⟩
  · cases e
theorem crd_list : CallR X (.type "list") (rDc X.K listF) := by
  refine CallR.imp call_list_of ?_
  rintro xs H Q ⟨z, ds, d, rfl, g, r0, e, q⟩
  unfold listF at e
  split at e
  · cases e
    obtain ⟨v, rfl, r⟩ := one r0
    obtain ⟨a, vs, rfl, h, rr⟩ := r.lst
    exact ⟨a, vs, rfl, .inl h, q.lst g rr⟩
  · cases e
    obtain ⟨v, rfl, r⟩ := one r0
    obtain ⟨a, vs, rfl, h, rr, rd⟩ := r.tup
    exact ⟨a, vs, rfl, .inr h, q.lst g rr⟩
  · cases e
theorem crd_sum (hc : X.calm = true) : CallR X (.builtin "sum") (rDc X.K sumF) := by
  refine CallR.imp (cr_sum hc) ?_
  rintro xs H Q ⟨z, ds, d, rfl, g, r0, e, q⟩
  unfold sumF at e
  split at e
  · rename_i ds
    obtain ⟨v, rfl, r⟩ := one r0
    obtain ⟨a, vs, rfl, h, rr⟩ := r.lst
    cases e2 : intsOf ds with
    | none => rw [e2] at e; cases e
    | some ns =>
      rw [e2] at e
      cases e
      have ev := ints_rep rr e2
      subst ev
      exact ⟨a, ns, rfl, h, q.here g (.int _)⟩
  · cases e
theorem crd_all (hc : X.calm = true) : CallR X (.builtin "all") (rDc X.K allF) := by
  refine CallR.imp (cr_all hc) ?_
  rintro xs H Q ⟨z, ds, d, rfl, g, r0, e, q⟩
  unfold allF at e
  split at e
  · rename_i ds
    obtain ⟨v, rfl, r⟩ := one r0
    obtain ⟨a, vs, rfl, h, rr⟩ := r.lst
    cases e2 : boolsOf ds with
    | none => rw [e2] at e; cases e
    | some ns =>
      rw [e2] at e
      cases e
      have ev := bools_rep rr e2
      subst ev
      exact ⟨a, ns, rfl, h, q.here g (.bl _)⟩
  · cases e
theorem crd_any (hc : X.calm = true) : CallR X (.builtin "any") (rDc X.K anyF) := by
  refine CallR.imp (cr_any hc) ?_
  rintro xs H Q ⟨z, ds, d, rfl, g, r0, e, q⟩
  unfold anyF at e
  split at e
  · rename_i ds
    obtain ⟨v, rfl, r⟩ := one r0
    obtain ⟨a, vs, rfl, h, rr⟩ := r.lst
    cases e2 : boolsOf ds with
    | none => rw [e2] at e; cases e
    | some ns =>
      rw [e2] at e
      cases e
      have ev := bools_rep rr e2
      subst ev
      exact ⟨a, ns, rfl, h, q.here g (.bl _)⟩
  · cases e
/-! sorted -/
theorem insI_perm (x : Int) : ∀ ns : List Int, (insI x ns).Perm (x :: ns)
  | [] => .refl _
  | y :: r => by
    unfold insI
    split
    · exact .refl _
    · exact ((insI_perm x r).cons y).trans (.swap x y r)
theorem sortI_perm : ∀ ns : List Int, (sortI ns).Perm ns
  | [] => .refl _
  | x :: r => (insI_perm x _).trans ((sortI_perm r).cons x)
theorem insI_sorted (x : Int) : ∀ ns : List Int, ns.Pairwise (· ≤ ·) → (insI x ns).Pairwise (· ≤ ·)
  | [], _ => by simp [insI]
  | y :: r, h => by
    obtain ⟨h1, h2⟩ := List.pairwise_cons.mp h
    unfold insI
    split
    · rename_i c
      refine List.pairwise_cons.mpr ⟨fun w hw => ?_, h⟩
      rcases List.mem_cons.mp hw with rfl | hw
      · exact c
      · exact Int.le_trans c (h1 w hw)
    · rename_i c
      refine List.pairwise_cons.mpr ⟨fun w hw => ?_, insI_sorted x r h2⟩
      rcases List.mem_cons.mp ((insI_perm x r).mem_iff.mp hw) with rfl | hw
      · omega
      · exact h1 w hw
theorem sortI_sorted : ∀ ns : List Int, (sortI ns).Pairwise (· ≤ ·)
  | [] => .nil
  | x :: r => insI_sorted x _ (sortI_sorted r)
theorem sorted_one : ∀ {xs ys : List Int}, xs.Perm ys → xs.Pairwise (· ≤ ·) → ys.Pairwise (· ≤ ·) → xs = ys
  | [], ys, p, _, _ => by rw [List.nil_perm.mp p]
  | x :: xs, [], p, _, _ => by cases List.perm_nil.mp p
  | x :: xs, y :: ys, p, h1, h2 => by
    obtain ⟨a1, a2⟩ := List.pairwise_cons.mp h1
    obtain ⟨b1, b2⟩ := List.pairwise_cons.mp h2
    have e : x = y := by
      have m1 := p.mem_iff.mp (List.mem_cons_self (a := x) (l := xs))
      have m2 := p.mem_iff.mpr (List.mem_cons_self (a := y) (l := ys))
      rcases List.mem_cons.mp m1 with r | r
      · exact r
      · rcases List.mem_cons.mp m2 with s | s
        · exact s.symm
        · exact Int.le_antisymm (a1 y s) (b1 x r)
    subst e
    rw [sorted_one (List.perm_cons x |>.mp p) a2 b2]
theorem crd_sorted : CallR X (.builtin "sorted") (rDc X.K sortedF) := by
  refine CallR.imp cr_sortedI ?_
  rintro xs H Q ⟨z, ds, d, rfl, g, r0, e, q⟩
  unfold sortedF at e
  split at e
  · rename_i ds
    obtain ⟨v, rfl, r⟩ := one r0
    obtain ⟨a, vs, rfl, h, rr⟩ := r.lst
    cases e2 : intsOf ds with
    | none => rw [e2] at e; cases e
    | some ns =>
      rw [e2] at e
      cases e
      have ev := ints_rep rr e2
      subst ev
      refine ⟨a, ns, rfl, h, fun ns' p hp hs hn => ?_⟩
      have e3 : ns' = sortI ns := sorted_one (hp.trans (sortI_perm ns).symm) hs (sortI_sorted ns)
      subst e3
      exact q.lst g (ints_of _) p hn
  · cases e
theorem crd_repr (hg : X.A.guards = some []) (hu : X.A.units + 64 < cLine) : CallR X (.builtin "repr") (rDc X.K reprF) := by
  intro pins s σ H xs us Q I rx h
  obtain ⟨z, ds, d, rfl, g, r0, e, q⟩ := h
  unfold reprF at e
  split at e
  · rename_i d0
    split at e
    · rename_i hc
      cases e
      obtain ⟨h1, h2, h3, h4⟩ := hc
      obtain ⟨v, rfl, r⟩ := one r0
      obtain ⟨u, rfl, ru⟩ := vals1 rx
      obtain ⟨as, rd⟩ := Dp.reads I d0 v u r.dp ru
      have fin : ∀ (h' : Heap) (t : Tok) (k : Nat), (∀ b o, s.heap.get? b = some o → h'.get? b = some o) → EP X pins σ Q (.str d0.shown t) { s with heap := h', toks := k } := fun h' t k hk =>
        ⟨.str d0.shown, z.H, I.kept hk, ⟨_, rfl⟩, q.here g (.str _)⟩
      have hd : ∀ (x : Bool), d0.hasDict = true → x = true := fun x c => by rw [h2] at c; cases c
      cases u with
      | ref a => exact repr_of_reads' rd h1 (fun c => by rw [h2] at c; cases c) hg (by omega) (fun _ _ e => e) (fun h' u tk hk => fin h' u tk hk) h4
      | none =>
        cases rd
        exact P.repr_of_none (by
          have := fin s.heap s.toks (s.toks + 1) (fun _ _ e => e)
          rw [PyData.shown_none] at this
          exact this)
      | bool b =>
        cases rd
        exact P.repr_of_bool (by
          have := fin s.heap s.toks (s.toks + 1) (fun _ _ e => e)
          rw [PyData.shown_bool] at this
          exact this)
      | int i t =>
        cases rd
        exact P.repr_of_int (of_decide_eq_true h1) (by
          have := fin s.heap s.toks (s.toks + 1) (fun _ _ e => e)
          rw [PyData.shown_int] at this
          exact this)
      | str x t =>
        cases rd
        exact P.repr_of_str (by
          have := fin s.heap s.toks (s.toks + 1) (fun _ _ e => e)
          rw [PyData.shown_str] at this
          exact this) (by
          rw [PyData.shown_str] at h4
          exact h4)
      | _ => cases rd
    · cases e
  · cases e
end
end L2.Cap

set_option maxRecDepth 100000
set_option maxHeartbeats 1000000
namespace L2.Cap
open PySem PySem.Spec PyProof.Rows
section
variable {X : Cx} {W : WX} {K : PySem.W.Frag} {z : Z} {a b c e : Expr} {es : List Expr} {da db dc : DenE} {dA : DenA} {pos : Pos}
theorem viewsR_rep (g : Good K z) : ∀ {vs : List V} {xs : List RV} {ds : List PyData}, RepVs K z vs xs → viewsR z.h xs = some ds → RepRs K z vs ds
  | _, _, _, .nil, e => by cases e; exact .nil
  | _, _, ds, .cons (b := x) (l₂ := xs) r t, e => by
    unfold viewsR at e
    cases e1 : viewR x z.h with
    | none => rw [e1] at e; cases e
    | some d =>
      cases e2 : viewsR z.h xs with
      | none => rw [e1, e2] at e; cases e
      | some ds =>
        rw [e1, e2] at e
        cases e
        exact .cons (viewR_rep g r e1) (viewsR_rep g t e2)
theorem views_rd {f : List PyData → Option PyData} {xs : List RV} {vs : List V} {E : EXC} {Q : VK} (g : Good K z) (rx : RepVs K z vs xs)
    (fin : Fin K z (readM (fun h => do
      let ds ← viewsR h xs
      let d ← f ds
      return RV.val d) z.h) (fun a z' => ∀ b, RepV K z' b a → Q b z'.H) E) : rDc K f vs z.H Q := by
  obtain ⟨v, e, q⟩ := Fin.read fin
  cases e1 : viewsR z.h xs with
  | none => rw [e1] at e; cases e
  | some ds =>
    rw [e1] at e
    have e' : (f ds).bind (fun d => some (RV.val d)) = some v := e
    cases e2 : f ds with
    | none => rw [e2] at e'; cases e'
    | some d =>
      rw [e2] at e'
      have e3 : RV.val d = v := Option.some.inj e'
      subst e3
      exact ⟨z, ds, d, rfl, g, viewsR_rep g rx e1, e2, fun z' h1 g' x' v' r' => q z' h1 g' x' v' (.val r')⟩
theorem de_bltB {f : List PyData → Option PyData} {x : Str} {id : String} {p : Pos} (hc : CallR X (.builtin id) (rDc X.K f)) (hg : Gl X x) (hm : X.mg x = none) (hv : bootBuiltins x = some (.builtin id)) (ha : PA X (a :: es) (tA X W dA)) (hn : x ≠ "__name__") (hdb : (x == ("__debug__" : Str)) = false)
    (he : starEach (a :: es) X.env = (false, eval a X.env) :: starEach es X.env) (hpl : (backTo pos (starEach es X.env)).any (·.1) = false) :
    PE X (.Call (.Name x p) (a :: es) [] pos) (tD X W (fun env => bindM (dA env) fun xs => readM fun h => do
      let ds ← viewsR h xs
      let d ← f ds
      return .val d)) := by
  refine PE.imp (pe_callB hc hg hm hv ha hn hdb he hpl) fun σ H Q h => ?_
  unfold tCB
  exact tM.bind h fun z1 env x vx g1 re rx fin => views_rd g1 rx fin
theorem de_bltT {f : List PyData → Option PyData} {x : Str} {id : String} {p : Pos} (hc : CallR X (.type id) (rDc X.K f)) (hg : Gl X x) (hm : X.mg x = none) (hv : bootBuiltins x = some (.type id)) (ha : PA X (a :: es) (tA X W dA)) (hn : x ≠ "__name__") (hdb : (x == ("__debug__" : Str)) = false)
    (he : starEach (a :: es) X.env = (false, eval a X.env) :: starEach es X.env) (hpl : (backTo pos (starEach es X.env)).any (·.1) = false) :
    PE X (.Call (.Name x p) (a :: es) [] pos) (tD X W (fun env => bindM (dA env) fun xs => readM fun h => do
      let ds ← viewsR h xs
      let d ← f ds
      return .val d)) := by
  refine PE.imp (pe_callTy hc hg hm hv ha hn hdb he hpl) fun σ H Q h => ?_
  unfold tCB
  exact tM.bind h fun z1 env x vx g1 re rx fin => views_rd g1 rx fin

/-! ### isinstance -/
def Ty.nm : Ty → String
  | .int => "int"
  | .bool => "bool"
  | .str => "str"
  | .tuple => "tuple"
  | .list => "list"
theorem kit_isi (t : Ty) (d : PyData) (nd : ∀ kvs, d ≠ .dict kvs) : kitB (tyD d) t.nm = some (isiD t d) := by
  cases d with
  | dict kvs => exact absurd rfl (nd kvs)
  | none => cases t <;> (show kitB "NoneType" _ = some false; decide +kernel)
  | bool b => cases t with
    | int => show kitB "bool" "int" = some true; decide +kernel
    | bool => show kitB "bool" "bool" = some true; decide +kernel
    | str => show kitB "bool" "str" = some false; decide +kernel
    | tuple => show kitB "bool" "tuple" = some false; decide +kernel
    | list => show kitB "bool" "list" = some false; decide +kernel
  | int b => cases t with
    | int => show kitB "int" "int" = some true; decide +kernel
    | bool => show kitB "int" "bool" = some false; decide +kernel
    | str => show kitB "int" "str" = some false; decide +kernel
    | tuple => show kitB "int" "tuple" = some false; decide +kernel
    | list => show kitB "int" "list" = some false; decide +kernel
  | str b => cases t with
    | int => show kitB "str" "int" = some false; decide +kernel
    | bool => show kitB "str" "bool" = some false; decide +kernel
    | str => show kitB "str" "str" = some true; decide +kernel
    | tuple => show kitB "str" "tuple" = some false; decide +kernel
    | list => show kitB "str" "list" = some false; decide +kernel
  | list b => cases t with
    | int => show kitB "list" "int" = some false; decide +kernel
    | bool => show kitB "list" "bool" = some false; decide +kernel
    | str => show kitB "list" "str" = some false; decide +kernel
    | tuple => show kitB "list" "tuple" = some false; decide +kernel
    | list => show kitB "list" "list" = some true; decide +kernel
  | tuple b => cases t with
    | int => show kitB "tuple" "int" = some false; decide +kernel
    | bool => show kitB "tuple" "bool" = some false; decide +kernel
    | str => show kitB "tuple" "str" = some false; decide +kernel
    | tuple => show kitB "tuple" "tuple" = some true; decide +kernel
    | list => show kitB "tuple" "list" = some false; decide +kernel
theorem tyX_rep {v : V} {d : PyData} (r : RepR K z v d) : TyX K z.H v (.type (tyD d)) ∧ ∀ kvs, d ≠ .dict kvs := by
  have tu : ∀ {a : Addr} {xs : List V}, SqT K z.H a xs → TyX K z.H (.ref a) (.type "tuple") := fun {a xs} h => by
    rcases h with (h | ⟨o, h⟩) | ⟨o, its, n, h1, h2, _⟩
    · exact .base (.tup h)
    · exact .fTuple h
    · exact .kTuple h1 h2
  cases r with
  | ro h =>
    refine ⟨?_, fun _ c => by cases c⟩
    rcases h with ⟨vs, h, _⟩ | h
    · rcases h with ⟨o, h⟩ | ⟨o, its, n, h1, h2, _⟩
      · exact .base (.frz h)
      · exact .kList h1 h2
    · cases h with | lst h _ _ => exact .base (.lst h)
  | w r => cases r with
    | l h r => exact ⟨.base (.lst h), fun _ c => by cases c⟩
    | d r => cases r with
      | non => exact ⟨.base .non, fun _ c => by cases c⟩
      | bl b => exact ⟨.base (.bl b), fun _ c => by cases c⟩
      | int i => exact ⟨.base (.int i), fun _ c => by cases c⟩
      | str x => exact ⟨.base (.str x), fun _ c => by cases c⟩
      | lst h _ _ => exact ⟨.base (.lst h), fun _ c => by cases c⟩
      | tup h _ => exact ⟨tu h, fun _ c => by cases c⟩
theorem de_isi {t : Ty} {p p2 : Pos} {tn : Str} (hg : Gl X "isinstance") (hm : X.mg "isinstance" = none) (hgt : Gl X tn) (hmt : X.mg tn = none) (hv : bootBuiltins tn = some (.type t.nm)) (hn : tn ≠ "__name__") (hdb : (tn == ("__debug__" : Str)) = false)
    (ha : PE X a (tD X W da)) (he : starEach [a, .Name tn p2] X.env = (false, eval a X.env) :: starEach [.Name tn p2] X.env) (hpl : (backTo pos (starEach [.Name tn p2] X.env)).any (·.1) = false)
    (he2 : starEach [.Name tn p2] X.env = (false, eval (.Name tn p2) X.env) :: starEach [] X.env) :
    PE X (.Call (.Name "isinstance" p) [a, .Name tn p2] [] pos) (tD X W (fun env => bindM (da env) fun x => readM fun h => do
      let d ← viewR x h
      return .val (.bool (isiD t d)))) := by
  refine PE.imp (pe_callB call_isi hg hm (by decide +kernel) (pa_cons ha (pa_cons (pe_bltn (v := .ty t.nm) hgt hmt hv rfl hn hdb) pa_nil he2) he) (by decide) (by decide) he hpl) fun σ H Q h => ?_
  unfold tCB tCons tC
  refine tM.bind h fun z1 env x vx g1 re rx fin => ?_
  obtain ⟨v, e, q⟩ := Fin.read fin
  cases e1 : viewR x z1.h with
  | none => rw [e1] at e; cases e
  | some d =>
    rw [e1] at e
    have e3 : RV.val (.bool (isiD t d)) = v := Option.some.inj e
    subst e3
    obtain ⟨ty, nd⟩ := tyX_rep (viewR_rep g1 rx e1)
    exact ⟨vx, .ty t.nm, _, _, _, rfl, .ty _, ty, kit_ty (kit_isi t d nd), q z1 rfl g1 (Ext.refl _) _ (.val (.bl _))⟩

/-! ### methods of texts -/
theorem Fin.strOf {B : Type} {Q : B → Z → Prop} {E : EXC} {x : RV} {k : Str → M B} (g : Good K z) (h : Fin K z (bindM (strOf x) k z.h) Q E) : ∃ i, x = .val (.str i) ∧ Fin K z (k i z.h) Q E := by
  have q := Fin.bind g h
  unfold Cap.strOf at q
  split at q
  · exact ⟨_, rfl, Fin.ret g q⟩
  · exact q.elim
def rD1 (K : PySem.W.Frag) (f : Str → PyData → Option PyData) : V → List V → Hp → VK → Prop := fun x xs H Q => ∃ (z : Z) (s : Str) (y : V) (d r : PyData), z.H = H ∧ Good K z ∧ x = .str s ∧ xs = [y] ∧ RepR K z y d ∧ f s d = some r ∧ Gives K z r Q
theorem MtR.imp {id : String} {r r' : V → List V → Hp → VK → Prop} (h : MtR X id r) (i : ∀ x xs H Q, r' x xs H Q → r x xs H Q) : MtR X id r' :=
  fun pins s σ H x xs v us Q I rx rs q => h pins s σ H x xs v us Q I rx rs (i _ _ _ _ q)
theorem mtd_join : MtR X "str.join" (rD1 X.K joinF) := by
  refine MtR.imp mt_join ?_
  rintro x xs H Q ⟨z, s, y, d, r, rfl, g, rfl, rfl, ry, e, q⟩
  unfold joinF joinL at e
  split at e
  · rename_i ds
    obtain ⟨p, vs, rfl, h, rr⟩ := ry.lst
    split at e
    · rename_i ys es
      split at e
      · rename_i hl
        cases e
        have ev := strs_rep rr es
        subst ev
        exact ⟨s, p, ys, rfl, rfl, .inl h, hl, q.here g (.str _)⟩
      · cases e
    · cases e
  · rename_i ds
    obtain ⟨p, vs, rfl, h, rr, _⟩ := ry.tup
    split at e
    · rename_i ys es
      split at e
      · rename_i hl
        cases e
        have ev := strs_rep rr es
        subst ev
        exact ⟨s, p, ys, rfl, rfl, .inr h, hl, q.here g (.str _)⟩
      · cases e
    · cases e
  · cases e
theorem mtd_start : MtR X "str.startswith" (rD1 X.K startF) := by
  refine MtR.imp mt_startswith ?_
  rintro x xs H Q ⟨z, s, y, d, r, rfl, g, rfl, rfl, ry, e, q⟩
  unfold startF at e
  split at e
  · cases e
    exact ⟨s, _, rfl, by rw [ry.str], q.here g (.bl _)⟩
  · cases e
theorem strs_of {F : Addr → Prop} {H : Hp} : ∀ ns : List Str, RepDs K F H (ns.map V.str) (ns.map .str)
  | [] => .nil
  | n :: ns => .cons (.str n) (strs_of ns)
theorem mtd_split : MtR X "str.split" (rD1 X.K splitF) := by
  refine MtR.imp mt_split ?_
  rintro x xs H Q ⟨z, s, y, d, r, rfl, g, rfl, rfl, ry, e, q⟩
  unfold splitF at e
  split at e
  · split at e
    · rename_i hl
      cases e
      refine ⟨s, _, rfl, by rw [ry.str], hl.1, hl.2, ?_⟩
      exact q.lst g (strs_of _)
    · cases e
  · cases e
theorem de_mth1 {f : Str → PyData → Option PyData} {id : String} {name : Str} {apos : Pos} (slot : Slot "str" name id) (ty : typeOf (.builtin id) = pure (.type "method_descriptor")) (rule : MtR X id (rD1 X.K f)) (ho : PE X a (tD X W da)) (he : PE X e (tD X W db))
    (hs : starEach [e] X.env = [(false, eval e X.env)]) (hbase : attributeBase a name X.env (eval a X.env) = eval a X.env) (hline : (apos.endLine == pos.line) = true) :
    PE X (.Call (.Attribute a name apos) [e] [] pos) (tD X W (fun env => bindM (da env) fun x => bindM (strOf x) fun a => bindM (db env) fun y => readM fun h => do
      let d ← viewR y h
      let r ← f a d
      return .val r)) := by
  refine PE.imp (pe_m1 slot ty rule ho he hs hbase hline) fun σ H Q h => ?_
  unfold tM1
  refine tM.bind h fun z1 env x vx g1 re rx fin => ?_
  obtain ⟨s, rfl, fin1⟩ := Fin.strOf g1 fin
  cases rx with | val rx =>
  cases rx
  refine ⟨⟨s, rfl⟩, z1, env, rfl, g1, re, (Fin.bind g1 fin1).imp (fun y z2 g2 e2 fin2 vy ry => ?_) fun _ _ _ _ _ q => q⟩
  obtain ⟨v, e, q⟩ := Fin.read fin2
  cases e1 : viewR y z2.h with
  | none => rw [e1] at e; cases e
  | some d =>
    rw [e1] at e
    have e' : (f s d).bind (fun d => some (RV.val d)) = some v := e
    cases e2 : f s d with
    | none => rw [e2] at e'; cases e'
    | some r =>
      rw [e2] at e'
      have e3 : RV.val r = v := Option.some.inj e'
      subst e3
      exact ⟨z2, s, vy, d, r, rfl, g2, rfl, rfl, viewR_rep g2 ry e1, e2, fun z' h1 g' x' v' r' => q z' h1 g' x' v' (.val r')⟩

/-! ### objects that change -/
def Z.push (z : Z) (p : Addr) (o : AO) (ho : HO) : Z := { F := fun a => z.F a ∨ a = p, r := fun n => if n = z.h.length then p else z.r n, h := z.h ++ [o], H := upd z.H p ho }
theorem push_lt {z : Z} {p : Addr} {o : AO} {ho : HO} {n : Nat} (h : n < z.h.length) : (z.push p o ho).r n = z.r n := by
  show (if n = z.h.length then p else z.r n) = z.r n
  rw [if_neg (Nat.ne_of_lt h)]
theorem push_at {z : Z} {p : Addr} {o : AO} {ho : HO} : (z.push p o ho).r z.h.length = p := by
  show (if z.h.length = z.h.length then p else z.r z.h.length) = p
  rw [if_pos rfl]
theorem live_push {z : Z} {p : Addr} {o : AO} {ho : HO} {n : Nat} (h : n < z.h.length) : live (z.push p o ho).h n ↔ live z.h n := by
  show (∃ x, (z.h ++ [o])[n]? = some x ∧ _) ↔ _
  rw [List.getElem?_append_left h]
  rfl
/-- behind z, at z2 with a place p that was free at z and is no part of what changes -/
theorem Ext.push {z z2 : Z} {p : Addr} {o : AO} {ho : HO} (t : ∀ x, z.F x → z.H x ≠ none) (hp : z.H p = none) (x : Ext z z2) (np : ∀ n, live z2.h n → z2.r n ≠ p) : Ext z (z2.push p o ho) where
  len := by show z.h.length ≤ (z2.h ++ [o]).length; rw [List.length_append]; exact Nat.le_trans x.len (Nat.le_add_right _ _)
  agree := fun n h => by rw [push_lt (Nat.lt_of_lt_of_le h x.len)]; exact x.agree n h
  fresh := fun n h1 h2 => by
    by_cases e : n = z2.h.length
    · subst e; rw [push_at]; exact hp
    · have h2 : n < (z2.h ++ [o]).length := h2
      rw [List.length_append, List.length_singleton] at h2
      have h3 : n < z2.h.length := by omega
      rw [push_lt h3]
      exact x.fresh n h1 h3
  dead := fun n l h => x.dead n ((live_push (Nat.lt_of_lt_of_le h x.len)).mp l) h
  keep := fun b u e hn => by
    have q := x.keep b u e hn
    show upd z2.H p ho b = some u
    rw [upd_ne (ne_of_none e hp)]
    exact q
  there := fun b h => by
    show upd z2.H p ho b ≠ none
    by_cases hb : b = p
    · subst hb; rw [upd_same]; intro c; cases c
    · rw [upd_ne hb]; exact x.there b h
  forb := fun a h => by
    rcases h with h | h
    · exact x.forb a h
    · subst h; exact .inr hp
  hold := fun a f hn => .inl (x.hold a f hn)
theorem Good.push' {z2 : Z} {p : Addr} {o : AO} {ho : HO} (g2 : Good K z2) (np : ∀ n, live z2.h n → z2.r n ≠ p) (hc : o.chg = true) (ro : RepO K (z2.push p o ho) ho o)
    (vs : ∀ {v : V} {x : RV}, RepV K z2 v x → RepV K (z2.push p o ho) v x) (ds : ∀ {v : List V} {x : List PyData}, RepDs K z2.F z2.H v x → RepDs K (z2.push p o ho).F (z2.push p o ho).H v x) (rl : ∀ {a : Addr} {v : List V}, RoL K z2.H a v → RoL K (z2.push p o ho).H a v) : Good K (z2.push p o ho) where
  obj := fun n u e hu => by
    by_cases hn : n < z2.h.length
    · have e : (z2.h ++ [o])[n]? = some u := e
      rw [List.getElem?_append_left hn] at e
      obtain ⟨f, w, eh, r⟩ := g2.obj n u e hu
      rw [push_lt hn]
      refine ⟨.inl f, w, ?_, ?_⟩
      · show upd z2.H p ho (z2.r n) = some w
        rw [upd_ne (np n ⟨u, e, hu⟩)]
        exact eh
      · cases u with
        | lst xs => obtain ⟨a, b, c⟩ := r; exact ⟨a, b, Paired.mapP c fun _ _ h => vs h⟩
        | dct xs => obtain ⟨a, b, c⟩ := r; exact ⟨a, b, Paired.mapP c fun _ _ h => ⟨h.1, vs h.2⟩⟩
        | ro _ => exact r
        | gone => exact r
    · have e' : (z2.h ++ [o])[n]? = some u := e
      have hl := (List.getElem?_eq_some_iff.mp e').1
      rw [List.length_append, List.length_singleton] at hl
      have hn2 : n = z2.h.length := by omega
      subst hn2
      rw [List.getElem?_append_right (Nat.le_refl _), Nat.sub_self] at e'
      have e2 : o = u := Option.some.inj e'
      subst e2
      rw [push_at]
      exact ⟨.inr rfl, ho, upd_same, ro⟩
  ro := fun n d e => by
    have e' : (z2.h ++ [o])[n]? = some (.ro d) := e
    by_cases hn : n < z2.h.length
    · rw [List.getElem?_append_left hn] at e'
      have q := g2.ro n d e'
      rw [push_lt hn]
      rcases q with ⟨w, h1, h2⟩ | r
      · exact .inl ⟨w, rl h1, ds h2⟩
      · have q := ds (.cons r .nil)
        cases q with | cons a _ => exact .inr a
    · have hl := (List.getElem?_eq_some_iff.mp e').1
      rw [List.length_append, List.length_singleton] at hl
      have hn2 : n = z2.h.length := by omega
      subst hn2
      rw [List.getElem?_append_right (Nat.le_refl _), Nat.sub_self] at e'
      have e2 : o = .ro d := Option.some.inj e'
      subst e2
      cases hc
  inj := fun n m ln lm e => by
    have hn := live_lt ln
    have hm := live_lt lm
    have hn' : n < (z2.h ++ [o]).length := hn
    have hm' : m < (z2.h ++ [o]).length := hm
    rw [List.length_append, List.length_singleton] at hn' hm'
    by_cases h1 : n < z2.h.length
    · by_cases h2 : m < z2.h.length
      · rw [push_lt h1, push_lt h2] at e
        exact g2.inj n m ((live_push h1).mp ln) ((live_push h2).mp lm) e
      · have h3 : m = z2.h.length := by omega
        subst h3
        rw [push_lt h1, push_at] at e
        exact absurd e (np n ((live_push h1).mp ln))
    · have h3 : n = z2.h.length := by omega
      subst h3
      by_cases h2 : m < z2.h.length
      · rw [push_at, push_lt h2] at e
        exact absurd e.symm (np m ((live_push h2).mp lm))
      · omega
  trk := fun a f => by
    show upd z2.H p ho a ≠ none
    by_cases hb : a = p
    · subst hb; rw [upd_same]; intro c; cases c
    · rw [upd_ne hb]
      rcases f with f | f
      · exact g2.trk a f
      · exact absurd f hb
/-- a new object that may change -/
theorem Good.push (g : Good K z) {p : Addr} {o : AO} {ho : HO} (hp : z.H p = none) (hc : o.chg = true) (ro : RepO K z ho o) : Good K (z.push p o ho) ∧ Ext z (z.push p o ho) ∧ RepV K (z.push p o ho) (.ref p) (.ref z.h.length) := by
  have x : Ext z (z.push p o ho) := Ext.push g.trk hp (Ext.refl z) fun n l e => by
    obtain ⟨u, eu, hu⟩ := l
    obtain ⟨_, w, eh, _⟩ := g.obj n u eu hu
    rw [e, hp] at eh
    cases eh
  refine ⟨Good.push' g (g.nolive (g.free hp)) hc (ro.ext g x) (fun r => r.ext g x) (fun r => r.ext g x) (fun r => r.ext g x), x, ?_⟩
  have q : RepV K (z.push p o ho) (.ref ((z.push p o ho).r z.h.length)) (.ref z.h.length) := .ref (by show z.h.length < (z.h ++ [o]).length; rw [List.length_append, List.length_singleton]; omega)
  rw [push_at] at q
  exact q
/-- an object changes -/
def Z.put (z : Z) (n : Nat) (o : AO) (ho : HO) : Z := { z with h := z.h.set n o, H := upd z.H (z.r n) ho }
theorem live_put {z : Z} {n m : Nat} {o : AO} {ho : HO} (hn : live z.h n) (hc : o.chg = true) : live (z.put n o ho).h m ↔ live z.h m := by
  show (∃ x, (z.h.set n o)[m]? = some x ∧ _) ↔ _
  by_cases e : m = n
  · subst e
    rw [List.getElem?_set_self (live_lt hn)]
    exact ⟨fun _ => hn, fun _ => ⟨o, rfl, hc⟩⟩
  · rw [List.getElem?_set_ne (Ne.symm e)]
    rfl
theorem Good.put (g : Good K z) {n : Nat} {o : AO} {ho : HO} (hn : live z.h n) (hc : o.chg = true) (ro : RepO K z ho o) : Good K (z.put n o ho) ∧ Ext z (z.put n o ho) := by
  have x : Ext z (z.put n o ho) := by
    refine ⟨by show _ ≤ (z.h.set n o).length; rw [List.length_set]; exact Nat.le_refl _, fun _ _ => rfl, fun m h1 h2 => ?_, fun m l _ => (live_put hn hc).mp l, fun b u e hb => ?_, fun b h => ?_, fun _ h => .inl h, fun _ h _ => h⟩
    · have h2 : m < (z.h.set n o).length := h2
      rw [List.length_set] at h2
      omega
    · show upd z.H (z.r n) ho b = some u
      rw [upd_ne (fun c => hb n hn c.symm)]
      exact e
    · show upd z.H (z.r n) ho b ≠ none
      by_cases hb : b = z.r n
      · subst hb; rw [upd_same]; intro c; cases c
      · rw [upd_ne hb]; exact h
  refine ⟨⟨fun m u e hu => ?_, fun m d e => ?_, fun i j li lj e => g.inj i j ((live_put hn hc).mp li) ((live_put hn hc).mp lj) e, fun a f => x.there a (g.trk a f)⟩, x⟩
  · have e : (z.h.set n o)[m]? = some u := e
    by_cases hm : m = n
    · subst hm
      rw [List.getElem?_set_self (live_lt hn)] at e
      cases e
      obtain ⟨u0, e0, h0⟩ := hn
      exact ⟨(g.obj m u0 e0 h0).1, ho, upd_same, ro.ext g x⟩
    · rw [List.getElem?_set_ne (Ne.symm hm)] at e
      obtain ⟨f, w, eh, r⟩ := g.obj m u e hu
      refine ⟨f, w, ?_, r.ext g x⟩
      show upd z.H (z.r n) ho (z.r m) = some w
      rw [upd_ne (fun c => hm (g.inj m n ⟨u, e, hu⟩ hn c))]
      exact eh
  · have e : (z.h.set n o)[m]? = some (.ro d) := e
    by_cases hm : m = n
    · subst hm
      rw [List.getElem?_set_self (live_lt hn)] at e
      have e2 : o = .ro d := Option.some.inj e
      subst e2
      cases hc
    · rw [List.getElem?_set_ne (Ne.symm hm)] at e
      exact (g.ro m d e).ext g x
end
end L2.Cap

set_option maxRecDepth 100000
set_option maxHeartbeats 1000000
namespace L2.Cap
open PySem PySem.Spec PyProof.Rows
section
variable {X : Cx} {W : WX} {K : PySem.W.Frag} {z : Z} {a b c e : Expr} {es : List Expr} {da db dc : DenE} {dA : DenA} {pos : Pos}
theorem RepVs.snoc : ∀ {vs : List V} {xs : List RV} {v : V} {x : RV}, RepVs K z vs xs → RepV K z v x → RepVs K z (vs ++ [v]) (xs ++ [x])
  | _, _, _, _, .nil, r => .cons r .nil
  | _, _, _, _, .cons a b, r => .cons a (RepVs.snoc b r)
theorem Fin.new {Q : RV → Z → Prop} {E : EXC} {o : AO} {p : Addr} {ho : HO} (g : Good K z) (h : Fin K z (newM o z.h) Q E) (hp : z.H p = none) (hc : o.chg = true) (ro : RepO K z ho o) :
    Q (.ref z.h.length) (z.push p o ho) ∧ RepV K (z.push p o ho) (.ref p) (.ref z.h.length) := by
  obtain ⟨g1, x1, r1⟩ := g.push hp hc ro
  exact ⟨h _ rfl g1 x1, r1⟩
theorem de_lstH (h : PA X es (tA X W dA)) : PE X (.List es pos) (tD X W (fun env => bindM (dA env) fun xs => if xs.length ≤ sizeLine then newM (.lst xs) else failM)) := by
  refine PE.imp (pe_lst h) fun σ H Q h => ?_
  unfold tLst
  refine tM.bind h fun z1 env xs vs g1 re rx fin => ?_
  split at fin
  · rename_i hl
    refine ⟨by rw [Paired.length rx]; exact hl, fun p hp => ?_⟩
    obtain ⟨q, r⟩ := Fin.new (ho := .lst vs) g1 fin hp rfl ⟨vs, rfl, rx⟩
    exact q _ r
  · exact fin.elim
theorem de_listH {p : Pos} (hg : Gl X "list") (hm : X.mg "list" = none) (ha : PA X [a] (tA X W (fun env => bindM (da env) fun x => bindM (retM []) fun xs => retM (x :: xs))))
    (he : starEach [a] X.env = (false, eval a X.env) :: starEach [] X.env) (hpl : (backTo pos (starEach [] X.env)).any (·.1) = false) :
    PE X (.Call (.Name "list" p) [a] [] pos) (tD X W (fun env => bindM (da env) fun x => fun h => match viewR x h with
      | some (.list ds) => newM (.lst (ds.map .val)) h
      | some (.tuple ds) => newM (.lst (ds.map .val)) h
      | _ => none)) := by
  refine PE.imp (pe_callTy call_list_of hg hm (by decide +kernel) ha (by decide) (by decide) he hpl) fun σ H Q h => ?_
  unfold tCB
  obtain ⟨z, env, rfl, g, re, fin⟩ := h
  refine ⟨z, env, rfl, g, re, ?_⟩
  have q := Fin.bind g fin
  have key : Fin X.K z (bindM (da env) (fun x => bindM (retM []) fun xs => retM (x :: xs)) z.h) (fun xs z1 => ∃ x, xs = [x] ∧ Fin X.K z1 ((fun x => fun h => match viewR x h with
      | some (.list ds) => newM (.lst (ds.map .val)) h
      | some (.tuple ds) => newM (.lst (ds.map .val)) h
      | _ => none) x z1.h) (fun a z' => ∀ b, RepV X.K z' b a → Q b z'.H) (wX X.K X.mg W σ)) (wX X.K X.mg W σ) := by
    unfold bindM at q ⊢
    cases e : da env z.h with
    | none => rw [e] at q; exact q.elim
    | some p =>
      obtain ⟨o, h'⟩ := p
      rw [e] at q
      cases o with
      | exc c fs => exact q
      | ok x => exact fun z1 h1 g1 x1 => ⟨x, rfl, q z1 h1 g1 x1⟩
  refine key.imp (fun xs z1 g1 x1 hh vs rx => ?_) fun _ _ _ _ _ q => q
  obtain ⟨x, rfl, fin1⟩ := hh
  cases rx with | cons rx t =>
  cases t
  dsimp only at fin1
  split at fin1
  · rename_i ds hv
    obtain ⟨p, ws, e, h, rr⟩ := (viewR_rep g1 rx hv).lst
    refine ⟨p, ws, by rw [e], .inl h, fun l hl => ?_⟩
    obtain ⟨q, r⟩ := Fin.new (ho := .lst ws) g1 fin1 hl rfl ⟨ws, rfl, rr.toVs⟩
    exact q _ r
  · rename_i ds hv
    obtain ⟨p, ws, e, h, rr, _⟩ := (viewR_rep g1 rx hv).tup
    refine ⟨p, ws, by rw [e], .inr h, fun l hl => ?_⟩
    obtain ⟨q, r⟩ := Fin.new (ho := .lst ws) g1 fin1 hl rfl ⟨ws, rfl, rr.toVs⟩
    exact q _ r
  · exact fin1.elim
variable {lo hi : Option Expr} {dl dh : EnvD → M (Option Int)}
theorem de_slcH {p2 : Pos} (ha : PE X a (tD X W da)) (hl : PO X lo (tOe X W dl)) (hh : PO X hi (tOe X W dh)) :
    PE X (.Subscript a (.Slice lo hi none p2) pos) (tD X W (fun env => bindM (da env) fun x => bindM (dl env) fun l => bindM (dh env) fun u => fun h => match view x h with
      | some (.list ds) => newM (.lst ((cutD ds l u).map .val)) h
      | _ => none)) := by
  refine PE.imp (pe_slice sl_list ha hl hh) fun σ H Q h => ?_
  unfold tSl
  refine tM.bind h fun z1 env x vx g1 re rx fin => ?_
  refine ⟨z1, env, rfl, g1, re, (Fin.bind g1 fin).imp (fun l z2 g2 e2 fin2 l' rl => ?_) fun _ _ _ _ _ q => q⟩
  subst rl
  refine ⟨z2, env, rfl, g2, re.ext g1 e2, (Fin.bind g2 fin2).imp (fun u z3 g3 e3 fin3 u' ru => ?_) fun _ _ _ _ _ q => q⟩
  subst ru
  split at fin3
  · rename_i ds hv
    obtain ⟨p, ws, e, h, rr⟩ := (view_rep g3 ((rx.ext g1 e2).ext g2 e3) hv).lst
    subst e
    refine ⟨p, ws, rfl, SqL.of h, fun l hl => ?_⟩
    obtain ⟨q, r⟩ := Fin.new (ho := .lst (cutV ws l' u')) g3 fin3 hl rfl ⟨_, rfl, (rr.cut l' u').toVs⟩
    exact q _ r
  · exact fin3.elim
/-- o.append(e) -/
theorem de_app {apos : Pos} (ho : PE X a (tD X W da)) (he : PE X e (tD X W db)) (hbase : attributeBase a "append" X.env (eval a X.env) = eval a X.env) (hline : (apos.endLine == pos.line) = true)
    (hs : starEach [e] X.env = (false, eval e X.env) :: starEach [] X.env)
    (hfew : ((backTo pos (starEach [e] X.env)).all (fun x => !x.1) && (backToKw pos (keywordEach [] X.env)).all (fun x => x.1.isSome)
      && decide ([e].length + ([] : List Keyword).length + (if ([] : List Keyword).isEmpty then 0 else 1) < 30)) = true) :
    PE X (.Call (.Attribute a "append" apos) [e] [] pos) (tD X W (fun env => bindM (da env) fun x => bindM (lstM x) fun _ => bindM (db env) fun y => appV x y)) := by
  refine PE.imp (pe_bm PySem.F.plainAttrs_list PySem.F.slot_list_append PySem.F.type_list_append mt_append ho (pa_cons he pa_nil hs) hbase hfew hline hs rfl) fun σ H Q h => ?_
  unfold tBM tCons tNil
  refine tM.bind h fun z1 env x vx g1 re rx fin => ?_
  obtain ⟨u, e1, fin1⟩ := Fin.reads g1 fin
  cases rx with
  | val _ => cases e1
  | exn _ _ _ => cases e1
  | ref hn =>
    rename_i n
    dsimp only at e1
    split at e1
    · rename_i ys eh
      obtain ⟨_, w, h1, vs, rfl, rr⟩ := g1.obj n _ eh rfl
      refine ⟨.inl ⟨rfl, vs, SqL.of h1⟩, z1, env, rfl, g1, re, (Fin.bind g1 fin1).imp (fun y z2 g2 e2 fin2 vy ry => ?_) fun _ _ _ _ _ q => q⟩
      unfold appV at fin2
      dsimp only at fin2
      split at fin2
      · rename_i xs eh2
        split at fin2
        · rename_i hl
          obtain ⟨_, w2, h2, vs2, rfl, rr2⟩ := g2.obj n _ eh2 rfl
          obtain ⟨g3, x3⟩ := g2.put (n := n) (o := .lst (xs ++ [y])) (ho := .lst (vs2 ++ [vy])) ⟨_, eh2, rfl⟩ rfl ⟨_, rfl, RepVs.snoc rr2 ry⟩
          rw [e2.agree n hn] at h2
          refine ⟨z1.r n, vs2, vy, rfl, rfl, h2, by rw [Paired.length rr2]; exact hl, ?_⟩
          have q := fin2 (z2.put n (.lst (xs ++ [y])) (.lst (vs2 ++ [vy]))) rfl g3 x3 .non (.val .non)
          have e4 : (z2.put n (.lst (xs ++ [y])) (.lst (vs2 ++ [vy]))).H = upd z2.H (z1.r n) (.lst (vs2 ++ [vy])) := by
            show upd z2.H (z2.r n) _ = _
            rw [e2.agree n hn]
          rw [e4] at q
          exact q
        · exact fin2.elim
      · exact fin2.elim
    · cases e1

/-! ### given up -/
def Z.kill (z : Z) (n : Nat) (ds : List PyData) : Z := { z with h := z.h.set n (.ro ds), F := fun a => z.F a ∧ a ≠ z.r n }
theorem live_kill {n m : Nat} {ds : List PyData} (l : live (z.kill n ds).h m) : live z.h m ∧ m ≠ n := by
  obtain ⟨o, e, hc⟩ := l
  have e : (z.h.set n (.ro ds))[m]? = some o := e
  by_cases h : m = n
  · subst h
    have hl := (List.getElem?_eq_some_iff.mp e).1
    rw [List.length_set] at hl
    rw [List.getElem?_set_self hl] at e
    cases e
    cases hc
  · rw [List.getElem?_set_ne (Ne.symm h)] at e
    exact ⟨⟨o, e, hc⟩, h⟩
theorem Good.kill (g : Good K z) {n : Nat} {vs : List V} {ds : List PyData} (hn : live z.h n) (eh : z.H (z.r n) = some (.lst vs)) (rd : RepDs K z.F z.H vs ds) : Good K (z.kill n ds) ∧ Ext z (z.kill n ds) := by
  have x : Ext z (z.kill n ds) := by
    refine ⟨by show _ ≤ (z.h.set n (.ro ds)).length; rw [List.length_set]; exact Nat.le_refl _, fun _ _ => rfl, fun m h1 h2 => ?_, fun m l _ => (live_kill l).1, fun b u e hb => e, fun b h => h, fun _ h => .inl h.1, fun a h hb => ⟨h, fun c => hb n hn c.symm⟩⟩
    have h2 : m < (z.h.set n (.ro ds)).length := h2
    rw [List.length_set] at h2
    omega
  refine ⟨⟨fun m u e hu => ?_, fun m d e => ?_, fun i j li lj e => g.inj i j (live_kill li).1 (live_kill lj).1 e, fun a f => g.trk a f.1⟩, x⟩
  · obtain ⟨l1, l2⟩ := live_kill (z := z) (n := n) (ds := ds) ⟨u, e, hu⟩
    have e : (z.h.set n (.ro ds))[m]? = some u := e
    rw [List.getElem?_set_ne (Ne.symm l2)] at e
    obtain ⟨f, w, eh, r⟩ := g.obj m u e hu
    exact ⟨⟨f, fun c => l2 (g.inj m n l1 hn c)⟩, w, eh, r.ext g x⟩
  · have e : (z.h.set n (.ro ds))[m]? = some (.ro d) := e
    by_cases h : m = n
    · subst h
      rw [List.getElem?_set_self (live_lt hn)] at e
      cases e
      exact .inr (.lst eh (fun q => q.2 rfl) (rd.ext g x))
    · rw [List.getElem?_set_ne (Ne.symm h)] at e
      exact (g.ro m d e).ext g x
/-- a meaning that leaves the real heap as it is -/
def Still (K : PySem.W.Frag) (z : Z) {A : Type} (o : Option (Out A × AH)) (P : A → Z → Prop) : Prop := match o with
  | some (.ok a, h') => ∃ z', z'.h = h' ∧ z'.H = z.H ∧ z'.r = z.r ∧ Good K z' ∧ Ext z z' ∧ P a z'
  | _ => True
theorem frz_rep : ∀ (k : Nat) {z : Z} {x : RV} {v : V}, Good K z → RepV K z v x → Still K z (frzM k x z.h) (fun d z' => RepD K z'.F z'.H v d)
  | k, z, .val d, v, g, r => by
    cases r with | val r =>
    cases k <;> exact ⟨z, rfl, rfl, rfl, g, Ext.refl z, r⟩
  | 0, z, .ref n, v, g, r => trivial
  | 0, z, .exn _ _, v, g, r => trivial
  | k + 1, z, .exn _ _, v, g, r => trivial
  | k + 1, z, .ref n, v, g, r => by
    have sq : ∀ (xs : List RV) {z : Z} {vs : List V}, Good K z → RepVs K z vs xs → Still K z (seqM (frzM k) xs z.h) (fun ds z' => RepDs K z'.F z'.H vs ds) := by
      intro xs
      induction xs with
      | nil =>
        intro z vs g r
        cases r
        exact ⟨z, rfl, rfl, rfl, g, Ext.refl z, .nil⟩
      | cons x xs ih =>
        intro z vs g r
        cases r with | cons r t =>
        have q := frz_rep k g r
        unfold seqM bindM
        cases e : frzM k x z.h with
        | none => trivial
        | some p =>
          obtain ⟨o, h'⟩ := p
          cases o with
          | exc c fs => trivial
          | ok d =>
            rw [e] at q
            obtain ⟨z1, h1, H1, r1, g1, x1, rd⟩ := q
            subst h1
            have q2 := ih g1 (RepVs.ext g x1 t)
            dsimp only
            cases e2 : seqM (frzM k) xs z1.h with
            | none => trivial
            | some p2 =>
              obtain ⟨o2, h2⟩ := p2
              cases o2 with
              | exc c fs => trivial
              | ok ds =>
                rw [e2] at q2
                obtain ⟨z2, h3, H3, r3, g3, x3, rds⟩ := q2
                exact ⟨z2, h3, H3.trans H1, r3.trans r1, g3, x1.trans x3 g.trk, .cons (rd.ext g1 x3) rds⟩
    cases r with | ref hn =>
    unfold frzM bindM itemsM readM
    dsimp only
    cases e : z.h[n]? with
    | none => trivial
    | some o =>
      cases o with
      | lst xs =>
        obtain ⟨_, w, eh, vs, rfl, rr⟩ := g.obj n _ e rfl
        have q := sq xs g rr
        dsimp only
        cases e2 : seqM (frzM k) xs z.h with
        | none => trivial
        | some p =>
          obtain ⟨o2, h'⟩ := p
          cases o2 with
          | exc c fs => trivial
          | ok ds =>
            rw [e2] at q
            obtain ⟨z1, h1, H1, r1, g1, x1, rd⟩ := q
            subst h1
            unfold goneM
            dsimp only
            cases e3 : z1.h[n]? with
            | none => trivial
            | some o3 =>
              cases o3 with
              | lst ys =>
                obtain ⟨g2, x2⟩ := g1.kill (n := n) (vs := vs) (ds := ds) ⟨_, e3, rfl⟩ (by rw [H1, r1]; exact eh) rd
                refine ⟨z1.kill n ds, rfl, H1, r1, g2, x1.trans x2 g.trk, ?_⟩
                refine .lst ?_ ?_ (rd.ext g1 x2)
                · show z1.H (z.r n) = some (.lst vs)
                  rw [H1]
                  exact eh
                · rintro ⟨_, ne⟩
                  exact ne (by rw [r1])
              | ro _ => trivial
              | dct _ => trivial
              | gone => trivial
      | ro _ => trivial
      | dct _ => trivial
      | gone => trivial
theorem de_frz (ha : PE X a (tD X W da)) : PE X a (tD X W (fun env => bindM (da env) fun x => bindM (frzM 3 x) fun d => retM (.val d))) := by
  refine PE.imp ha fun σ H Q h => ?_
  refine tM.bind h fun z1 env x vx g1 re rx fin => ?_
  have q := frz_rep 3 g1 rx
  have fb := Fin.bind g1 fin
  cases e : frzM 3 x z1.h with
  | none => rw [e] at fb; exact fb.elim
  | some p =>
    obtain ⟨o, h'⟩ := p
    rw [e] at fb q
    cases o with
    | exc c fs =>
      exfalso
      have ne : ∀ (k : Nat) (y : RV) (h : AH) (c : Str) (fs : List (Str × PyData)) (h' : AH), frzM k y h ≠ some (.exc c fs, h') := by
        intro k
        induction k with
        | zero =>
          intro y h c fs h' q
          cases y <;> cases q
        | succ k ih =>
          intro y h c fs h' q
          cases y with
          | val d => cases q
          | exn _ _ => cases q
          | ref n =>
            have sq : ∀ (xs : List RV) (h : AH) (c : Str) (fs : List (Str × PyData)) (h' : AH), seqM (frzM k) xs h ≠ some (.exc c fs, h') := by
              intro xs
              induction xs with
              | nil => intro h c fs h' q; cases q
              | cons x xs ihx =>
                intro h c fs h' q
                unfold seqM bindM at q
                split at q
                · cases q
                · rename_i q1; exact ih _ _ _ _ _ q1
                · dsimp only at q
                  split at q
                  · cases q
                  · rename_i q2; exact ihx _ _ _ _ q2
                  · cases q
            unfold frzM bindM itemsM readM at q
            dsimp only at q
            cases e : h[n]? with
            | none => rw [e] at q; cases q
            | some o =>
              rw [e] at q
              cases o with
              | lst xs =>
                dsimp only at q
                cases e2 : seqM (frzM k) xs h with
                | none => rw [e2] at q; cases q
                | some p =>
                  obtain ⟨o2, h2⟩ := p
                  cases o2 with
                  | exc c2 fs2 => exact sq _ _ _ _ _ e2
                  | ok ds =>
                    rw [e2] at q
                    unfold goneM at q
                    dsimp only at q
                    split at q <;> cases q
              | ro _ => cases q
              | dct _ => cases q
              | gone => cases q
      exact ne 3 x z1.h c fs h' e
    | ok d =>
      obtain ⟨z2, h2, H2, r2, g2, x2, rd⟩ := q
      have f2 := fb z2 h2 g2 x2
      have := Fin.ret g2 f2 vx (.val rd)
      rw [H2] at this
      exact this
end
end L2.Cap

set_option maxRecDepth 100000
set_option maxHeartbeats 1000000
namespace L2.Cap
open PySem PySem.Spec PyProof.Rows
section
variable {X : Cx} {W : WX} {K : PySem.W.Frag} {z : Z} {a b c e : Expr} {es : List Expr} {da db dc : DenE} {dA : DenA} {pos : Pos}
/-! ### a display of a dict -/
theorem Fin.bindZ {A B : Type} {m : M A} {f : A → M B} {P : B → Z → Prop} {E : EXC} (h : Fin K z (bindM m f z.h) P E) : Fin K z (m z.h) (fun a z1 => Fin K z (f a z1.h) P E) E := by
  unfold bindM at h
  revert h
  cases m z.h with
  | none => exact fun h => h
  | some p =>
    obtain ⟨o, h'⟩ := p
    cases o with
    | exc c fs => exact fun h => h
    | ok a =>
      intro h z1 e1 g1 x1
      rw [e1]
      exact h
theorem Fin.from {A : Type} {z0 : Z} {o : Option (Out A × AH)} {P : A → Z → Prop} {E : EXC} (t : ∀ x, z.F x → z.H x ≠ none) (x : Ext z z0) (h : Fin K z o P E) : Fin K z0 o P E := by
  unfold Fin at h ⊢
  split at h
  · exact h
  · exact fun z' e g x' => h z' e g (x.trans x' t)
  · exact fun z' e g x' => h z' e g (x.trans x' t)
section
variable {p : Addr} {o : AO} {ho : HO}
theorem SqT.over {a : Addr} {xs : List V} (hp : z.H p = some (.dK [])) (h : SqT K z.H a xs) : SqT K (z.push p o ho).H a xs := by
  rcases h with (h | ⟨q, h⟩) | h
  · exact .inl (.inl (by show upd z.H p ho a = _; rw [upd_ne (fun c => by rw [c, hp] at h; cases h)]; exact h))
  · exact .inl (.inr ⟨q, by show upd z.H p ho a = _; rw [upd_ne (fun c => by rw [c, hp] at h; cases h)]; exact h⟩)
  · exact .inr h
theorem RoL.over {a : Addr} {xs : List V} (hp : z.H p = some (.dK [])) (h : RoL K z.H a xs) : RoL K (z.push p o ho).H a xs := by
  rcases h with ⟨q, h⟩ | h
  · exact .inl ⟨q, by show upd z.H p ho a = _; rw [upd_ne (fun c => by rw [c, hp] at h; cases h)]; exact h⟩
  · exact .inr h
mutual
theorem RepD.over (hp : z.H p = some (.dK [])) : ∀ {v : V} {d : PyData}, RepD K z.F z.H v d → RepD K (z.push p o ho).F (z.push p o ho).H v d
  | _, _, .non => .non
  | _, _, .bl b => .bl b
  | _, _, .int i => .int i
  | _, _, .str x => .str x
  | _, _, .lst (a := a) h nf r => .lst (by show upd z.H p ho a = _; rw [upd_ne (fun c => by rw [c, hp] at h; cases h)]; exact h) (fun q => by
      rcases q with q | q
      · exact nf q
      · rw [q, hp] at h; cases h) (RepDs.over hp r)
  | _, _, .tup h r => .tup (SqT.over hp h) (RepDs.over hp r)
theorem RepDs.over (hp : z.H p = some (.dK [])) : ∀ {vs : List V} {ds : List PyData}, RepDs K z.F z.H vs ds → RepDs K (z.push p o ho).F (z.push p o ho).H vs ds
  | _, _, .nil => .nil
  | _, _, .cons a b => .cons (RepD.over hp a) (RepDs.over hp b)
end
theorem RepV.over (hp : z.H p = some (.dK [])) {v : V} {x : RV} (r : RepV K z v x) : RepV K (z.push p o ho) v x := by
  cases r with
  | val r => exact .val (r.over hp)
  | exn n h x => exact RepV.exnTo (fun b o hb _ h2 => by show upd z.H p ho b = some o; rw [upd_ne (fun q => by rw [q, hp] at hb; exact h2 _ (Option.some.inj hb).symm)]; exact hb) (fun r => r.over hp) (.exn n h x)
  | ref h =>
    have q : RepV K (z.push p o ho) (.ref ((z.push p o ho).r _)) (.ref _) := .ref (by show _ < (z.h ++ [o]).length; rw [List.length_append]; exact Nat.lt_add_right _ h)
    rw [push_lt h] at q
    exact q
end
theorem putK_new {kvs : List (Key × V)} {k : Key} {v : V} (h : k ∉ kvs.map (·.1)) : putK kvs k v = kvs ++ [(k, v)] := by
  unfold putK
  rw [if_neg]
  intro c
  rw [List.any_eq_true] at c
  obtain ⟨kv, h1, h2⟩ := c
  exact h (List.mem_map.mpr ⟨kv, h1, of_decide_eq_true h2⟩)
theorem mergeK_app : ∀ (more kvs : List (Key × V)), ((kvs ++ more).map (·.1)).Nodup → mergeK kvs more = kvs ++ more
  | [], kvs, _ => by rw [List.append_nil]; rfl
  | p :: r, kvs, h => by
    show mergeK (putK kvs p.1 p.2) r = _
    have hn : p.1 ∉ kvs.map (·.1) := by
      rw [List.map_append, List.map_cons, List.nodup_append] at h
      intro c
      exact h.2.2 _ c _ (List.mem_cons_self ..) rfl
    rw [putK_new hn, mergeK_app r _ (by rw [List.append_assoc]; exact h), List.append_assoc]
    rfl
theorem de_dsp {keys : List (Option Expr)} {values : List Expr} {trs : List (TE × TE)} {ks : List Str} (h : PPs X pos keys values trs) (hall : keys.all (·.isSome) = true) (hl : keys.length = values.length) (h0 : keys ≠ []) (h15 : keys.length ≤ 15) (nd : ks.Nodup)
    (imp : ∀ σ H Q, tA X W dA σ H (fun vs H' => Q ((ks.map V.str).zip vs) H') → tPairs trs σ H Q) :
    PE X (.Dict keys values pos) (tD X W (fun env => bindM (dA env) fun xs => if xs.length = ks.length ∧ ks.length ≤ 15 then newM (.dct ((ks.map Sum.inr).zip xs)) else failM)) := by
  refine PE.imp (pe_disp h hall hl h0 h15) fun σ H Q h => ?_
  obtain ⟨z, env, rfl, g, re, fin⟩ := h
  intro p hp
  refine imp σ _ _ ?_
  have x0 := Ext.new g (.dK []) hp
  have g0 := g.new (.dK []) hp
  refine ⟨z.at p (.dK []), env, rfl, g0, re.ext g x0, ((Fin.bindZ fin).from g.trk x0).imp (fun xs z1 g1 x1 fin1 vs rx => ?_) fun _ _ _ _ _ q => q⟩
  have nf0 : ¬ (z.at p (.dK [])).F p := g.free hp
  have hp1 : z1.H p = some (.dK []) := x1.keep p _ upd_same (g0.nolive nf0)
  have nf1 : ¬ z1.F p := fun f => by
    rcases x1.forb p f with q | q
    · exact nf0 q
    · have q : upd z.H p (.dK []) p = none := q
      rw [upd_same] at q; cases q
  refine ⟨hp1, ?_⟩
  split at fin1
  · rename_i hc
    have hlen : vs.length = ks.length := by rw [Paired.length rx]; exact hc.1
    refine ⟨(ks.map Sum.inr).zip vs, ?_, ?_, ?_⟩
    · clear fin1 rx
      have : ∀ (ks : List Str) (vs : List V), (ks.map V.str).zip vs = ((ks.map (Sum.inr : Str → Key)).zip vs).map fun kv => (kV kv.1, kv.2) := by
        intro ks
        induction ks with
        | nil => intro vs; rfl
        | cons k ks ih =>
          intro vs
          cases vs with
          | nil => rfl
          | cons v vs =>
            show (V.str k, v) :: (ks.map V.str).zip vs = _
            rw [ih vs]
            rfl
      exact this ks vs
    · rw [List.length_zip, List.length_map]
      exact Nat.le_trans (Nat.min_le_left _ _) hc.2
    · have keysE : ((ks.map (Sum.inr : Str → Key)).zip vs).map (·.1) = ks.map Sum.inr := by
        rw [List.map_fst_zip]
        rw [List.length_map, hlen]
        exact Nat.le_refl _
      have nd2 : (((ks.map (Sum.inr : Str → Key)).zip vs).map (·.1)).Nodup := by
        rw [keysE]
        exact List.Pairwise.map _ (fun a b h c => h (Sum.inr.inj c)) nd
      rw [mergeK_app _ [] (by rw [List.nil_append]; exact nd2), List.nil_append]
      have pz : ∀ (ks : List Key) {vs : List V} {xs : List RV}, RepVs X.K z1 vs xs → Paired (fun (a : Key × V) (b : Key × RV) => a.1 = b.1 ∧ RepV X.K z1 a.2 b.2) (ks.zip vs) (ks.zip xs) := by
        intro ks
        induction ks with
        | nil => intro vs xs r; exact .nil
        | cons k ks ih =>
          intro vs xs r
          cases r with
          | nil => exact .nil
          | cons r t => exact .cons ⟨rfl, r⟩ (ih t)
      have x1' : Ext z z1 := x0.trans x1 g.trk
      have gp : Good X.K (z1.push p (.dct ((ks.map Sum.inr).zip xs)) (.dK ((ks.map Sum.inr).zip vs))) :=
        Good.push' g1 (g1.nolive nf1) rfl
          ⟨_, rfl, Paired.mapP (pz _ rx) fun _ _ h => ⟨h.1, h.2.over hp1⟩⟩ (fun r => r.over hp1) (fun r => r.over hp1) (fun r => r.over hp1)
      have xp : Ext z (z1.push p (.dct ((ks.map Sum.inr).zip xs)) (.dK ((ks.map Sum.inr).zip vs))) := Ext.push g.trk hp x1' (g1.nolive nf1)
      have rp : RepV X.K (z1.push p (.dct ((ks.map Sum.inr).zip xs)) (.dK ((ks.map Sum.inr).zip vs))) (.ref p) (.ref z1.h.length) := by
        have q : RepV X.K (z1.push p (.dct ((ks.map Sum.inr).zip xs)) (.dK ((ks.map Sum.inr).zip vs))) (.ref ((z1.push p (.dct ((ks.map Sum.inr).zip xs)) (.dK ((ks.map Sum.inr).zip vs))).r z1.h.length)) (.ref z1.h.length) :=
          .ref (by show z1.h.length < (z1.h ++ [_]).length; rw [List.length_append, List.length_singleton]; omega)
        rw [push_at] at q
        exact q
      exact fin1 _ rfl gp xp _ rp
  · exact fin1.elim
end
end L2.Cap

set_option maxRecDepth 100000
set_option maxHeartbeats 1000000
namespace L2.Cap
open PySem PySem.Spec PyProof.Rows
/-- a def keeps its promise wherever no repr is under way -/
structure FnG (P : Program) (w : World) (K : PySem.W.Frag) (mg : Str → Option Value) (base : Heap) (k : Nat) (f : Addr) (fd : FuncData) (ps : List Str) (sp : Sp) : Prop where
  len : ∀ vs H Q E, sp vs H Q E → vs.length = ps.length
  run : ∀ (A : Around) (outer : List Env) (s : Shared) (H : Hp) (args : Args) (us : List Value) (vs : List V) (Q : VK) (E : XK), Room k A → A.guards = some [] →
    Env0 P w K mg base A outer s H → BindsTo s fd args (ps.zip us) → Vals vs us → sp vs H Q E → codeAny (model P w) A (.call (.ref f) args) (CR (L2.CX P w) outer P w H s Q E) s
theorem FnG.mono {P : Program} {w : World} {K : PySem.W.Frag} {mg : Str → Option Value} {base : Heap} {j k : Nat} {f : Addr} {fd : FuncData} {ps : List Str} {sp : Sp} (F : FnG P w K mg base j f fd ps sp) (h : j ≤ k) : FnG P w K mg base k f fd ps sp :=
  ⟨F.len, fun A outer s H args us vs Q E hr => F.run A outer s H args us vs Q E (hr.mono h)⟩
/-- from the body -/
theorem FnG.of {P : Program} {w : World} {K : PySem.W.Frag} {mg : Str → Option Value} {base : Heap} {x qual : Str} {st : Stmt} {f : Addr} {fd : FuncData} {N ps : List Str} {k : Nat} {sp : Sp} (F : Fun K x qual st f fd)
    (S : FnScope N ps (defScope st)) (len : ∀ vs H Q E, sp vs H Q E → vs.length = ps.length)
    (body : ∀ (cdv : Value) (A : Around) (outer : List Env) (s : Shared) (H : Hp) (vs : List V) (Q : VK) (E : XK), Room k (A.deeper (envOfC qual (defScope st) s.heap.objs.size f cdv)) → A.guards = some [] → sp vs H Q E →
      ∃ t, PSs (cxOf (L2.CX P w) P w K mg base N qual (defScope st) f cdv A outer s H E) (defBody st) t ∧ t { nx := fun _ H' => Q .non H', rt := Q } (start N vs) H) :
    FnG P w K mg base (k + 1) f fd ps sp := by
  obtain ⟨oc, od, kV, doc, pm, an, cdv, ct, osl, rfl, lk, hcd⟩ := F.ex
  refine ⟨len, fun A outer s H args us vs Q E room gu e0 bind rel promise => ?_⟩
  have nvs := len _ _ _ _ promise
  have inK : K.In s.heap := PySem.W.Frag.In.keeps e0.mod.kin fun b o e => (e0.bs b o e).1
  have free : s.heap.NoLimit := Heap.NoLimit.keeps e0.mod.nolimit fun b o e => (e0.bs b o e).1
  refine codeAny_call_function room.depth (inK _ _ lk) rfl S.co S.gen rfl (PySem.W.codeRec_of inK hcd) (bind _ _ _ _ ?_)
  refine wpAny_newFunctionEnv_cells S.kind (fun y hy => ?_) fun env he s1 at1 => ?_
  · rcases S.par y.1 (List.of_mem_zip (show (y.1, y.2) ∈ ps.zip us from hy)).1 with q | q
    · exact Or.inl q
    · exact Or.inr ⟨q, PySem.W.cellsFrom_some _ _ _ (Or.inl q)⟩
  subst he
  refine ⟨Heap.NoLimit.keeps free at1.toInCall.keep, codeAny_func ?_⟩
  obtain ⟨t, derived, reading⟩ := body cdv A outer s H vs Q E (room.deeper _) gu promise
  have I0 := inv_start (CX := L2.CX P w) (P := P) (w := w) (E := E) (N := N) S room.hd e0 nvs rel at1
  refine wpAny_mono (derived.run [] s1 (start N vs) H _ I0 reading) (fun fl s' there => ?_) fun _ _ q => q
  cases fl with
  | ret u =>
    obtain ⟨v, _, H', J, rv, q⟩ := there
    exact ⟨v, H', J.os, J.bare, J.base, J.hok, rv, q⟩
  | next =>
    obtain ⟨_, H', J, q⟩ := there
    exact ⟨V.non, H', J.os, J.bare, J.base, J.hok, rfl, q⟩
  | brk => obtain ⟨_, _, _, q⟩ := there; exact q.elim
  | cont => obtain ⟨_, _, _, q⟩ := there; exact q.elim

/-- the promise of a meaning of n arguments -/
def spD (K : PySem.W.Frag) (mg : Str → Option Value) (n : Nat) (F : List RV → M RV) : Sp := fun vs H Q E => vs.length = n ∧ ∃ z xs, z.H = H ∧ Good K z ∧ RepVs K z vs xs ∧
  Fin K z (F xs z.h) (fun v z' => ∀ b, RepV K z' b v → Q b z'.H) (fun c fs z' => ∀ cls dx, RepX K mg z' c fs cls dx → E cls dx z'.H)
section
variable {X : Cx} {W : WX} {K : PySem.W.Frag} {z : Z} {a b c e : Expr} {es : List Expr} {da db dc : DenE} {dA : DenA} {pos p : Pos} {f : Addr} {fd : FuncData} {ps : List Str} {x : Str} {k : Nat} {sp : Sp}
theorem run_G {pins : List (Addr × Obj)} {σ : St} {H : Hp} {s : Shared} {Q : VK} {us : List Value} {vs : List V} (F : FnG X.prog X.w X.K X.mg X.base k f fd ps sp) (hr : Room k X.A) (gu : X.A.guards = some []) (hb : Binds X.K fd ps []) (tk : Takes X W)
    (I : Inv X pins σ H s) (r : Vals vs us) (h : sp vs H Q (WE W σ)) : wpAny (model X.prog X.w) X.A (call (.ref f) us) (EP X pins σ Q) X.xe s := by
  have nl : (us ++ []).length = ps.length := by rw [List.append_nil, ← r.length]; exact F.len _ _ _ _ h
  have bd := hb s us I.kIn nl
  rw [List.append_nil] at bd
  refine wpAny_call (codeAny_mono (F.run X.A X.stack s H ⟨us, []⟩ us vs Q (WE W σ) hr gu I.env0 bd r h) fun res s' q => ?_)
  cases res with
  | error u => exact tk u s' (XE.of_call I (fun _ _ _ h => h) q)
  | ok fl =>
    cases fl with
    | ret u => exact I.after q
    | next => exact q.elim
    | brk => exact q.elim
    | cont => exact q.elim
theorem pe_G (F : FnG X.prog X.w X.K X.mg X.base k f fd ps sp) (hr : Room k X.A) (gu : X.A.guards = some []) (hg : Gl X x) (hm : X.mg x = some (.ref f)) (hk : PySem.W.keepIn X.K (.ref f) = true) (hb : Binds X.K fd ps []) (tk : Takes X W) {t : TA}
    (ha : PA X (a :: es) t) (hdb : (x == ("__debug__" : Str)) = false) (he : starEach (a :: es) X.env = (false, eval a X.env) :: starEach es X.env) (hpl : (backTo pos (starEach es X.env)).any (·.1) = false) :
    PE X (.Call (.Name x p) (a :: es) [] pos) (fun σ H Q => t σ H fun vs H1 => sp vs H1 Q (WE W σ)) :=
  ⟨fun pins s σ H Q I h => wpAny_Call_Name_kw (ld_glob I hg hm (PySem.W.callWith_K (h₀ := X.base) I.ok.mod.kin hk (thn (ha.run pos pins s σ H _ I h) fun us s1 ⟨vs, H1, I1, r, q⟩ => ⟨I1.kIn, run_G F hr gu hb tk I1 r q⟩) he hpl) hdb)⟩
theorem pe_G0 (F : FnG X.prog X.w X.K X.mg X.base k f fd ps sp) (hr : Room k X.A) (gu : X.A.guards = some []) (hg : Gl X x) (hm : X.mg x = some (.ref f)) (hk : PySem.W.keepIn X.K (.ref f) = true) (hb : Binds X.K fd ps []) (tk : Takes X W)
    (hdb : (x == ("__debug__" : Str)) = false) : PE X (.Call (.Name x p) [] [] pos) (fun σ H Q => sp [] H Q (WE W σ)) :=
  ⟨fun pins s σ H Q I h => wpAny_Call_Name_kw (ld_glob I hg hm (PySem.W.callWith_K0 I.kIn hk (run_G (us := []) F hr gu hb tk I .nil h)) hdb)⟩
/-- f(..), the objects shared -/
theorem de_call {G : List RV → M RV} (F : FnG X.prog X.w X.K X.mg X.base k f fd ps (spD X.K X.mg ps.length G)) (hr : Room k X.A) (gu : X.A.guards = some []) (hg : Gl X x) (hm : X.mg x = some (.ref f)) (hk : PySem.W.keepIn X.K (.ref f) = true) (hb : Binds X.K fd ps []) (tk : Takes X W)
    (ha : PA X (a :: es) (tA X W dA)) (hn : ∀ env h xs h', dA env h = some (.ok xs, h') → xs.length = ps.length) (hdb : (x == ("__debug__" : Str)) = false) (he : starEach (a :: es) X.env = (false, eval a X.env) :: starEach es X.env) (hpl : (backTo pos (starEach es X.env)).any (·.1) = false) :
    PE X (.Call (.Name x p) (a :: es) [] pos) (tD X W (fun env => bindM (dA env) fun xs => G xs)) := by
  refine PE.imp (pe_G F hr gu hg hm hk hb tk ha hdb he hpl) fun σ H Q h => ?_
  obtain ⟨z, env, rfl, g, re, fin⟩ := h
  refine ⟨z, env, rfl, g, re, ?_⟩
  have q := Fin.bind g fin
  cases e : dA env z.h with
  | none => rw [e] at q; exact q.elim
  | some pr =>
    obtain ⟨o, h'⟩ := pr
    rw [e] at q
    cases o with
    | exc c fs => exact q
    | ok xs => exact fun z1 h1 g1 x1 vs rx => ⟨by rw [Paired.length rx]; exact hn _ _ _ _ e, z1, xs, rfl, g1, rx, q z1 h1 g1 x1⟩
theorem de_call0 {G : List RV → M RV} (F : FnG X.prog X.w X.K X.mg X.base k f fd [] (spD X.K X.mg 0 G)) (hr : Room k X.A) (gu : X.A.guards = some []) (hg : Gl X x) (hm : X.mg x = some (.ref f)) (hk : PySem.W.keepIn X.K (.ref f) = true) (hb : Binds X.K fd [] []) (tk : Takes X W)
    (hdb : (x == ("__debug__" : Str)) = false) : PE X (.Call (.Name x p) [] [] pos) (tD X W (fun _ => bindM (retM []) fun xs => G xs)) := by
  refine PE.imp (pe_G0 F hr gu hg hm hk hb tk hdb) fun σ H Q h => ?_
  obtain ⟨z, env, rfl, g, re, fin⟩ := h
  exact ⟨rfl, z, [], rfl, g, .nil, fin⟩

/-! ### a call that shares no object -/
/-- the data of what a run has left, seen by one who does not know its objects -/
theorem frzV_rep {F0 : Addr → Prop} (g : Good K z) (hF : ∀ a, F0 a → z.F a) (hr : ∀ n, n < z.h.length → ¬ F0 (z.r n)) : ∀ (k : Nat) {x : RV} {v : V} {d : PyData}, RepV K z v x → frzV k z.h x = some d → RepD K F0 z.H v d := by
  have low : ∀ {v : V} {d : PyData}, RepD K z.F z.H v d → RepD K F0 z.H v d := fun r =>
      RepD.rec (motive_1 := fun v d _ => RepD K F0 z.H v d) (motive_2 := fun vs ds _ => RepDs K F0 z.H vs ds) .non (fun b => .bl b) (fun i => .int i) (fun x => .str x) (fun h nf _ q => .lst h (fun c => nf (hF _ c)) q) (fun h _ q => .tup h q) .nil (fun _ _ a b => .cons a b) r
  intro k
  induction k with
  | zero =>
    intro x v d r e
    cases x with
    | val d' => cases e; cases r with | val r => exact low r
    | ref n => cases e
    | exn _ _ => cases e
  | succ k ih =>
    intro x v d r e
    cases x with
    | val d' => cases e; cases r with | val r => exact low r
    | exn _ _ => cases e
    | ref n =>
      cases r with | ref hn =>
      unfold frzV at e
      cases eh : z.h[n]? with
      | none => rw [eh] at e; cases e
      | some o =>
        rw [eh] at e
        cases o with
        | lst xs =>
          dsimp only at e
          obtain ⟨_, w, h1, vs, rfl, rr⟩ := g.obj n _ eh rfl
          cases e2 : xs.mapM (frzV k z.h) with
          | none => rw [e2] at e; cases e
          | some ds =>
            rw [e2] at e
            cases e
            refine .lst h1 (hr n hn) ?_
            clear h1 eh
            have key : ∀ (xs : List RV) (ds : List PyData) (vs : List V), xs.mapM (frzV k z.h) = some ds → RepVs K z vs xs → RepDs K F0 z.H vs ds := by
              intro xs
              induction xs with
              | nil =>
                intro ds vs e r
                cases r
                rw [List.mapM_nil] at e
                cases e
                exact .nil
              | cons y ys ihx =>
                intro ds vs e r
                cases r with | cons r t =>
                rw [List.mapM_cons] at e
                cases e1 : frzV k z.h y with
                | none => rw [e1] at e; cases e
                | some d1 =>
                  rw [e1] at e
                  cases e2 : ys.mapM (frzV k z.h) with
                  | none =>
                    have e' : (ys.mapM (frzV k z.h)).bind (fun r => some (d1 :: r)) = some ds := e
                    rw [e2] at e'; cases e'
                  | some ds2 =>
                    have e' : (ys.mapM (frzV k z.h)).bind (fun r => some (d1 :: r)) = some ds := e
                    rw [e2] at e'
                    have e3 : d1 :: ds2 = ds := Option.some.inj e'
                    subst e3
                    exact .cons (ih r e1) (ihx ds2 _ e2 t)
            exact key xs ds vs e2 rr
        | ro _ => cases e
        | dct _ => cases e
        | gone => cases e
/-- z without its objects -/
def Z.bare (z : Z) : Z := { z with h := [] }
theorem dead_bare (n : Nat) : ¬ live z.bare.h n := by
  rintro ⟨_, e, _⟩
  exact absurd e (by show ([] : AH)[n]? ≠ _; simp)
theorem Good.bare (g : Good K z) : Good K z.bare := ⟨fun n o e => absurd e (by show ([] : AH)[n]? ≠ _; simp), fun n o e => absurd e (by show ([] : AH)[n]? ≠ _; simp), fun n m l => (dead_bare n l).elim, g.trk⟩
/-- back from a run that knew none of our objects -/
def Z.back (z z' : Z) : Z := { z with H := z'.H }
theorem Ext.back (g : Good K z) {z' : Z} (x : Ext z.bare z') : Ext z (z.back z') where
  len := Nat.le_refl _
  agree := fun _ _ => rfl
  fresh := fun n h1 h2 => absurd h2 (Nat.not_lt.mpr h1)
  dead := fun _ l _ => l
  keep := fun b o e _ => x.keep b o e fun n l => (dead_bare n l).elim
  there := x.there
  forb := fun _ h => .inl h
  hold := fun _ h _ => h
theorem Good.back (g : Good K z) {z' : Z} (x : Ext z.bare z') : Good K (z.back z') where
  obj := fun n o e hc => by
    obtain ⟨f, w, eh, r⟩ := g.obj n o e hc
    exact ⟨f, w, x.keep _ _ eh fun n l => (dead_bare n l).elim, r.ext g (Ext.back g x)⟩
  ro := fun n d e => by
    exact (g.ro n d e).ext g (Ext.back g x)
  inj := g.inj
  trk := fun a f => x.there a (g.trk a f)
theorem RepX.back {mg : Str → Option Value} {z' : Z} {cn : Str} {fs : List (Str × PyData)} {cls : Value} {dx : Option Addr} (g : Good K z) (x : Ext z.bare z') (g' : Good K z') (r : RepX K mg z' cn fs cls dx) : RepX K mg (z.back z') cn fs cls dx := by
  have hF : ∀ a, z.F a → z'.F a := fun a f => x.hold a f fun n l => (dead_bare n l).elim
  have low : ∀ {v : V} {d : PyData}, RepD K z'.F z'.H v d → RepD K z.F z'.H v d := fun r =>
      RepD.rec (motive_1 := fun v d _ => RepD K z.F z'.H v d) (motive_2 := fun vs ds _ => RepDs K z.F z'.H vs ds) .non (fun b => .bl b) (fun i => .int i) (fun x => .str x) (fun h nf _ q => .lst h (fun c => nf (hF _ c)) q) (fun h _ q => .tup h q) .nil (fun _ _ a b => .cons a b) r
  obtain ⟨h1, h2⟩ := r
  refine ⟨h1, ?_⟩
  cases dx with
  | none => exact h2
  | some d =>
    obtain ⟨ws, h3, h4⟩ := h2
    exact ⟨ws, h3, Paired.mapP h4 fun _ _ q => ⟨q.1, low q.2⟩⟩
theorem de_callP {G : List RV → M RV} (F : FnG X.prog X.w X.K X.mg X.base k f fd ps (spD X.K X.mg ps.length G)) (hr : Room k X.A) (gu : X.A.guards = some []) (hg : Gl X x) (hm : X.mg x = some (.ref f)) (hk : PySem.W.keepIn X.K (.ref f) = true) (hb : Binds X.K fd ps []) (tk : Takes X W)
    (ha : PA X (a :: es) (tA X W dA)) (hn : ∀ env h xs h', dA env h = some (.ok xs, h') → xs.length = ps.length) (hdb : (x == ("__debug__" : Str)) = false) (he : starEach (a :: es) X.env = (false, eval a X.env) :: starEach es X.env) (hpl : (backTo pos (starEach es X.env)).any (·.1) = false) :
    PE X (.Call (.Name x p) (a :: es) [] pos) (tD X W (fun env => bindM (dA env) fun xs => callPure G xs)) := by
  refine PE.imp (pe_G F hr gu hg hm hk hb tk ha hdb he hpl) fun σ H Q h => ?_
  obtain ⟨z, env, rfl, g, re, fin⟩ := h
  refine ⟨z, env, rfl, g, re, ?_⟩
  have q := Fin.bind g fin
  cases e : dA env z.h with
  | none => rw [e] at q; exact q.elim
  | some pr =>
    obtain ⟨o, h'⟩ := pr
    rw [e] at q
    cases o with
    | exc c fs => exact q
    | ok xs =>
      intro z1 h1 g1 x1 vs rx
      have q1 := q z1 h1 g1 x1
      refine ⟨by rw [Paired.length rx]; exact hn _ _ _ _ e, ?_⟩
      unfold callPure at q1
      dsimp only at q1
      cases ev : vals xs with
      | none => rw [ev] at q1; exact q1.elim
      | some ds =>
        rw [ev] at q1
        dsimp only at q1
        have rd := vals_rep rx ev
        refine ⟨z1.bare, ds.map .val, rfl, g1.bare, RepDs.toVs (z := z1.bare) rd, ?_⟩
        show Fin X.K z1.bare (G (ds.map .val) []) _ _
        cases eg : G (ds.map .val) [] with
        | none => rw [eg] at q1; exact q1.elim
        | some pr2 =>
          obtain ⟨o2, h2⟩ := pr2
          rw [eg] at q1
          cases o2 with
          | exc cn fs =>
            intro z2 e2 g2 x2 cls dx rX
            exact q1 (z1.back z2) rfl (g1.back x2) (Ext.back g1 x2) cls dx (rX.back g1 x2 g2)
          | ok v =>
            dsimp only at q1
            intro z2 e2 g2 x2 b rb
            subst e2
            cases ef : frzV 3 z2.h v with
            | none => rw [ef] at q1; exact q1.elim
            | some d =>
              rw [ef] at q1
              have hF : ∀ a, z1.F a → z2.F a := fun a f => x2.hold a f fun n l => (dead_bare n l).elim
              have hr2 : ∀ n, n < z2.h.length → ¬ z1.F (z2.r n) := fun n hn f => g1.trk _ f (x2.fresh n (Nat.zero_le _) hn)
              exact q1 (z1.back z2) rfl (g1.back x2) (Ext.back g1 x2) b (.val (frzV_rep g2 hF hr2 3 rb ef))
theorem de_callP0 {G : List RV → M RV} (F : FnG X.prog X.w X.K X.mg X.base k f fd [] (spD X.K X.mg 0 G)) (hr : Room k X.A) (gu : X.A.guards = some []) (hg : Gl X x) (hm : X.mg x = some (.ref f)) (hk : PySem.W.keepIn X.K (.ref f) = true) (hb : Binds X.K fd [] []) (tk : Takes X W)
    (hdb : (x == ("__debug__" : Str)) = false) : PE X (.Call (.Name x p) [] [] pos) (tD X W (fun _ => bindM (retM []) fun xs => callPure G xs)) := by
  refine PE.imp (pe_G0 F hr gu hg hm hk hb tk hdb) fun σ H Q h => ?_
  obtain ⟨z1, env, rfl, g1, re, q1⟩ := h
  refine ⟨rfl, z1.bare, [], rfl, g1.bare, .nil, ?_⟩
  have q1 : Fin X.K z1 (callPure G [] z1.h) _ _ := q1
  unfold callPure at q1
  dsimp only [vals, List.map] at q1
  show Fin X.K z1.bare (G [] []) _ _
  cases eg : G [] [] with
  | none => rw [eg] at q1; exact q1.elim
  | some pr2 =>
    obtain ⟨o2, h2⟩ := pr2
    rw [eg] at q1
    cases o2 with
    | exc cn fs =>
      intro z2 e2 g2 x2 cls dx rX
      exact q1 (z1.back z2) rfl (g1.back x2) (Ext.back g1 x2) cls dx (rX.back g1 x2 g2)
    | ok v =>
      dsimp only at q1
      intro z2 e2 g2 x2 b rb
      subst e2
      cases ef : frzV 3 z2.h v with
      | none => rw [ef] at q1; exact q1.elim
      | some d =>
        rw [ef] at q1
        have hF : ∀ a, z1.F a → z2.F a := fun a f => x2.hold a f fun n l => (dead_bare n l).elim
        have hr2 : ∀ n, n < z2.h.length → ¬ z1.F (z2.r n) := fun n hn f => g1.trk _ f (x2.fresh n (Nat.zero_le _) hn)
        exact q1 (z1.back z2) rfl (g1.back x2) (Ext.back g1 x2) b (.val (frzV_rep g2 hF hr2 3 rb ef))
end
end L2.Cap

set_option maxRecDepth 100000
set_option maxHeartbeats 1000000
namespace L2.Cap
open PySem PySem.Spec PyProof.Rows
/-! ### enumerate of a tuple -/
theorem enumT_new (l : Addr) (items : Array Value) (n : Nat) (dd : Option Addr) (sl : Array (Option Value)) :
    Meets (Builtin.«enumerate.__new__» ⟨[.type "enumerate", .ref l], []⟩) (fun _ R s =>
      s.heap.get? l = some { cls := .type "tuple", dict := dd, data := .seq items n, slots := sl } ∧
      R (.ok (.ret (.ref (s.heap.push { cls := .type "tuple_iterator", data := .fields #[.ref l, .int 0 0] }).objs.size)))
        { s with heap := (s.heap.push { cls := .type "tuple_iterator", data := .fields #[.ref l, .int 0 0] }).push { cls := .type "enumerate", data := .fields #[.none, .bool false, .ref s.heap.objs.size, rawInt 0, .none, .none] } }) :=
  .of_wp fun prog w A R s hyp => by
    obtain ⟨hp, gg, dd', tk, os⟩ := s
    obtain ⟨hl, hR⟩ := hyp
    have subE := sub_enumerate
    have isT : (Shared.heap ⟨hp, gg, dd', tk, os⟩).IsTuple l items := ⟨_, hl, rfl, n, rfl⟩
    wp_walk using wpAny_loadPart' hl
    refine wpAny_stack_any fun st => wpAny_pure ?_
    split
    · rename_i c _ _ _ _ _
      cases (c == Value.type "enumerate")
      · wp_walk using wpAny_loadPart' hl, wpAny_pyIter_tuple isT
        exact ⟨_, rfl, hR⟩
      · wp_walk using wpAny_loadPart' hl, wpAny_pyIter_tuple isT
        exact ⟨_, rfl, hR⟩
    · wp_walk using wpAny_loadPart' hl, wpAny_pyIter_tuple isT
      exact ⟨_, rfl, hR⟩
theorem enumT_call {prog : Program} {w : World} {A : Around} {E : Value → Shared → Prop} {s : Shared} {l : Addr} {items : Array Value} {Q : Value → Shared → Prop} (hT : s.heap.IsTuple l items)
    (h : ∀ h', IsEnum h' (s.heap.objs.size + 1) s.heap.objs.size 0 .none → h'.IsTupleIter s.heap.objs.size l 0 → (∀ b o, s.heap.get? b = some o → h'.get? b = some o) → Q (.ref (s.heap.objs.size + 1)) { s with heap := h' }) :
    wpAny (model prog w) A (call (.type "enumerate") [.ref l]) Q E s := by
  obtain ⟨⟨c, dd, dt, sl⟩, hl, hc, n, hd⟩ := hT
  replace hc : c = .type "tuple" := hc
  replace hd : dt = .seq items n := hd
  subst hc hd
  refine callType_new F.called_enumerate (by decide) (F.typeCall_enumerate_1 _) (F.newCall_enumerate_1 _) (fun obj => F.args_object_init_2 obj _) F.entry_enumerate_new (enumT_new l items n dd sl) ⟨hl, ?_⟩
  have sz : (s.heap.push { cls := .type "tuple_iterator", data := .fields #[.ref l, .int 0 0] }).objs.size = s.heap.objs.size + 1 := Heap.size_push ..
  show _ ∧ _
  rw [sz]
  have he : IsEnum ((s.heap.push { cls := .type "tuple_iterator", data := .fields #[.ref l, .int 0 0] }).push { cls := .type "enumerate", data := .fields #[.none, .bool false, .ref s.heap.objs.size, rawInt 0, .none, .none] }) (s.heap.objs.size + 1) s.heap.objs.size 0 .none := by
    have q := Heap.get?_push_size (s.heap.push { cls := .type "tuple_iterator", data := .fields #[.ref l, .int 0 0] }) (o := { cls := .type "enumerate", data := .fields #[.none, .bool false, .ref s.heap.objs.size, rawInt 0, .none, .none] }) rfl
    rw [sz] at q
    exact q
  exact ⟨⟨_, he, rfl⟩, h _ he ⟨_, Heap.get?_push_of_some _ (Heap.get?_push_size _ rfl), rfl, rfl⟩ fun b o x => Heap.get?_push_of_some _ (Heap.get?_push_of_some _ x)⟩
/-- the tuple at a, each item in a new pair -/
def IteT (K : PySem.W.Frag) (a : Addr) (xs : List V) : It :=
  ⟨fun i H => SqT K H a xs ∧ i < xs.length, fun i H v H' => ∃ T x, v = .ref T ∧ H T = none ∧ H' = upd H T (.tup [.int (i : Nat), x]) ∧ xs[i]? = some x, fun i H => SqT K H a xs ∧ i = xs.length⟩
theorem turn_enumT {P : Program} {w : World} {K : PySem.W.Frag} {elts : List Expr} {kk : Nat} {tpos : Pos} (a e it : Addr) (xs : List V) (hne : a ≠ it) (hea : e ≠ a) :
    Turn P w K (.Tuple elts kk tpos) (IteT K a xs) [e, it] e (fun i h => (∃ old, IsEnum h e it ((i : Nat) : Int) old) ∧ h.IsTupleIter it a i ∧ e ≠ it) where
  mem := by simp
  obj := fun i h st b hb => by
    obtain ⟨⟨old, he⟩, ⟨o, ho, hc, hd⟩, _⟩ := st
    rcases (show b = e ∨ b = it by simpa using hb) with q | q
    · exact ⟨_, by rw [q]; exact he, fun v c => by cases c⟩
    · exact ⟨o, by rw [q]; exact ho, fun v c => by rw [hd] at c; cases c⟩
  keep := fun i h h' st k => ⟨⟨_, k e (by simp) _ st.1.choose_spec⟩, st.2.1.at fun o q => k it (by simp) o q, st.2.2⟩
  item := by
    intro X hP hw hK hc i pins s σ H E I hf st hg
    subst hP hw hK
    obtain ⟨⟨old, he⟩, hit, nei⟩ := st
    obtain ⟨hq, hi⟩ := hg
    obtain ⟨its, rv, pt, hz⟩ := I.tuple hq
    have pt' : s.heap.IsTuple a its.toArray := pt
    have hel : e < s.heap.objs.size := Heap.lt_size he
    have hil : it < s.heap.objs.size := (by obtain ⟨_, q, _⟩ := hit; exact Heap.lt_size q)
    have D := Draws.tuple (prog := X.prog) (w := X.w) (A := X.A.in1) (I.ok.hd hc) it a hne its.toArray
    refine wpAny_pyNext_enum_itemD D he ⟨hit, pt'⟩ (by rw [List.size_toArray, ← rv.length]; exact hi) nei (by simp [nei, hea]) fun u h' tk hu out st' hT hsz hk => ?_
    obtain ⟨x, hx⟩ : ∃ x, xs[i]? = some x := ⟨xs[i], List.getElem?_eq_getElem hi⟩
    obtain ⟨u', hu', ru⟩ := rv.get hx
    have eu : u = u' := by
      have hu2 : its[i]? = some u := by simpa using hu
      rw [hu'] at hu2
      exact (Option.some.inj hu2).symm
    subst eu
    refine ⟨_, rfl, wpAny_letOwnedTupleGo_enum (s := { s with heap := h', toks := tk + 1 }) out fun h'' he' sb => ?_⟩
    have hT2 : h''.get? s.heap.objs.size = some { cls := .type "tuple", data := .seq #[.int i tk, u] } := (sb.2 _ (Nat.ne_of_gt hel)).trans hT
    have new : ObjOk X.prog X.w (upd H s.heap.objs.size (.tup [.int (i : Nat), x])) h'' s.heap.objs.size (.tup [.int (i : Nat), x]) := ⟨by show 2 ≤ sizeLine; decide, [.int i tk, u], .cons ⟨_, rfl⟩ (.cons ru .nil), _, hT2, rfl, _, rfl⟩
    have I1 := I.turnedNew (t' := tk + 1) (ch := [e, it]) (fun b ob hb q => (sb.2 b (fun c => hb (by simp [c]))).trans (hk b ob (fun c => hb (by simp [c])) (fun c => hb (by simp [c])) q)) hf (Nat.le_refl _) new
    refine ⟨.ref s.heap.objs.size, _, I1, rfl, ⟨_, x, rfl, I.hok.fresh (Nat.le_refl _), rfl, hx⟩, ⟨⟨u, ?_⟩, st'.1.at fun o q => (sb.2 it (Ne.symm nei)).trans q, nei⟩, fun b hb => ?_⟩
    · rw [show ((i + 1 : Nat) : Int) = (i : Int) + 1 by omega]
      exact he'
    · have lt : b < s.heap.objs.size := by
        rcases (show b = e ∨ b = it by simpa using hb) with q | q
        · rw [q]; exact hel
        · rw [q]; exact hil
      rw [upd_ne (Nat.ne_of_lt lt)]
      exact (hf b hb).1
  done := by
    intro X hP hw hK hc i pins s σ H E I hf st hg
    subst hP hw hK
    obtain ⟨⟨old, he⟩, hit, nei⟩ := st
    obtain ⟨hq, hi⟩ := hg
    obtain ⟨its, rv, pt, hz⟩ := I.tuple hq
    have pt' : s.heap.IsTuple a its.toArray := pt
    obtain ⟨f0, f1, f2, f3, f4, f5⟩ := hf it (by simp)
    have D := Draws.tuple (prog := X.prog) (w := X.w) (A := X.A.in1) (I.ok.hd hc) it a hne its.toArray
    have en : i = its.toArray.size := by rw [List.size_toArray, ← rv.length]; exact hi
    exact wpAny_pyNext_enum_endD D he (by rw [← en]; exact ⟨hit, pt'⟩) fun h' eb => ⟨rfl, I.turned (t' := s.toks) (fun b o hb q => eb b o hb q) f0 f1 f3 f4 f5⟩
  self := fun A i s Q E st h => wpAny_pyIter_enum st.1.choose_spec h
def iEnumT (K : PySem.W.Frag) (ta : TA) : TI := fun σ H R => ta σ H fun vs H1 => ∃ a xs, vs = [.ref a] ∧ SqT K H1 a xs ∧ R (IteT K a xs) H1
theorem pi_enumT {X : Cx} {e : Expr} {ta : TA} {p pos tpos : Pos} {elts : List Expr} {kk : Nat} (hg : Gl X "enumerate") (hm : X.mg "enumerate" = none) (ha : PA X [e] ta) (hs : starEach [e] X.env = [(false, eval e X.env)]) :
    PI X (.Tuple elts kk tpos) (.Call (.Name "enumerate" p) [e] [] pos) (iEnumT X.K ta) := by
  refine ⟨fun pins s σ H R I h => Call_ (ld_blt I hg hm boot_enumerate (PyProof.Rows.callWith_type1 (thn (ha.run pos pins s σ H _ I h) fun us s1 ⟨vs, H1, I1, r1, q1⟩ => ?_) hs rfl))⟩
  obtain ⟨a, xs, ex, hq, q⟩ := q1
  subst ex
  have ev := Vals.ref1 r1
  subst ev
  obtain ⟨its, rv, pt, hz⟩ := I1.tuple hq
  have pt' : s1.heap.IsTuple a its.toArray := pt
  have la : a < s1.heap.objs.size := pt.lt
  refine enumT_call pt' fun h' he hit hk => wpAny_pyIter_enum he ?_
  refine ⟨s1.heap.objs.size + 1, [s1.heap.objs.size + 1, s1.heap.objs.size], _, _, H1, rfl, I1.kept (t' := s1.toks) hk, turn_enumT a (s1.heap.objs.size + 1) s1.heap.objs.size xs (Nat.ne_of_lt la) (Nat.ne_of_gt (Nat.lt_succ_of_lt la)), ⟨⟨.none, he⟩, hit, Nat.succ_ne_self _⟩, fun b hb => ?_, q⟩
  have le : s1.heap.objs.size ≤ b := by
    rcases (show b = s1.heap.objs.size + 1 ∨ b = s1.heap.objs.size by simpa using hb) with q | q
    · rw [q]; exact Nat.le_succ _
    · rw [q]; exact Nat.le_refl _
  exact I1.fpOk le (I1.hok.fresh le)
theorem walk_enumT {K : PySem.W.Frag} {a : Addr} {xs : List V} : Walk (IteT K a xs) xs.length (fun H => SqT K H a xs) (YPair (fun i => some (.int (i : Nat))) (fun i => xs[i]?)) :=
  ⟨fun i _ hi q => ⟨q, hi⟩, fun _ q => ⟨q, rfl⟩, fun i H v H' _ _ ⟨T, x, h1, h2, h3, h4⟩ => ⟨T, _, x, h1, h2, h3, rfl, h4⟩⟩

/-! ### what is walked -/
structure WkD (K : PySem.W.Frag) (z1 : Z) (J : It) (ds : List PyData) : Prop where
  ex : ∃ (G : Hp → Prop) (Y : Nat → Hp → V → Hp → Prop), Walk J ds.length G Y ∧ (∀ z2, Good K z2 → Ext z1 z2 → G z2.H) ∧
    ∀ i z2 x H', Good K z2 → Ext z1 z2 → Y i z2.H x H' → ∃ d z3, ds[i]? = some d ∧ z3.H = H' ∧ z3.h = z2.h ∧ Good K z3 ∧ Ext z2 z3 ∧ RepD K z3.F z3.H x d
abbrev tI (X : Cx) (W : WX) (d : EnvD → M (List PyData)) : TI := tM X.K X.mg W (fun z a J => WkD X.K z J a) d
section
variable {X : Cx} {W : WX} {K : PySem.W.Frag} {z : Z} {a b c e tg : Expr} {es : List Expr} {da db dc : DenE} {dA : DenA} {pos p : Pos}
theorem RepDs.getV {F : Addr → Prop} {H : Hp} : ∀ {vs : List V} {ds : List PyData} {i : Nat} {v : V}, RepDs K F H vs ds → vs[i]? = some v → ∃ d, ds[i]? = some d ∧ RepD K F H v d
  | _, _, _, _, .nil, e => by simp at e
  | _, _, 0, _, .cons a _, e => by
    simp at e
    subst e
    exact ⟨_, rfl, a⟩
  | _, _, i + 1, _, .cons _ b, e => by
    obtain ⟨v, h1, h2⟩ := RepDs.getV (i := i) b (by simpa using e)
    exact ⟨v, by simpa using h1, h2⟩
theorem wk_list {a : Addr} {vs : List V} {ds : List PyData} (g : Good K z) (h : ∀ z2, Good K z2 → Ext z z2 → SqL K z2.H a vs) (r : RepDs K z.F z.H vs ds) : WkD K z (Itl K a) ds :=
  ⟨_, _, by rw [← r.length]; exact walk_list (xs := vs), h, fun i z2 x H' g2 x2 y => by
    obtain ⟨e, hx⟩ := y
    obtain ⟨d, h1, h2⟩ := r.getV hx
    exact ⟨d, z2, h1, e.symm, rfl, g2, Ext.refl z2, h2.ext g x2⟩⟩
theorem wk_tup {a : Addr} {vs : List V} {ds : List PyData} (g : Good K z) (h : SqT K z.H a vs) (r : RepDs K z.F z.H vs ds) : WkD K z (Itt K a) ds :=
  ⟨_, _, by rw [← r.length]; exact walk_tup (xs := vs), fun z2 _ x2 => SqT.ext g x2 h, fun i z2 x H' g2 x2 y => by
    obtain ⟨e, hx⟩ := y
    obtain ⟨d, h1, h2⟩ := r.getV hx
    exact ⟨d, z2, h1, e.symm, rfl, g2, Ext.refl z2, h2.ext g x2⟩⟩
theorem wk_str {x : Str} : WkD K z (Its x) (x.cps.toList.map fun c => .str ⟨#[c]⟩) := by
  refine ⟨fun _ => True, fun i H v H' => H' = H ∧ ∃ c, x.cps[i]? = some c ∧ v = .str ⟨#[c]⟩, ?_, fun z2 _ _ => trivial, fun i z2 v H' g2 x2 y => ?_⟩
  · rw [List.length_map, Array.length_toList]
    exact walk_str
  · obtain ⟨e, c, hc, rfl⟩ := y
    refine ⟨.str ⟨#[c]⟩, z2, ?_, e.symm, rfl, g2, Ext.refl z2, .str _⟩
    rw [List.getElem?_map, Array.getElem?_toList, hc]
    rfl
theorem rngL_get : ∀ (n : Nat) (lo : Int) (i : Nat), i < n → (rngL lo n)[i]? = some (.int (lo + i))
  | 0, _, _, h => absurd h (Nat.not_lt_zero _)
  | n + 1, lo, 0, _ => by
    show some (PyData.int lo) = _
    rw [show lo + ((0 : Nat) : Int) = lo by omega]
  | n + 1, lo, i + 1, h => by
    show (rngL (lo + 1) n)[i]? = _
    rw [rngL_get n (lo + 1) i (by omega), show lo + 1 + (i : Int) = lo + ((i + 1 : Nat) : Int) by omega]
theorem rngL_length : ∀ (n : Nat) (lo : Int), (rngL lo n).length = n
  | 0, _ => rfl
  | n + 1, lo => by show (rngL (lo + 1) n).length + 1 = n + 1; rw [rngL_length n]
theorem wk_rng {lo : Int} {n : Nat} : WkD K z (Itr lo n) (rngL lo n) := by
  refine ⟨fun _ => True, fun i H x H' => i < n ∧ (YFn fun i => .int (lo + i)) i H x H', ?_, fun z2 _ _ => trivial, fun i z2 v H' g2 x2 y => ?_⟩
  · rw [rngL_length]
    exact Walk.mono (walk_range (lo := lo) (n := n)) (fun _ h => h) fun i H x H' hi _ y => ⟨hi, y⟩
  · obtain ⟨hi, e, rfl⟩ := y
    exact ⟨_, z2, rngL_get n lo i hi, e.symm, rfl, g2, Ext.refl z2, .int _⟩
/-- a pair just made -/
theorem pair_new {z2 : Z} {T : Addr} {v w : V} {d e : PyData} (g2 : Good K z2) (hT : z2.H T = none) (r1 : RepD K z2.F z2.H v d) (r2 : RepD K z2.F z2.H w e) :
    ∃ z3, z3.H = upd z2.H T (.tup [v, w]) ∧ z3.h = z2.h ∧ Good K z3 ∧ Ext z2 z3 ∧ RepD K z3.F z3.H (.ref T) (.tuple [d, e]) :=
  ⟨z2.at T (.tup [v, w]), rfl, rfl, g2.new _ hT, Ext.new g2 _ hT, new_tup g2 hT (.cons r1 (.cons r2 .nil))⟩
theorem pairI_get : ∀ (ds : List PyData) (k i : Nat) (d : PyData), ds[i]? = some d → (pairI k ds)[i]? = some (.tuple [.int ((k + i : Nat)), d])
  | [], _, _, _, h => by simp at h
  | d :: r, k, 0, x, h => by
    simp at h
    subst h
    rfl
  | d :: r, k, i + 1, x, h => by
    show (pairI (k + 1) r)[i]? = _
    rw [pairI_get r (k + 1) i x (by simpa using h), show k + 1 + i = k + (i + 1) by omega]
theorem pairI_length : ∀ (ds : List PyData) (k : Nat), (pairI k ds).length = ds.length
  | [], _ => rfl
  | d :: r, k => by show (pairI (k + 1) r).length + 1 = r.length + 1; rw [pairI_length r]
theorem wk_enuL {a : Addr} {vs : List V} {ds : List PyData} (g : Good K z) (h : ∀ z2, Good K z2 → Ext z z2 → SqL K z2.H a vs) (r : RepDs K z.F z.H vs ds) : WkD K z (Ite K a) (pairI 0 ds) := by
  refine ⟨_, _, by rw [pairI_length, ← r.length]; exact walk_enum (xs := vs), h, fun i z2 x H' g2 x2 y => ?_⟩
  obtain ⟨T, v, w, rfl, hT, rfl, h1, h2⟩ := y
  cases h1
  obtain ⟨d, h3, h4⟩ := r.getV h2
  obtain ⟨z3, e1, e2, g3, x3, r3⟩ := pair_new g2 hT (.int (i : Nat)) (h4.ext g x2)
  exact ⟨_, z3, by rw [pairI_get ds 0 i d h3, Nat.zero_add], e1, e2, g3, x3, r3⟩
theorem wk_enuT {a : Addr} {vs : List V} {ds : List PyData} (g : Good K z) (h : SqT K z.H a vs) (r : RepDs K z.F z.H vs ds) : WkD K z (IteT K a vs) (pairI 0 ds) := by
  refine ⟨_, _, by rw [pairI_length, ← r.length]; exact walk_enumT, fun z2 _ x2 => SqT.ext g x2 h, fun i z2 x H' g2 x2 y => ?_⟩
  obtain ⟨T, v, w, rfl, hT, rfl, h1, h2⟩ := y
  cases h1
  obtain ⟨d, h3, h4⟩ := r.getV h2
  obtain ⟨z3, e1, e2, g3, x3, r3⟩ := pair_new g2 hT (.int (i : Nat)) (h4.ext g x2)
  exact ⟨_, z3, by rw [pairI_get ds 0 i d h3, Nat.zero_add], e1, e2, g3, x3, r3⟩
theorem walk_zipT {K : PySem.W.Frag} {a b : Addr} {xs ys : List V} {n : Nat} (hn : n = min xs.length ys.length) : Walk (RZ.ItzT K a b) n (fun H => SqT K H a xs ∧ SqT K H b ys) (YPair (fun i => xs[i]?) (fun i => ys[i]?)) := by
  subst hn
  refine ⟨fun i _ hi q => ?_, fun _ q => ⟨xs, ys, q.1, q.2, by omega⟩, fun i H v H' _ q y => ?_⟩
  · exact ⟨xs, ys, xs[i]'(by omega), ys[i]'(by omega), q.1, q.2, List.getElem?_eq_getElem _, List.getElem?_eq_getElem _⟩
  · obtain ⟨T, x, w, h1, h2, h3, h4, h5⟩ := y
    exact ⟨T, x, w, h1, h2, h3, h4 xs q.1, h5 ys q.2⟩
theorem zipG {vs ws : List V} {ds es : List PyData} {J : It} {G : Hp → Prop} (g : Good K z) (h : ∀ z2, Good K z2 → Ext z z2 → G z2.H) (r1 : RepDs K z.F z.H vs ds) (r2 : RepDs K z.F z.H ws es)
    (wk : Walk J (min vs.length ws.length) G (YPair (fun i => vs[i]?) (fun i => ws[i]?))) : WkD K z J ((ds.zip es).map fun p => .tuple [p.1, p.2]) := by
  refine ⟨_, _, by rw [List.length_map, List.length_zip, ← r1.length, ← r2.length]; exact wk, h, fun i z2 x H' g2 x2 y => ?_⟩
  obtain ⟨T, v, w, rfl, hT, rfl, h1, h2⟩ := y
  obtain ⟨d, h3, h4⟩ := r1.getV h1
  obtain ⟨e, h5, h6⟩ := r2.getV h2
  obtain ⟨z3, e1, e2, g3, x3, r3⟩ := pair_new g2 hT (h4.ext g x2) (h6.ext g x2)
  refine ⟨_, z3, ?_, e1, e2, g3, x3, r3⟩
  rw [List.getElem?_map, List.getElem?_zip_eq_some (z := (d, e)) |>.mpr ⟨h3, h5⟩]
  rfl
end
end L2.Cap

set_option maxRecDepth 100000
set_option maxHeartbeats 1000000
namespace L2.Cap
open PySem PySem.Spec PyProof.Rows
section
variable {X : Cx} {W : WX} {K : PySem.W.Frag} {z : Z} {a b c e tg : Expr} {es : List Expr} {da db dc : DenE} {dA : DenA} {pos p : Pos}
theorem di_ex (he : PE X e (tD X W da)) : PI X tg e (tI X W (fun env => bindM (da env) fun x => readM (itemsV x))) := by
  refine ⟨fun pins s σ H R I h => ?_⟩
  obtain ⟨z, env, rfl, g, re, fin⟩ := h
  have q := Fin.bind g fin
  cases ed : da env z.h with
  | none => rw [ed] at q; exact q.elim
  | some pr =>
    obtain ⟨o, h'⟩ := pr
    rw [ed] at q
    cases o with
    | exc cn fs =>
      refine (pi_list he).run pins s σ _ R I ⟨z, env, rfl, g, re, ?_⟩
      rw [ed]
      exact q
    | ok x =>
      have go : ∀ z1, z1.h = h' → Good X.K z1 → Ext z z1 → ∃ ds, itemsV x h' = some ds ∧ ∀ J, WkD X.K z1 J ds → R J z1.H := fun z1 h1 g1 x1 => by
        obtain ⟨ds, e1, q1⟩ := Fin.read (q z1 h1 g1 x1)
        rw [h1] at e1
        exact ⟨ds, e1, q1 z1 rfl g1 (Ext.refl _)⟩
      cases x with
      | exn _ _ =>
        refine (pi_list he).run pins s σ _ R I ⟨z, env, rfl, g, re, ?_⟩
        rw [ed]
        intro z1 h1 g1 x1 v rv
        obtain ⟨ds, e1, q1⟩ := go z1 h1 g1 x1
        cases e1
      | ref n =>
        refine (pi_list he).run pins s σ _ R I ⟨z, env, rfl, g, re, ?_⟩
        rw [ed]
        intro z1 h1 g1 x1 v rv
        obtain ⟨ds, e1, q1⟩ := go z1 h1 g1 x1
        cases rv with | ref hn =>
        unfold itemsV at e1
        subst h1
        dsimp only at e1
        split at e1
        · rename_i ds' eh
          cases e1
          rcases g1.ro n _ eh with ⟨vs, r1, r2⟩ | r1
          · exact ⟨_, rfl, ⟨vs, r1.sq⟩, q1 _ (wk_list g1 (fun z2 _ x2 => (r1.ext g1 x2).sq) r2)⟩
          · cases r1 with | lst hh nf r =>
            exact ⟨_, rfl, ⟨_, SqL.of hh⟩, q1 _ (wk_list g1 (fun z2 _ x2 => SqL.of (x2.keep _ _ hh (g1.nolive nf))) r)⟩
        · cases e1
      | val d =>
        cases d with
        | list ds0 =>
          refine (pi_list he).run pins s σ _ R I ⟨z, env, rfl, g, re, ?_⟩
          rw [ed]
          intro z1 h1 g1 x1 v rv
          obtain ⟨ds, e1, q1⟩ := go z1 h1 g1 x1
          cases e1
          cases rv with | val rv =>
          cases rv with | lst hh nf r =>
          exact ⟨_, rfl, ⟨_, SqL.of hh⟩, q1 _ (wk_list g1 (fun z2 _ x2 => SqL.of (x2.keep _ _ hh (g1.nolive nf))) r)⟩
        | tuple ds0 =>
          refine (pi_tup he).run pins s σ _ R I ⟨z, env, rfl, g, re, ?_⟩
          rw [ed]
          intro z1 h1 g1 x1 v rv
          obtain ⟨ds, e1, q1⟩ := go z1 h1 g1 x1
          cases e1
          cases rv with | val rv =>
          cases rv with | tup hh r =>
          exact ⟨_, rfl, ⟨_, hh⟩, q1 _ (wk_tup g1 hh r)⟩
        | str y =>
          refine (pi_str he).run pins s σ _ R I ⟨z, env, rfl, g, re, ?_⟩
          rw [ed]
          intro z1 h1 g1 x1 v rv
          obtain ⟨ds, e1, q1⟩ := go z1 h1 g1 x1
          cases e1
          cases rv with | val rv =>
          cases rv
          exact ⟨y, rfl, q1 _ wk_str⟩
        | none =>
          refine (pi_list he).run pins s σ _ R I ⟨z, env, rfl, g, re, ?_⟩
          rw [ed]
          intro z1 h1 g1 x1 v rv
          obtain ⟨ds, e1, q1⟩ := go z1 h1 g1 x1
          cases e1
        | bool _ =>
          refine (pi_list he).run pins s σ _ R I ⟨z, env, rfl, g, re, ?_⟩
          rw [ed]
          intro z1 h1 g1 x1 v rv
          obtain ⟨ds, e1, q1⟩ := go z1 h1 g1 x1
          cases e1
        | int _ =>
          refine (pi_list he).run pins s σ _ R I ⟨z, env, rfl, g, re, ?_⟩
          rw [ed]
          intro z1 h1 g1 x1 v rv
          obtain ⟨ds, e1, q1⟩ := go z1 h1 g1 x1
          cases e1
        | dict _ =>
          refine (pi_list he).run pins s σ _ R I ⟨z, env, rfl, g, re, ?_⟩
          rw [ed]
          intro z1 h1 g1 x1 v rv
          obtain ⟨ds, e1, q1⟩ := go z1 h1 g1 x1
          cases e1
theorem di_rng1 (hg : Gl X "range") (hm : X.mg "range" = none) (ha : PE X a (tD X W da)) (hs : starEach [a] X.env = [(false, eval a X.env)]) :
    PI X tg (.Call (.Name "range" p) [a] [] pos) (tI X W (fun env => bindM (da env) fun x => bindM (intOf x) fun j => if -(2 ^ 62) ≤ j ∧ j < 2 ^ 62 then retM (rngL 0 j.toNat) else failM)) := by
  refine ⟨fun pins s σ H R I h => (pi_range1 hg hm (pa_cons ha pa_nil hs) hs).run pins s σ H R I ?_⟩
  unfold iRng1 tCons tNil
  refine tM.bind h fun z1 env x vx g1 re rx fin => ?_
  obtain ⟨j, rfl, fin1⟩ := Fin.intOf g1 fin
  cases rx with | val rx =>
  cases rx
  split at fin1
  · rename_i hc
    exact ⟨j, rfl, hc.1, hc.2, Fin.ret g1 fin1 _ wk_rng⟩
  · exact fin1.elim
theorem di_rng2 (hg : Gl X "range") (hm : X.mg "range" = none) (ha : PE X a (tD X W da)) (hb : PE X b (tD X W db)) (hs : starEach [a, b] X.env = [(false, eval a X.env), (false, eval b X.env)]) (hs2 : starEach [b] X.env = [(false, eval b X.env)]) :
    PI X tg (.Call (.Name "range" p) [a, b] [] pos) (tI X W (fun env => bindM (da env) fun x => bindM (db env) fun y => bindM (intOf x) fun i => bindM (intOf y) fun j =>
      if -(2 ^ 62) ≤ i ∧ i < 2 ^ 62 ∧ -(2 ^ 62) ≤ j ∧ j < 2 ^ 62 then retM (rngL i (j - i).toNat) else failM)) := by
  refine ⟨fun pins s σ H R I h => (pi_range2 hg hm (pa_cons ha (pa_cons hb pa_nil hs2) (by rw [hs, hs2])) hs hs2).run pins s σ H R I ?_⟩
  unfold iRng2 tCons tNil
  refine tM.bind h fun z1 env x vx g1 re rx fin => ?_
  refine ⟨z1, env, rfl, g1, re, (Fin.bind g1 fin).imp (fun y z2 g2 e2 fin2 vy ry => ?_) fun _ _ _ _ _ q => q⟩
  obtain ⟨i, rfl, fin3⟩ := Fin.intOf g2 fin2
  obtain ⟨j, rfl, fin4⟩ := Fin.intOf g2 fin3
  cases rx with | val rx =>
  cases rx
  cases ry with | val ry =>
  cases ry
  split at fin4
  · rename_i hc
    exact ⟨i, j, rfl, hc, Fin.ret g2 fin4 _ wk_rng⟩
  · exact fin4.elim
theorem di_enu {elts : List Expr} {kk : Nat} {tpos : Pos} (hg : Gl X "enumerate") (hm : X.mg "enumerate" = none) (ha : PE X a (tD X W da)) (hs : starEach [a] X.env = [(false, eval a X.env)]) :
    PI X (.Tuple elts kk tpos) (.Call (.Name "enumerate" p) [a] [] pos) (tI X W (fun env => bindM (da env) fun x => bindM (dataOf x) fun d => readM fun _ => (seqD d).map (pairI 0))) := by
  refine ⟨fun pins s σ H R I h => ?_⟩
  obtain ⟨z, env, rfl, g, re, fin⟩ := h
  have q := Fin.bind g fin
  have rl := (pi_enum (elts := elts) (kk := kk) (tpos := tpos) (p := p) (pos := pos) hg hm (pa_cons ha pa_nil hs) hs).run pins s σ z.H R I
  have rt := (pi_enumT (elts := elts) (kk := kk) (tpos := tpos) (p := p) (pos := pos) hg hm (pa_cons ha pa_nil hs) hs).run pins s σ z.H R I
  cases ed : da env z.h with
  | none => rw [ed] at q; exact q.elim
  | some pr =>
    obtain ⟨o, h'⟩ := pr
    rw [ed] at q
    cases o with
    | exc cn fs =>
      refine rl ⟨z, env, rfl, g, re, ?_⟩
      rw [ed]
      exact q
    | ok x =>
      have go : ∀ z1, z1.h = h' → Good X.K z1 → Ext z z1 → ∃ d ds, x = .val d ∧ (seqD d).map (pairI 0) = some ds ∧ ∀ J, WkD X.K z1 J ds → R J z1.H := fun z1 h1 g1 x1 => by
        obtain ⟨d, e0, q0⟩ := Fin.dataOf g1 (q z1 h1 g1 x1)
        obtain ⟨ds, e1, q1⟩ := Fin.read q0
        exact ⟨d, ds, e0, e1, q1 z1 rfl g1 (Ext.refl _)⟩
      by_cases ht : ∃ ts, x = .val (.tuple ts)
      · obtain ⟨ts, rfl⟩ := ht
        refine rt ⟨z, env, rfl, g, re, ?_⟩
        rw [ed]
        intro z1 h1 g1 x1 v rv
        obtain ⟨d, ds, e0, e1, q1⟩ := go z1 h1 g1 x1
        cases e0
        cases e1
        cases rv with | val rv =>
        cases rv with | tup hh r =>
        exact ⟨_, _, rfl, hh, q1 _ (wk_enuT g1 hh r)⟩
      · refine rl ⟨z, env, rfl, g, re, ?_⟩
        rw [ed]
        intro z1 h1 g1 x1 v rv
        obtain ⟨d, ds, e0, e1, q1⟩ := go z1 h1 g1 x1
        subst e0
        cases rv with | val rv =>
        cases rv with
        | lst hh nf r =>
          cases e1
          exact ⟨_, _, rfl, SqL.of hh, q1 _ (wk_enuL g1 (fun z2 _ x2 => SqL.of (x2.keep _ _ hh (g1.nolive nf))) r)⟩
        | tup hh r => exact absurd ⟨_, rfl⟩ ht
        | non => cases e1
        | bl _ => cases e1
        | int _ => cases e1
        | str _ => cases e1
theorem di_zip {elts : List Expr} {kk : Nat} {tpos : Pos} (hg : Gl X "zip") (hm : X.mg "zip" = none) (ha : PE X a (tD X W da)) (hb : PE X b (tD X W db)) (hs : starEach [a, b] X.env = (false, eval a X.env) :: starEach [b] X.env) (hs2 : starEach [b] X.env = (false, eval b X.env) :: starEach [] X.env)
    (hpl : (backTo pos (starEach [b] X.env)).any (·.1) = false) :
    PI X (.Tuple elts kk tpos) (.Call (.Name "zip" p) [a, b] [] pos) (tI X W (fun env => bindM (da env) fun x => bindM (db env) fun y => bindM (dataOf x) fun d => bindM (dataOf y) fun e => readM fun _ => match d, e with
      | .list ds, .list es => some ((ds.zip es).map fun p => .tuple [p.1, p.2])
      | .tuple ds, .tuple es => some ((ds.zip es).map fun p => .tuple [p.1, p.2])
      | _, _ => none)) := by
  refine ⟨fun pins s σ H R I h => (RZ.pi_zipA (elts := elts) (kk := kk) (tpos := tpos) hg hm (pa_cons ha (pa_cons hb pa_nil hs2) hs) hs hpl).run pins s σ H R I ?_⟩
  unfold RZ.iZipA tCons tNil
  refine tM.bind h fun z1 env x vx g1 re rx fin => ?_
  refine ⟨z1, env, rfl, g1, re, (Fin.bind g1 fin).imp (fun y z2 g2 e2 fin2 vy ry => ?_) fun _ _ _ _ _ q => q⟩
  obtain ⟨d, rfl, fin3⟩ := Fin.dataOf g2 fin2
  obtain ⟨e, rfl, fin4⟩ := Fin.dataOf g2 fin3
  obtain ⟨ds, e1, q⟩ := Fin.read fin4
  have q := q z2 rfl g2 (Ext.refl _)
  have rx2 := rx.ext g1 e2
  cases rx2 with | val rx2 =>
  cases ry with | val ry =>
  split at e1
  · cases e1
    cases rx2 with | lst h1 n1 r1 =>
    cases ry with | lst h2 n2 r2 =>
    exact ⟨_, _, _, _, rfl, .inl ⟨SqL.of h1, SqL.of h2, q _ (zipG g2 (fun z3 _ x3 => ⟨SqL.of (x3.keep _ _ h1 (g2.nolive n1)), SqL.of (x3.keep _ _ h2 (g2.nolive n2))⟩) r1 r2 (walk_zip rfl))⟩⟩
  · cases e1
    cases rx2 with | tup h1 r1 =>
    cases ry with | tup h2 r2 =>
    exact ⟨_, _, _, _, rfl, .inr ⟨h1, h2, q _ (zipG g2 (fun z3 _ x3 => ⟨SqT.ext g2 x3 h1, SqT.ext g2 x3 h2⟩) r1 r2 (walk_zipT rfl))⟩⟩
  · cases e1
end
end L2.Cap

set_option maxRecDepth 100000
set_option maxHeartbeats 1000000
namespace L2.Cap
open PySem PySem.Spec PyProof.Rows
/-! ### targets -/
mutual
def Tg.slots : Tg → List Nat
  | .nm i => [i]
  | .tup l => Ts.slots l
  | .sub _ _ => []
def Ts.slots : Ts → List Nat
  | .nil => []
  | .cons t l => t.slots ++ Ts.slots l
end
def AgreeBut (ns : List Nat) (σ σ' : St) : Prop := σ'.length = σ.length ∧ ∀ j : Nat, j ∉ ns → σ'[j]? = σ[j]?
theorem AgreeBut.refl {ns : List Nat} {σ : St} : AgreeBut ns σ σ := ⟨rfl, fun _ _ => rfl⟩
theorem AgreeBut.trans {ns ms : List Nat} {σ σ1 σ2 : St} (a : AgreeBut ns σ σ1) (b : AgreeBut ms σ1 σ2) : AgreeBut (ns ++ ms) σ σ2 :=
  ⟨b.1.trans a.1, fun j h => (b.2 j (fun c => h (List.mem_append_right _ c))).trans (a.2 j fun c => h (List.mem_append_left _ c))⟩
def noX : EXC := fun _ _ _ => False
def tGd (K : PySem.W.Frag) (ns : List Nat) (f : RV → EnvD → M EnvD) : TG := fun v σ H Q => ∃ z env x, z.H = H ∧ Good K z ∧ RepE K z env σ ∧ RepV K z v x ∧
  Fin K z (f x env z.h) (fun env' z' => ∀ σ', RepE K z' env' σ' → AgreeBut ns σ σ' → Q σ' z'.H) noX
def tGs (K : PySem.W.Frag) (ns : List Nat) (f : List PyData → EnvD → M EnvD) : TGs := fun vs σ H Q => ∃ z env ds, z.H = H ∧ Good K z ∧ RepE K z env σ ∧ RepDs K z.F z.H vs ds ∧
  Fin K z (f ds env z.h) (fun env' z' => ∀ σ', RepE K z' env' σ' → AgreeBut ns σ σ' → Q σ' z'.H) noX
theorem PG.imp {X : Cx} {e : Expr} {t t' : TG} (h : PG X e t) (i : ∀ v σ H Q, t' v σ H Q → t v σ H Q) : PG X e t' := ⟨fun pins s σ H v u Q I r q => h.run pins s σ H v u Q I r (i _ _ _ _ q)⟩
theorem PGs.imp {X : Cx} {e : List Expr} {t t' : TGs} (h : PGs X e t) (i : ∀ v σ H Q, t' v σ H Q → t v σ H Q) : PGs X e t' := ⟨fun pins s σ H v u Q I r q => h.run pins s σ H v u Q I r (i _ _ _ _ q)⟩
section
variable {X : Cx} {W : WX} {K : PySem.W.Frag} {z : Z} {a b c e tg : Expr} {es : List Expr} {da db dc : DenE} {dA : DenA} {pos p : Pos}
theorem dg_nm {i : Nat} {x : Str} (hN : X.N.Nodup) (hi : X.N[i]? = some x) (hx : Loc X.env.scope x) (hf : X.fn x = true ∨ X.env.scope.names.lookup x = some .local) : PG X (.Name x pos) (tGd X.K [i] (fun v env => retM (env.set i (some v)))) := by
  refine PG.imp (pg_name hN hi hx hf) ?_
  rintro v σ H Q ⟨z, env, x, rfl, g, re, rv, fin⟩
  refine Fin.ret g fin _ (re.set rv i) ⟨List.length_set .., fun j hj => ?_⟩
  rw [List.getElem?_set_ne]
  intro c
  exact hj (by simp [c])
theorem dgs_nil : PGs X [] (tGs X.K [] (fun ds env => match ds with | [] => retM env | _ :: _ => failM)) := by
  refine PGs.imp pgs_nil ?_
  rintro vs σ H Q ⟨z, env, ds, rfl, g, re, rv, fin⟩
  cases rv with
  | nil => exact ⟨rfl, Fin.ret g fin _ re .refl⟩
  | cons _ _ => exact fin.elim
theorem dgs_cons {ns ms : List Nat} {f : RV → EnvD → M EnvD} {k : List PyData → EnvD → M EnvD} (h1 : PG X e (tGd X.K ns f)) (h2 : PGs X es (tGs X.K ms k)) (hs : (assignEach (e :: es) X.env).map (·.2) = assign e X.env :: (assignEach es X.env).map (·.2)) :
    PGs X (e :: es) (tGs X.K (ns ++ ms) (fun ds env => match ds with | [] => failM | d :: r => bindM (f (.val d) env) fun env2 => k r env2)) := by
  refine PGs.imp (pgs_cons h1 h2 hs) ?_
  rintro vs σ H Q ⟨z, env, ds, rfl, g, re, rv, fin⟩
  cases rv with
  | nil => exact fin.elim
  | cons r1 r2 =>
    refine ⟨_, _, rfl, z, env, _, rfl, g, re, .val r1, (Fin.bind g fin).imp (fun env2 z2 g2 x2 fin2 σ' re2 ag => ?_) fun _ _ _ _ _ q => q⟩
    exact ⟨z2, env2, _, rfl, g2, re2, r2.ext g x2, fin2.imp (fun env3 z3 g3 x3 q σ'' re3 ag3 => q σ'' re3 (ag.trans ag3)) fun _ _ _ _ _ q => q⟩
theorem dg_tup {k n : Nat} {ns : List Nat} {f : List PyData → EnvD → M EnvD} (hc : X.calm = true) (h : PGs X es (tGs X.K ns f)) (hn : (assignEach es X.env).length = n) (hst : (assignEach es X.env).findIdx? (·.1) = none) (hl : ∀ ds env h r, f ds env h = some r → ds.length = n) :
    PG X (.Tuple es k pos) (tGd X.K ns (fun v env => match v with | .val (.tuple ds) => f ds env | _ => failM)) := by
  refine PG.imp (pg_tup hc h hn hst) ?_
  rintro v σ H Q ⟨z, env, x, rfl, g, re, rv, fin⟩
  dsimp only at fin
  split at fin
  · rename_i ds
    cases rv with | val rv =>
    cases rv with | tup hh r =>
    refine ⟨_, _, rfl, hh, ?_, z, env, ds, rfl, g, re, r, fin⟩
    rw [r.length]
    cases e : f ds env z.h with
    | none => rw [e] at fin; exact fin.elim
    | some q => exact hl _ _ _ _ e
  · exact fin.elim
/-- o[i] = v by values -/
theorem putK_rep {k : Key} {v : V} {x : RV} (rv : RepV K z v x) {ws : List (Key × V)} {kvs : List (Key × RV)} (r : Paired (fun (p : Key × V) (q : Key × RV) => p.1 = q.1 ∧ RepV K z p.2 q.2) ws kvs) :
    Paired (fun (p : Key × V) (q : Key × RV) => p.1 = q.1 ∧ RepV K z p.2 q.2) (putK ws k v) (putK' kvs k x) := by
  have any : (ws.any fun kv => decide (kv.1 = k)) = (kvs.any fun kv => decide (kv.1 = k)) := by
    induction r with
    | nil => rfl
    | cons h t ih => rw [List.any_cons, List.any_cons, ih, h.1]
  have mp : Paired (fun (p : Key × V) (q : Key × RV) => p.1 = q.1 ∧ RepV K z p.2 q.2) (ws.map (fun kv => if kv.1 = k then (kv.1, v) else kv)) (kvs.map (fun kv => if kv.1 = k then (kv.1, x) else kv)) := by
    clear any
    induction r with
    | nil => exact .nil
    | @cons p q l1 l2 h t ih =>
      rw [List.map_cons, List.map_cons]
      refine .cons ?_ ih
      by_cases c : q.1 = k
      · rw [if_pos (h.1.trans c), if_pos c]
        exact ⟨h.1, rv⟩
      · rw [if_neg (fun d => c (h.1.symm.trans d)), if_neg c]
        exact h
  have ap : Paired (fun (p : Key × V) (q : Key × RV) => p.1 = q.1 ∧ RepV K z p.2 q.2) (ws ++ [(k, v)]) (kvs ++ [(k, x)]) := by
    clear any mp
    induction r with
    | nil => exact .cons ⟨rfl, rv⟩ .nil
    | cons h t ih => exact .cons h ih
  unfold putK putK'
  rw [any]
  split
  · exact mp
  · exact ap
theorem set_rep : ∀ {vs : List V} {xs : List RV} {v : V} {x : RV} (j : Nat), RepVs K z vs xs → RepV K z v x → RepVs K z (vs.set j v) (xs.set j x)
  | _, _, _, _, _, .nil, _ => .nil
  | _, _, _, _, 0, .cons _ t, r => .cons r t
  | _, _, _, _, j + 1, .cons h t, r => .cons h (set_rep j t r)
def rSetV (K : PySem.W.Frag) : TSet := fun o i v H Q => ∃ (z : Z) (xo xi xv : RV), z.H = H ∧ Good K z ∧ RepV K z o xo ∧ RepV K z i xi ∧ RepV K z v xv ∧ Fin K z (setV xo xi xv z.h) (fun _ z' => Q z'.H) noX
theorem setd (hu : X.A.units + 1 < cLine) : PSet X (rSetV X.K) := by
  intro pins s σ H o i v ov iv u Q I ro ri rv h
  obtain ⟨z, xo, xi, xv, rfl, g, r1, r2, r3, fin⟩ := h
  unfold setV at fin
  split at fin
  · rename_i n k
    cases r1 with | ref hn =>
    cases r2 with | val r2 =>
    cases r2
    split at fin
    · rename_i xs eh
      obtain ⟨_, w, h1, vs, rfl, rr⟩ := g.obj n _ eh rfl
      cases ej : ixN xs.length k with
      | none => rw [ej] at fin; exact fin.elim
      | some j =>
        rw [ej] at fin
        obtain ⟨g2, x2⟩ := g.put (n := n) (o := .lst (xs.set j xv)) (ho := .lst (vs.set j v)) ⟨_, eh, rfl⟩ rfl ⟨_, rfl, set_rep j rr r3⟩
        exact set_list pins s σ _ _ _ _ ov iv u Q I ro ri rv ⟨z.r n, vs, k, j, rfl, rfl, h1, by rw [Paired.length rr]; exact ej, fin _ rfl g2 x2⟩
    · rename_i kvs eh
      split at fin
      · rename_i hl
        obtain ⟨_, w, h1, ws, rfl, rr⟩ := g.obj n _ eh rfl
        obtain ⟨g2, x2⟩ := g.put (n := n) (o := .dct (putK' kvs (.inl k) xv)) (ho := .dK (putK ws (.inl k) v)) ⟨_, eh, rfl⟩ rfl ⟨_, rfl, putK_rep r3 rr⟩
        have ro' : ov = .ref (z.r n) := ro
        subst ro'
        exact d_setItem hu I (DPut.k (k := .inl k) h1 (by rw [Paired.length rr]; exact hl)) ri rv fun s' I' => ⟨_, I', fin _ rfl g2 x2⟩
      · exact fin.elim
    · exact fin.elim
  · rename_i n k
    cases r1 with | ref hn =>
    cases r2 with | val r2 =>
    cases r2
    split at fin
    · rename_i kvs eh
      split at fin
      · rename_i hl
        obtain ⟨_, w, h1, ws, rfl, rr⟩ := g.obj n _ eh rfl
        obtain ⟨g2, x2⟩ := g.put (n := n) (o := .dct (putK' kvs (.inr k) xv)) (ho := .dK (putK ws (.inr k) v)) ⟨_, eh, rfl⟩ rfl ⟨_, rfl, putK_rep r3 rr⟩
        have ro' : ov = .ref (z.r n) := ro
        subst ro'
        exact d_setItem hu I (DPut.k (k := .inr k) h1 (by rw [Paired.length rr]; exact hl)) ri rv fun s' I' => ⟨_, I', fin _ rfl g2 x2⟩
      · exact fin.elim
    · exact fin.elim
  · exact fin.elim
theorem dg_sub {o i : Expr} (hu : X.A.units + 1 < cLine) (ho : PE X o (tD X W da)) (hi : PE X i (tD X W db))
    (ha : ∀ v, assign (.Subscript o i pos) X.env v = (do
      let ov ← holding [v] (eval o X.env)
      let iv ← holding [v, ov] (eval i X.env)
      standAt pos
      holding [v, ov, iv] (setItem ov iv v)
      release [v, ov, iv] [])) : PG X (.Subscript o i pos) (tGd X.K [] (fun v env => bindM (da env) fun x => bindM (db env) fun y => bindM (setV x y v) fun _ => retM env)) := by
  refine PG.imp (pg_sub ho hi (setd hu) ha) ?_
  rintro v σ H Q ⟨z, env, xv, rfl, g, re, rv, fin⟩
  unfold gSub
  refine ⟨z, env, rfl, g, re, (Fin.bind g fin).imp (fun x z1 g1 x1 fin1 vx rx => ?_) fun _ _ _ _ _ q => q.elim⟩
  refine ⟨z1, env, rfl, g1, re.ext g x1, (Fin.bind g1 fin1).imp (fun y z2 g2 x2 fin2 vy ry => ?_) fun _ _ _ _ _ q => q.elim⟩
  refine ⟨z2, x, y, xv, rfl, g2, rx.ext g1 x2, ry, (rv.ext g x1).ext g1 x2, (Fin.bind g2 fin2).imp (fun _ z3 g3 x3 fin3 => ?_) fun _ _ _ _ _ q => q⟩
  exact Fin.ret g3 fin3 σ (((re.ext g x1).ext g1 x2).ext g2 x3) .refl

/-! ### comprehensions -/
theorem wipe_agree {σ σ2 : St} {vs ns : List Nat} (hs : ∀ n ∈ ns, n ∈ vs) (a : AgreeBut ns (wipe σ vs) σ2) : wipe σ2 vs = wipe σ vs := by
  have hin : ∀ (vs : List Nat) (σ : St) (j : Nat), j ∈ vs → j < σ.length → (wipe σ vs)[j]? = some none := by
    intro vs
    induction vs with
    | nil => intro σ j h; cases h
    | cons v vs ih =>
      intro σ j h hj
      unfold wipe
      by_cases e : v = j
      · subst e
        rw [List.getElem?_set_self (by rw [wipe_length]; exact hj)]
      · rw [List.getElem?_set_ne e]
        rcases List.mem_cons.mp h with q | q
        · exact absurd q.symm e
        · exact ih σ j q hj
  have hl : σ2.length = σ.length := by rw [a.1, wipe_length]
  apply List.ext_getElem?
  intro j
  by_cases hj : j < σ.length
  · by_cases hv : j ∈ vs
    · rw [hin vs σ2 j hv (by rw [hl]; exact hj), hin vs σ j hv hj]
    · rw [wipe_out hv, ← a.2 j (fun c => hv (hs j c))]
  · rw [List.getElem?_eq_none (by rw [wipe_length, hl]; exact Nat.not_lt.mp hj), List.getElem?_eq_none (by rw [wipe_length]; exact Nat.not_lt.mp hj)]
theorem wipeD_length (env : EnvD) : ∀ vs : List Nat, (wipeD env vs).length = env.length
  | [] => rfl
  | v :: vs => by unfold wipeD; rw [List.length_set, wipeD_length env vs]
theorem RepE.wipe {env : EnvD} {σ : St} (r : RepE K z env σ) : ∀ vs : List Nat, RepE K z (wipeD env vs) (L2.wipe σ vs)
  | [] => r
  | v :: vs => by
    have ih := RepE.wipe r vs
    refine ⟨?_, fun i x h => ?_⟩
    · show ((wipeD env vs).set v none).length = ((L2.wipe σ vs).set v none).length
      rw [List.length_set, List.length_set]
      exact ih.len
    · have h : ((wipeD env vs).set v none)[i]? = some (some x) := h
      show ∃ w, ((L2.wipe σ vs).set v none)[i]? = _ ∧ _
      by_cases e : v = i
      · subst e
        have hl := (List.getElem?_eq_some_iff.mp h).1
        rw [List.length_set] at hl
        rw [List.getElem?_set_self hl] at h
        cases h
      · rw [List.getElem?_set_ne e] at h ⊢
        exact ih.at' i x h
theorem RepD.low {F F' : Addr → Prop} {H : Hp} (hF : ∀ a, F' a → F a) {v : V} {d : PyData} (r : RepD K F H v d) : RepD K F' H v d :=
  RepD.rec (motive_1 := fun v d _ => RepD K F' H v d) (motive_2 := fun vs ds _ => RepDs K F' H vs ds) .non (fun b => .bl b) (fun i => .int i) (fun x => .str x) (fun h nf _ q => .lst h (fun c => nf (hF _ c)) q) (fun h _ q => .tup h q) .nil (fun _ _ a b => .cons a b) r
theorem RepDs.low {F F' : Addr → Prop} {H : Hp} (hF : ∀ a, F' a → F a) : ∀ {vs : List V} {ds : List PyData}, RepDs K F H vs ds → RepDs K F' H vs ds
  | _, _, .nil => .nil
  | _, _, .cons a b => .cons (a.low hF) (RepDs.low hF b)
/-- behind some turns of a comprehension: D holds what came; no value is D itself -/
structure LcAt (K : PySem.W.Frag) (z1 z : Z) (D : Addr) (acc : List RV) : Prop where
  g : Good K z
  x : Ext z1 z
  list : ∃ vs, z.H D = some (.lst vs) ∧ RepVs K z vs acc
  fD : z.F D
  nl : ∀ n, live z.h n → z.r n ≠ D
section
variable {D : Addr} {o : HO}
def Z.ov (z : Z) (D : Addr) (o : HO) : Z := { z with H := upd z.H D o }
theorem SqT.ov {a : Addr} {xs vs : List V} (hD : z.H D = some (.lst vs)) (h : SqT K z.H a xs) : SqT K (z.ov D o).H a xs := by
  rcases h with (h | ⟨q, h⟩) | h
  · exact .inl (.inl (by show upd z.H D o a = _; rw [upd_ne (fun c => by rw [c, hD] at h; cases h)]; exact h))
  · exact .inl (.inr ⟨q, by show upd z.H D o a = _; rw [upd_ne (fun c => by rw [c, hD] at h; cases h)]; exact h⟩)
  · exact .inr h
theorem RepD.ov {vs : List V} (hD : z.H D = some (.lst vs)) (fD : z.F D) {v : V} {d : PyData} (r : RepD K z.F z.H v d) : RepD K (z.ov D o).F (z.ov D o).H v d :=
  RepD.rec (motive_1 := fun v d _ => RepD K (z.ov D o).F (z.ov D o).H v d) (motive_2 := fun vs ds _ => RepDs K (z.ov D o).F (z.ov D o).H vs ds) .non (fun b => .bl b) (fun i => .int i) (fun x => .str x)
    (fun {a xs ds} h nf _ q => .lst (by show upd z.H D o a = _; rw [upd_ne (fun c => nf (by rw [c]; exact fD))]; exact h) nf q) (fun h _ q => .tup (SqT.ov hD h) q) .nil (fun _ _ a b => .cons a b) r
theorem RepDs.ov {vs0 : List V} (hD : z.H D = some (.lst vs0)) (fD : z.F D) : ∀ {vs : List V} {ds : List PyData}, RepDs K z.F z.H vs ds → RepDs K (z.ov D o).F (z.ov D o).H vs ds
  | _, _, .nil => .nil
  | _, _, .cons a b => .cons (a.ov hD fD) (RepDs.ov hD fD b)
theorem RepV.ov {vs0 : List V} (hD : z.H D = some (.lst vs0)) (fD : z.F D) {v : V} {x : RV} (r : RepV K z v x) : RepV K (z.ov D o) v x := by
  cases r with
  | val r => exact .val (r.ov hD fD)
  | exn n h x => exact RepV.exnTo (fun b u hb h1 _ => by show upd z.H D o b = some u; rw [upd_ne (fun q => by rw [q, hD] at hb; exact h1 _ (Option.some.inj hb).symm)]; exact hb) (fun r => r.ov hD fD) (.exn n h x)
  | ref h => exact .ref (z := z.ov D o) h
theorem Good.ov {vs0 : List V} (g : Good K z) (hD : z.H D = some (.lst vs0)) (fD : z.F D) (nl : ∀ n, live z.h n → z.r n ≠ D) : Good K (z.ov D o) where
  obj := fun n u e hu => by
    obtain ⟨f, w, eh, r⟩ := g.obj n u e hu
    refine ⟨f, w, by show upd z.H D o (z.r n) = _; rw [upd_ne (nl n ⟨u, e, hu⟩)]; exact eh, ?_⟩
    cases u with
    | lst xs => obtain ⟨a, b, c⟩ := r; exact ⟨a, b, Paired.mapP c fun _ _ h => h.ov hD fD⟩
    | dct xs => obtain ⟨a, b, c⟩ := r; exact ⟨a, b, Paired.mapP c fun _ _ h => ⟨h.1, h.2.ov hD fD⟩⟩
    | ro _ => exact r
    | gone => exact r
  ro := fun n d e => by
    rcases g.ro n d e with ⟨w, h1, h2⟩ | r
    rotate_left
    · exact .inr (r.ov hD fD)
    refine .inl ⟨w, ?_, h2.ov hD fD⟩
    rcases h1 with ⟨q, h⟩ | h
    · exact .inl ⟨q, by show upd z.H D o (z.r n) = _; rw [upd_ne (fun c => by rw [c, hD] at h; cases h)]; exact h⟩
    · exact .inr h
  inj := g.inj
  trk := fun a f => by
    show upd z.H D o a ≠ none
    by_cases c : a = D
    · subst c; rw [upd_same]; intro q; cases q
    · rw [upd_ne c]; exact g.trk a f
theorem Ext.ov {z1 : Z} (hn : z1.H D = none) (x : Ext z1 z) : Ext z1 (z.ov D o) where
  len := x.len
  agree := x.agree
  fresh := x.fresh
  dead := x.dead
  keep := fun b u e h => by show upd z.H D o b = _; rw [upd_ne (ne_of_none e hn)]; exact x.keep b u e h
  there := fun b h => by
    show upd z.H D o b ≠ none
    by_cases c : b = D
    · subst c; rw [upd_same]; intro q; cases q
    · rw [upd_ne c]; exact x.there b h
  forb := x.forb
  hold := x.hold
end
theorem Fin.bindAt {A B : Type} {z1 z3 : Z} {m : M A} {k : A → M B} {P : B → Z → Prop} (t : ∀ x, z1.F x → z1.H x ≠ none) (x : Ext z1 z3) (h : Fin K z1 (bindM m k z3.h) P noX) : Fin K z3 (m z3.h) (fun a z4 => Fin K z1 (k a z4.h) P noX) noX := by
  unfold bindM at h
  revert h
  cases m z3.h with
  | none => exact fun h => h
  | some p =>
    obtain ⟨o, h'⟩ := p
    cases o with
    | exc c fs => exact fun h z' e g x' => h z' e g (x.trans x' t)
    | ok a =>
      intro h z4 e4 g4 x4
      rw [e4]
      exact h
theorem lc_turns {X' : Cx} (eK : X'.K = X.K) (emg : X'.mg = X.mg) {J : It} {ds : List PyData} {ns vs : List Nat} {f : RV → EnvD → M EnvD} {dc : EnvD → M Bool} {de : DenE} {σ : St} {env : EnvD} {z1 : Z} {D : Addr} {Qd : Hp → Prop} {P : List RV → Z → Prop}
    (wk : WkD X.K z1 J ds) (g1 : Good X.K z1) (hD : z1.H D = none) (re : RepE X.K z1 env σ) (hs : ∀ n ∈ ns, n ∈ vs)
    (fin : Fin X.K z1 (lcM (fun d e => f (.val d) e) dc de (wipeD env vs) ds [] z1.h) P noX)
    (end_ : ∀ z acc, LcAt X.K z1 z D acc → Fin X.K z1 (some (.ok acc, z.h)) P noX → Qd z.H) :
    ∃ Wv : Nat → Nat → Hp → Prop, (∃ m, Wv 0 m (upd z1.H D (.lst []))) ∧ ∀ i m H, Wv i m H →
      (J.stop i H ∧ Qd H) ∨ (J.go i H ∧ ∃ Nx : Hp → Prop, (∀ H', Nx H' → ∃ m', m' < m ∧ Wv (i + 1) m' H') ∧ ∀ x H', J.yld i H x H' → tGd X.K ns f x (wipe σ vs) H' fun σ2 H2 => wipe σ2 vs = wipe σ vs ∧ tTe X (fun _ _ _ _ => False) dc σ2 H2 fun b H3 =>
        if b = true then tD X (fun _ _ _ _ => False) de σ2 H3 fun y H4 => ∃ acc, H4 D = some (.lst acc) ∧ acc.length < sizeLine ∧ Nx (upd H4 D (.lst (acc ++ [y]))) else Nx H3) := by
  obtain ⟨G, Y, walk, hG, hY⟩ := wk.ex
  let z0 : Z := { z1 with H := upd z1.H D (.lst []), F := fun a => z1.F a ∨ a = D }
  have xn := Ext.new g1 (.lst []) hD
  have gn := g1.new (.lst []) hD
  have x0 : Ext z1 z0 := ⟨xn.len, xn.agree, xn.fresh, xn.dead, xn.keep, xn.there, fun a h => h.elim .inl fun c => .inr (by rw [c]; exact hD), fun a h _ => .inl h⟩
  have up : ∀ {v : V} {d : PyData}, RepD X.K z1.F z1.H v d → RepD X.K z0.F z0.H v d := fun r => r.ext g1 x0
  have g0 : Good X.K z0 := ⟨fun n u e hu => by
      obtain ⟨q, w, eh, r⟩ := gn.obj n u e hu
      refine ⟨.inl q, w, eh, ?_⟩
      obtain ⟨_, w', eh', r'⟩ := g1.obj n u e hu
      have ew : w = w' := by
        have h2 : upd z1.H D (.lst []) (z1.r n) = some w := eh
        rw [upd_ne (ne_of_none eh' hD), eh'] at h2
        exact (Option.some.inj h2).symm
      subst ew
      exact r'.ext g1 x0, fun n d e => by
      exact (g1.ro n d e).ext g1 x0, g1.inj, fun a f => f.elim (fun q => gn.trk a q) fun c => by
      rw [c]
      show upd z1.H D (.lst []) D ≠ none
      rw [upd_same]
      intro q; cases q⟩
  refine lc_it walk (fun i H => ∃ z acc, z.H = H ∧ LcAt X.K z1 z D acc ∧ Fin X.K z1 (lcM (fun d e => f (.val d) e) dc de (wipeD env vs) (ds.drop i) acc z.h) P noX) ?_ ?_ ?_ ?_
  · refine ⟨z0, [], rfl, ⟨g0, x0, ⟨[], upd_same, .nil⟩, .inr rfl, fun n l c => ?_⟩, ?_⟩
    · obtain ⟨u, eu, hu⟩ := l
      obtain ⟨_, w, eh, _⟩ := g1.obj n u eu hu
      have c : z1.r n = D := c
      rw [c, hD] at eh
      cases eh
    · rw [List.drop_zero]
      exact fin
  · rintro i H hi ⟨z, acc, rfl, at_, _⟩
    exact hG z at_.g at_.x
  · rintro i x H H' hi ⟨z, acc, rfl, at_, fin⟩ y
    obtain ⟨gz, xz, ⟨vs0, hD0, rv0⟩, fD, nl⟩ := at_
    obtain ⟨d, z3, hd, e3, h3, g3, x3, r3⟩ := hY i z x H' gz xz y
    subst e3
    have hdrop : ds.drop i = d :: ds.drop (i + 1) := by
      obtain ⟨hl, e⟩ := List.getElem?_eq_some_iff.mp hd
      rw [List.drop_eq_getElem_cons hl, e]
    rw [hdrop, ← h3] at fin
    unfold lcM at fin
    have x13 : Ext z1 z3 := xz.trans x3 g1.trk
    refine ⟨z3, wipeD env vs, .val d, rfl, g3, (re.ext g1 x13).wipe vs, .val r3, (Fin.bindAt g1.trk x13 fin).imp (fun env2 z4 g4 x4 fin4 σ2 re2 ag => ?_) fun _ _ _ _ _ q => q⟩
    have x14 : Ext z1 z4 := x13.trans x4 g1.trk
    refine ⟨wipe_agree hs ag, z4, env2, rfl, g4, re2, (Fin.bindAt g1.trk x14 fin4).imp (fun b z5 g5 x5 fin5 b' eb => ?_) fun _ _ _ _ _ q => q.elim⟩
    subst eb
    have x15 : Ext z1 z5 := x14.trans x5 g1.trk
    have xz5 : Ext z z5 := (x3.trans x4 gz.trk).trans x5 gz.trk
    have D5 : z5.H D = some (.lst vs0) := xz5.keep D _ hD0 nl
    have f5 : z5.F D := xz5.hold D fD nl
    have n5 : ∀ n, live z5.h n → z5.r n ≠ D := xz5.out (by rw [hD0]; intro c; cases c) nl
    have rv5 : RepVs X.K z5 vs0 acc := RepVs.ext gz xz5 rv0
    cases b' with
    | false => exact ⟨z5, acc, rfl, ⟨g5, x15, ⟨vs0, D5, rv5⟩, f5, n5⟩, fin5⟩
    | true =>
      rw [if_pos rfl]
      have fin5 : Fin X.K z1 (bindM (de env2) (fun v => if acc.length < sizeLine then lcM (fun d e => f (.val d) e) dc de (wipeD env vs) (ds.drop (i + 1)) (acc ++ [v]) else failM) z5.h) P noX := fin5
      refine ⟨z5, env2, rfl, g5, re2.ext g4 x5, (Fin.bindAt g1.trk x15 fin5).imp (fun v z6 g6 x6 fin6 vy ry => ?_) fun _ _ _ _ _ q => q.elim⟩
      have D6 : z6.H D = some (.lst vs0) := x6.keep D _ D5 n5
      have f6 : z6.F D := x6.hold D f5 n5
      have n6 : ∀ n, live z6.h n → z6.r n ≠ D := x6.out (by rw [D5]; intro c; cases c) n5
      have rv6 : RepVs X.K z6 vs0 acc := RepVs.ext g5 x6 rv5
      split at fin6
      · rename_i hl
        refine ⟨vs0, D6, by rw [Paired.length rv6]; exact hl, z6.ov D (.lst (vs0 ++ [vy])), acc ++ [v], rfl, ⟨g6.ov D6 f6 n6, Ext.ov hD (x15.trans x6 g1.trk), ⟨_, upd_same, ?_⟩, f6, n6⟩, fin6⟩
        exact RepVs.snoc (Paired.mapP rv6 fun _ _ h => h.ov D6 f6) (ry.ov D6 f6)
      · exact fin6.elim
  · rintro H ⟨z, acc, rfl, at_, fin⟩
    rw [List.drop_length] at fin
    exact end_ z acc at_ fin
end
end L2.Cap

set_option maxRecDepth 100000
set_option maxHeartbeats 1000000
namespace L2.Cap
open PySem PySem.Spec PyProof.Rows
section
variable {X : Cx} {W : WX} {K : PySem.W.Frag} {z : Z} {a b c e tg : Expr} {es : List Expr} {da db dc : DenE} {dA : DenA} {pos p : Pos}
theorem Fin.sure {A : Type} {o : AH → Option (Out A × AH)} {h : AH} {P : A → Z → Prop} {E : EXC} (f : Fin K z (sureM o h) P E) : Fin K z (o h) P noX := by
  unfold sureM at f
  cases e : o h with
  | none => rw [e] at f; exact f.elim
  | some p =>
    obtain ⟨o', h'⟩ := p
    rw [e] at f
    cases o' with
    | ok a => exact f
    | exc c fs => exact f.elim
/-- the list behind a comprehension is data -/
theorem LcAt.data {z1 : Z} {D : Addr} {acc : List RV} {ds : List PyData} (a : LcAt K z1 z D acc) (t : ∀ x, z1.F x → z1.H x ≠ none) (hD : z1.H D = none) (e : vals acc = some ds) :
    ∃ z' : Z, z'.h = z.h ∧ z'.H = z.H ∧ Good K z' ∧ Ext z1 z' ∧ RepD K z'.F z'.H (.ref D) (.list ds) := by
  obtain ⟨vs, hl, rv⟩ := a.list
  have lo : ∀ x, (z.F x ∧ x ≠ D) → z.F x := fun _ h => h.1
  have rvl : ∀ {v : V} {x : RV}, RepV K z v x → RepV K { z with F := fun x => z.F x ∧ x ≠ D } v x := fun r => by
    cases r with
    | val r => exact .val (r.low lo)
    | exn n h x => exact RepV.exnTo (z := z) (z' := { z with F := fun x => z.F x ∧ x ≠ D }) (fun b u hb _ _ => hb) (fun r => r.low lo) (.exn n h x)
    | ref h => exact .ref (z := { z with F := fun x => z.F x ∧ x ≠ D }) h
  refine ⟨{ z with F := fun x => z.F x ∧ x ≠ D }, rfl, rfl, ⟨fun n u eu hu => ?_, fun n d ed => ?_, a.g.inj, fun x h => a.g.trk x h.1⟩, ⟨a.x.len, a.x.agree, a.x.fresh, a.x.dead, a.x.keep, a.x.there, fun x h => a.x.forb x h.1, fun x h n => ⟨a.x.hold x h n, fun q => t x h (by rw [q]; exact hD)⟩⟩, ?_⟩
  · obtain ⟨f, w, eh, r⟩ := a.g.obj n u eu hu
    refine ⟨⟨f, a.nl n ⟨u, eu, hu⟩⟩, w, eh, ?_⟩
    cases u with
    | lst xs => obtain ⟨p, q, r⟩ := r; exact ⟨p, q, Paired.mapP r fun _ _ h => rvl h⟩
    | dct xs => obtain ⟨p, q, r⟩ := r; exact ⟨p, q, Paired.mapP r fun _ _ h => ⟨h.1, rvl h.2⟩⟩
    | ro _ => exact r
    | gone => exact r
  · rcases a.g.ro n d ed with ⟨w, h1, h2⟩ | r
    · exact .inl ⟨w, h1, h2.low lo⟩
    · exact .inr (r.low lo)
  · exact .lst hl (fun q => q.2 rfl) ((vals_rep rv e).low lo)
/-- the list behind a comprehension is an object -/
theorem LcAt.obj {z1 : Z} {D : Addr} {acc : List RV} (a : LcAt K z1 z D acc) (t : ∀ x, z1.F x → z1.H x ≠ none) (hD : z1.H D = none) :
    ∃ z' : Z, z'.h = z.h ++ [.lst acc] ∧ z'.H = z.H ∧ Good K z' ∧ Ext z1 z' ∧ RepV K z' (.ref D) (.ref z.h.length) := by
  obtain ⟨vs, hl, rv⟩ := a.list
  have eH : upd z.H D (.lst vs) = z.H := by
    funext x
    by_cases q : x = D
    · subst q; rw [upd_same, hl]
    · rw [upd_ne q]
  have eF : (fun x => z.F x ∨ x = D) = z.F := by
    funext x
    exact propext ⟨fun h => h.elim id fun q => by rw [q]; exact a.fD, .inl⟩
  have vv : ∀ {v : V} {x : RV}, RepV K z v x → RepV K (z.push D (.lst acc) (.lst vs)) v x := fun r => by
    cases r with
    | val r =>
      refine .val ?_
      show RepD K (fun x => z.F x ∨ x = D) (upd z.H D (.lst vs)) _ _
      rw [eF, eH]
      exact r
    | exn n h x =>
      refine RepV.exnTo (z := z) (z' := z.push D (.lst acc) (.lst vs)) (fun b u hb _ _ => ?_) (fun r => ?_) (.exn n h x)
      · show upd z.H D (.lst vs) b = some u
        rw [eH]
        exact hb
      · show RepD K (fun x => z.F x ∨ x = D) (upd z.H D (.lst vs)) _ _
        rw [eF, eH]
        exact r
    | ref h =>
      rw [← push_lt (p := D) (o := .lst acc) (ho := .lst vs) h]
      exact .ref (by show _ < (z.h ++ [AO.lst acc]).length; rw [List.length_append]; exact Nat.lt_add_right _ h)
  refine ⟨z.push D (.lst acc) (.lst vs), rfl, eH, Good.push' a.g a.nl rfl ⟨vs, rfl, Paired.mapP rv fun _ _ h => vv h⟩ vv (fun r => ?_) (fun r => ?_), Ext.push t hD a.x a.nl, ?_⟩
  · show RepDs K (fun x => z.F x ∨ x = D) (upd z.H D (.lst vs)) _ _
    rw [eF, eH]
    exact r
  · show RoL K (upd z.H D (.lst vs)) _ _
    rw [eH]
    exact r
  · have q : RepV K (z.push D (.lst acc) (.lst vs)) (.ref ((z.push D (.lst acc) (.lst vs)).r z.h.length)) (.ref z.h.length) := .ref (by show _ < (z.h ++ [AO.lst acc]).length; rw [List.length_append]; exact Nat.lt_succ_self _)
    rw [push_at] at q
    exact q
abbrev wNo : WX := fun _ _ _ _ => False
def lcEnd (heap : Bool) (xs : List RV) : M RV := if heap then newM (.lst xs) else bindM (allVal xs) fun ds => retM (.val (.list ds))
theorem lc_read {heap : Bool} {ns vs : List Nat} {dI : EnvD → M (List PyData)} {f : RV → EnvD → M EnvD} {dt : EnvD → M Bool} {de : DenE} {σ : St} {H : Hp} {Q : VK} (hns : ∀ n ∈ ns, n ∈ vs)
    (h : tD X W (fun env => bindM (dI env) fun ds => bindM (sureM (lcM (fun d e => f (.val d) e) dt de (wipeD env vs) ds [])) fun xs => lcEnd heap xs) σ H Q) :
    tLc (tI X W dI) (tGd X.K ns f) (tTe X wNo dt) (tD X wNo de) vs σ H Q := by
  unfold tLc
  refine tM.bind h fun z1 env ds J g1 re wk fin => ?_
  intro D hD
  have fin0 := Fin.sure (Fin.bindZ fin)
  refine lc_turns (X' := X) rfl rfl wk g1 hD re hns fin0 fun z acc at_ q => ?_
  have q := q z rfl at_.g at_.x
  cases heap with
  | true =>
    obtain ⟨z', e1, e2, g', x', r'⟩ := at_.obj g1.trk hD
    rw [← e2]
    exact q z' e1 g' x' _ r'
  | false =>
    unfold lcEnd at q
    rw [if_neg Bool.false_ne_true] at q
    unfold bindM allVal readM at q
    cases e : vals acc with
    | none => rw [e] at q; exact q.elim
    | some ds =>
      rw [e] at q
      obtain ⟨z', e1, e2, g', x', r'⟩ := at_.data g1.trk hD e
      rw [← e2]
      exact q z' e1 g' x' _ (.val r')
theorem de_lc {elt iter : Expr} {ifs : List Expr} {scope : Scope} {own : List (Str × Nat)} {heap : Bool} {ns : List Nat} {dI : EnvD → M (List PyData)} {f : RV → EnvD → M EnvD} {dt : EnvD → M Bool} {de : DenE} (hc : X.calm = true) (hN : X.N.Nodup) (hns : ∀ n ∈ ns, n ∈ own.map (·.2))
    (hi : PI X tg iter (tI X W dI)) (ok : BlkOk X.N X.env.scope scope own)
    (hg : ∀ (s : Shared) (H : Hp) (C : Addr) (cl : List (Str × Addr)) (fp : List Addr), PG (X.blk s H scope (compEnvC scope cl C X.env) fp) tg (tGd X.K ns f))
    (ht : ∀ (s : Shared) (H : Hp) (C : Addr) (cl : List (Str × Addr)) (fp : List Addr), PTs (X.blk s H scope (compEnvC scope cl C X.env) fp) ifs (tTe X wNo dt))
    (he : ∀ (s : Shared) (H : Hp) (C : Addr) (cl : List (Str × Addr)) (fp : List Addr), PE (X.blk s H scope (compEnvC scope cl C X.env) fp) elt (tD X wNo de)) (hs : ∀ x, foldedSetIterable iter X.env x = pure x) :
    PE X (.ListComp elt [⟨tg, iter, ifs, 0⟩] scope pos) (tD X W (fun env => bindM (dI env) fun ds => bindM (sureM (lcM (fun d e => f (.val d) e) dt de (wipeD env (own.map (·.2))) ds [])) fun xs => lcEnd heap xs)) :=
  PE.imp (pe_lc hc hN hi ok hg ht he hs) fun _ _ _ h => lc_read hns h

/-! ### statements -/
def FinS (K : PySem.W.Frag) (mg : Str → Option Value) (W : WX) (D : Ends) (z : Z) : Option (OutS × AH) → Prop
  | none => False
  | some (.next env, h) => ∀ z' σ', z'.h = h → Good K z' → Ext z z' → RepE K z' env σ' → D.nx σ' z'.H
  | some (.brk env, h) => ∀ z' σ', z'.h = h → Good K z' → Ext z z' → RepE K z' env σ' → D.bk σ' z'.H
  | some (.cont env, h) => ∀ z' σ', z'.h = h → Good K z' → Ext z z' → RepE K z' env σ' → D.ct σ' z'.H
  | some (.ret x, h) => ∀ z' v, z'.h = h → Good K z' → Ext z z' → RepV K z' v x → D.rt v z'.H
  | some (.exc c fs env, h) => ∀ z' σ' cls dx, z'.h = h → Good K z' → Ext z z' → RepE K z' env σ' → RepX K mg z' c fs cls dx → W cls dx σ' z'.H
def tS (X : Cx) (W : WX) (d : DenS) : TS := fun D σ H => ∃ z env, z.H = H ∧ Good X.K z ∧ RepE X.K z env σ ∧ FinS X.K X.mg W D z (d env z.h)
theorem FinS.from {mg : Str → Option Value} {D : Ends} {z0 : Z} {o : Option (OutS × AH)} (t : ∀ x, z.F x → z.H x ≠ none) (x : Ext z z0) (h : FinS K mg W D z o) : FinS K mg W D z0 o := by
  cases o with
  | none => exact h
  | some p =>
    obtain ⟨o, h'⟩ := p
    cases o with
    | next env => exact fun z' σ' e g x' r => h z' σ' e g (x.trans x' t) r
    | brk env => exact fun z' σ' e g x' r => h z' σ' e g (x.trans x' t) r
    | cont env => exact fun z' σ' e g x' r => h z' σ' e g (x.trans x' t) r
    | ret v => exact fun z' σ' e g x' r => h z' σ' e g (x.trans x' t) r
    | exc c fs env => exact fun z' σ' cls dx e g x' r => h z' σ' cls dx e g (x.trans x' t) r
/-- an expression ahead of the rest -/
theorem FinS.then {A : Type} {D : Ends} {m : M A} {env : EnvD} {σ : St} {f : A → AH → Option (OutS × AH)} (g : Good X.K z) (re : RepE X.K z env σ) (h : FinS X.K X.mg W D z (andThen m env f z.h)) :
    Fin X.K z (m z.h) (fun a z1 => FinS X.K X.mg W D z1 (f a z1.h)) (wX X.K X.mg W σ) := by
  unfold andThen at h
  revert h
  cases m z.h with
  | none => exact fun h => h
  | some p =>
    obtain ⟨o, h'⟩ := p
    cases o with
    | exc c fs => exact fun h z' e g' x' cls dx r => h z' σ cls dx e g' x' (re.ext g x') r
    | ok a =>
      intro h z1 e1 g1 x1
      have h2 : FinS X.K X.mg W D z (f a h') := h
      subst e1
      exact h2.from g.trk x1
theorem FinS.thenSure {A : Type} {D : Ends} {m : M A} {env : EnvD} {f : A → AH → Option (OutS × AH)} (g : Good X.K z) (h : FinS X.K X.mg W D z (andThen (sureM m) env f z.h)) :
    Fin X.K z (m z.h) (fun a z1 => FinS X.K X.mg W D z1 (f a z1.h)) noX := by
  unfold andThen sureM at h
  revert h
  cases m z.h with
  | none => exact fun h => h
  | some p =>
    obtain ⟨o, h'⟩ := p
    cases o with
    | exc c fs => exact fun h => h.elim
    | ok a =>
      intro h z1 e1 g1 x1
      have h2 : FinS X.K X.mg W D z (f a h') := h
      subst e1
      exact h2.from g.trk x1
/-- the first expression of a statement -/
theorem tS.then {A B : Type} {Ra : Z → A → B → Prop} {m : EnvD → M A} {f : EnvD → A → AH → Option (OutS × AH)} {D : Ends} {σ : St} {H : Hp} {Q : B → Hp → Prop} (h : tS X W (fun env => andThen (m env) env (f env)) D σ H)
    (n : ∀ z1 env a b, Good X.K z1 → RepE X.K z1 env σ → Ra z1 a b → FinS X.K X.mg W D z1 (f env a z1.h) → Q b z1.H) : tM X.K X.mg W Ra m σ H Q := by
  obtain ⟨z, env, rfl, g, re, fin⟩ := h
  exact ⟨z, env, rfl, g, re, (FinS.then g re fin).imp (fun a z1 g1 x1 q b r => n z1 env a b g1 (re.ext g x1) r q) fun _ _ _ _ _ q => q⟩
theorem ds_asg {ns : List Nat} {f : RV → EnvD → M EnvD} (he : PE X e (tD X W da)) (hg : PG X tg (tGd X.K ns f)) (hs : swapsWithSole [tg] e pos.line X.env = pure false) (hw : swappedStores [tg] e X.env = pure none) (h1 : (assignEach [tg] X.env).map (·.2) = [assign tg X.env]) :
    PS X (.Assign [tg] e pos) (tS X W (fun env => andThen (da env) env fun x => andThen (sureM (f x env)) env fun env2 h => some (.next env2, h))) := by
  refine PS.imp (ps_asg he hg hs hw h1) fun D σ H h => ?_
  unfold tAsg
  refine tS.then h fun z1 env x v g1 re rv fin => ?_
  exact ⟨z1, env, x, rfl, g1, re, rv, (FinS.thenSure g1 fin).imp (fun env2 z2 g2 x2 q σ' re2 _ => q z2 σ' rfl g2 (Ext.refl _) re2) fun _ _ _ _ _ q => q⟩
/-- name = [..] on one line -/
theorem ds_setLc {i : Nat} {y : Str} {py spos : Pos} {elt iter : Expr} {ifs : List Expr} {scope : Scope} {own : List (Str × Nat)} {heap : Bool} {ns : List Nat} {dI : EnvD → M (List PyData)} {f : RV → EnvD → M EnvD} {dt : EnvD → M Bool} {de : DenE} (hc : X.calm = true) (hN : X.N.Nodup) (hns : ∀ n ∈ ns, n ∈ own.map (·.2))
    (hy : X.N[i]? = some y) (hyl : X.env.scope.names.lookup y = some .local) (hsw : swapsWith (.ListComp elt [⟨tg, iter, ifs, 0⟩] scope pos) (some (.Name y py)) spos.line X.env = pure true)
    (hi : PI X tg iter (tI X W dI)) (ok : BlkOk X.N X.env.scope scope own)
    (hg : ∀ (s : Shared) (H : Hp) (C : Addr) (cl : List (Str × Addr)) (fp : List Addr), PG (X.blk s H scope (compEnvC scope cl C X.env) fp) tg (tGd X.K ns f))
    (ht : ∀ (s : Shared) (H : Hp) (C : Addr) (cl : List (Str × Addr)) (fp : List Addr), PTs (X.blk s H scope (compEnvC scope cl C X.env) fp) ifs (tTe X wNo dt))
    (he : ∀ (s : Shared) (H : Hp) (C : Addr) (cl : List (Str × Addr)) (fp : List Addr), PE (X.blk s H scope (compEnvC scope cl C X.env) fp) elt (tD X wNo de)) (hs : ∀ x, foldedSetIterable iter X.env x = pure x) :
    PS X (.Assign [.Name y py] (.ListComp elt [⟨tg, iter, ifs, 0⟩] scope pos) spos) (tS X W (fun env => andThen (bindM (dI env) fun ds => bindM (sureM (lcM (fun d e => f (.val d) e) dt de (wipeD env (own.map (·.2))) ds [])) fun xs => lcEnd heap xs) env fun x => andThen (sureM (retM (env.set i (some x)))) env fun env2 h => some (.next env2, h))) := by
  refine PS.imp (ps_setLc hc hN hy hyl hsw hi ok hg ht he hs) fun D σ H h => ?_
  unfold tAsg
  refine lc_read (heap := heap) hns ?_
  refine tS.then h fun z1 env x v g1 re rv fin => ?_
  have q := FinS.thenSure g1 fin
  exact Fin.ret g1 q z1 _ rfl g1 (Ext.refl _) (re.set rv i)
theorem ds_expr (he : PE X e (tD X W da)) (hs : swapsWith e none pos.line X.env = pure false) : PS X (.Expr e pos) (tS X W (fun env => andThen (da env) env fun _ h => some (.next env, h))) := by
  refine PS.imp (ps_expr he hs) fun D σ H h => ?_
  unfold tDrop
  exact tS.then h fun z1 env x v g1 re rv fin => fin z1 σ rfl g1 (Ext.refl _) re
theorem ds_ret (he : PE X e (tD X W da)) : PS X (.Return (some e) pos) (tS X W (fun env => andThen (da env) env fun x h => some (.ret x, h))) := by
  refine PS.imp (ps_ret he) fun D σ H h => ?_
  unfold tRet
  exact tS.then h fun z1 env x v g1 re rv fin => fin z1 v rfl g1 (Ext.refl _) rv
theorem ds_ret0 : PS X (.Return none pos) (tS X W (fun _ h => some (.ret (.val .none), h))) := by
  refine PS.imp ps_retN ?_
  rintro D σ H ⟨z, env, rfl, g, re, fin⟩
  exact fin z .non rfl g (Ext.refl _) (.val .non)
theorem ds_brk : PS X (.Break pos) (tS X W (fun env h => some (.brk env, h))) := by
  refine PS.imp ps_break ?_
  rintro D σ H ⟨z, env, rfl, g, re, fin⟩
  exact fin z σ rfl g (Ext.refl _) re
theorem ds_cnt : PS X (.Continue pos) (tS X W (fun env h => some (.cont env, h))) := by
  refine PS.imp ps_continue ?_
  rintro D σ H ⟨z, env, rfl, g, re, fin⟩
  exact fin z σ rfl g (Ext.refl _) re
theorem ds_pas : PS X (.Pass pos) (tS X W (fun env h => some (.next env, h))) := by
  refine PS.imp ps_pass ?_
  rintro D σ H ⟨z, env, rfl, g, re, fin⟩
  exact fin z σ rfl g (Ext.refl _) re
theorem ds_doc {x j pos'} : PS X (.Expr (.Constant (.str x) j pos) pos') (tS X W (fun env h => some (.next env, h))) := by
  refine PS.imp ps_doc ?_
  rintro D σ H ⟨z, env, rfl, g, re, fin⟩
  exact fin z σ rfl g (Ext.refl _) re
theorem ds_if {bs cs : List Stmt} {dt : EnvD → M Bool} {db dc : DenS} (ht : PT X c (tTe X W dt)) (hb : PSs X bs (tS X W db)) (hc : PSs X cs (tS X W dc)) :
    PS X (.If c bs cs pos) (tS X W (fun env => andThen (dt env) env fun k => if k then db env else dc env)) := by
  refine PS.imp (ps_if ht hb hc) fun D σ H h => ?_
  unfold tIfS
  refine tS.then h fun z1 env k b g1 re e fin => ?_
  subst e
  cases b with
  | true => exact ⟨z1, env, rfl, g1, re, fin⟩
  | false => exact ⟨z1, env, rfl, g1, re, fin⟩
theorem dss_nil : PSs X [] (tS X W (fun env h => some (.next env, h))) := by
  refine PSs.imp pss_nil ?_
  rintro D σ H ⟨z, env, rfl, g, re, fin⟩
  exact fin z σ rfl g (Ext.refl _) re
theorem dss_cons {st : Stmt} {rest : List Stmt} {d1 d2 : DenS} (h1 : PS X st (tS X W d1)) (h2 : PSs X rest (tS X W d2)) : PSs X (st :: rest) (tS X W (fun env h => match d1 env h with
    | some (.next e, h') => d2 e h'
    | r => r)) := by
  refine PSs.imp (pss_cons h1 h2) ?_
  rintro D σ H ⟨z, env, rfl, g, re, fin⟩
  refine ⟨z, env, rfl, g, re, ?_⟩
  dsimp only at fin
  revert fin
  cases e : d1 env z.h with
  | none => exact fun h => h
  | some p =>
    obtain ⟨o, h'⟩ := p
    cases o with
    | next env2 =>
      intro fin z' σ' e' g' x' r'
      subst e'
      exact ⟨z', env2, rfl, g', r', FinS.from g.trk x' fin⟩
    | brk _ => exact fun h => h
    | cont _ => exact fun h => h
    | ret _ => exact fun h => h
    | exc _ _ _ => exact fun h => h
end
end L2.Cap

set_option maxRecDepth 100000
set_option maxHeartbeats 1000000
namespace L2.Cap
open PySem PySem.Spec PyProof.Rows
section
variable {X : Cx} {W : WX} {K : PySem.W.Frag} {z : Z} {a b c e tg : Expr} {es : List Expr} {da db dc : DenE} {dA : DenA} {pos p : Pos}
theorem drop_at {A : Type} {xs : List A} {i : Nat} {x : A} (h : xs[i]? = some x) : xs.drop i = x :: xs.drop (i + 1) := by
  obtain ⟨hl, e⟩ := List.getElem?_eq_some_iff.mp h
  rw [List.drop_eq_getElem_cons hl, e]
theorem ds_for {iter : Expr} {body : List Stmt} {ns : List Nat} {dI : EnvD → M (List PyData)} {f : RV → EnvD → M EnvD} {db : DenS} (hp : PassesOwn (model X.prog X.w) X.A X.env X.xe) (hc : X.calm = true) (hi : PI X tg iter (tI X W dI)) (hg : PG X tg (tGd X.K ns f)) (hb : PSs X body (tS X W db))
    (hs : ∀ x, foldedSetIterable iter X.env x = pure x) : PS X (.For tg iter body [] pos) (tS X W (fun env => andThen (dI env) env fun ds => loopS (fun d e => f (.val d) e) db ds env)) := by
  refine PS.imp (ps_for hp hc hi hg hb hs) fun D σ H h => ?_
  unfold tFor
  refine tS.then h fun z1 env ds J g1 re wk fin => ?_
  obtain ⟨G, Y, walk, hG, hY⟩ := wk.ex
  refine for_it walk (fun i σ H => ∃ z env, z.H = H ∧ Good X.K z ∧ Ext z1 z ∧ RepE X.K z env σ ∧ FinS X.K X.mg W D z (loopS (fun d e => f (.val d) e) db (ds.drop i) env z.h)) ?_ ?_ ?_ ?_
  · exact ⟨z1, env, rfl, g1, Ext.refl _, re, fin⟩
  · rintro i σ H hi ⟨z, env, rfl, g, x, re, _⟩
    exact hG z g x
  · rintro i x σ H H' hi ⟨z, env, rfl, g, x1, re, fin⟩ y
    obtain ⟨d, z3, hd, e3, h3, g3, x3, r3⟩ := hY i z x H' g x1 y
    subst e3
    rw [drop_at hd, ← h3] at fin
    unfold loopS at fin
    have fin := FinS.from g.trk x3 fin
    refine ⟨z3, env, .val d, rfl, g3, re.ext g x3, .val r3, (FinS.thenSure g3 fin).imp (fun env2 z4 g4 x4 fin4 σ2 re2 _ => ?_) fun _ _ _ _ _ q => q⟩
    refine ⟨z4, env2, rfl, g4, re2, ?_⟩
    have x14 : Ext z1 z4 := (x1.trans x3 g1.trk).trans x4 g1.trk
    revert fin4
    cases e : db env2 z4.h with
    | none => exact fun h => h
    | some p =>
      obtain ⟨o, h'⟩ := p
      cases o with
      | next env3 =>
        intro fin4 z5 σ5 e5 g5 x5 r5
        subst e5
        exact ⟨z5, env3, rfl, g5, x14.trans x5 g1.trk, r5, FinS.from g4.trk x5 fin4⟩
      | cont env3 =>
        intro fin4 z5 σ5 e5 g5 x5 r5
        subst e5
        exact ⟨z5, env3, rfl, g5, x14.trans x5 g1.trk, r5, FinS.from g4.trk x5 fin4⟩
      | brk env3 => exact fun h => h
      | ret v => exact fun h => h
      | exc c fs env3 => exact fun h => h
  · rintro σ H ⟨z, env, rfl, g, x, re, fin⟩
    rw [List.drop_length] at fin
    exact fin z σ rfl g (Ext.refl _) re
theorem ds_while {body : List Stmt} {dt : EnvD → M Bool} {db : DenS} {n : Nat} (hp : PassesOwn (model X.prog X.w) X.A X.env X.xe) (hc : PT X c (tTe X W dt)) (hb : PSs X body (tS X W db)) : PS X (.While c body [] pos) (tS X W (fun env => whileS dt db n env)) := by
  refine PS.imp (ps_while hp hc hb) ?_
  rintro D σ H ⟨z, env, rfl, g, re, fin⟩
  refine ⟨fun m σ H => ∃ z env, z.H = H ∧ Good X.K z ∧ RepE X.K z env σ ∧ FinS X.K X.mg W D z (whileS dt db m env z.h), ⟨n, z, env, rfl, g, re, fin⟩, ?_⟩
  rintro m σ H ⟨z, env, rfl, g, re, fin⟩
  cases m with
  | zero => exact fin.elim
  | succ m =>
    unfold whileS at fin
    refine ⟨z, env, rfl, g, re, (FinS.then g re fin).imp (fun k z1 g1 x1 fin1 b eb => ?_) fun _ _ _ _ _ q => q⟩
    subst eb
    cases b with
    | false => exact fin1 z1 σ rfl g1 (Ext.refl _) (re.ext g x1)
    | true =>
      refine ⟨fun σ' H' => ∃ z env, z.H = H' ∧ Good X.K z ∧ RepE X.K z env σ' ∧ FinS X.K X.mg W D z (whileS dt db m env z.h), fun σ' H' q => ⟨m, Nat.lt_succ_self m, q⟩, z1, env, rfl, g1, re.ext g x1, ?_⟩
      revert fin1
      rw [if_pos rfl]
      cases e : db env z1.h with
      | none => exact fun h => h
      | some p =>
        obtain ⟨o, h'⟩ := p
        cases o with
        | next env3 =>
          intro fin4 z5 σ5 e5 g5 x5 r5
          subst e5
          exact ⟨z5, env3, rfl, g5, r5, FinS.from g1.trk x5 fin4⟩
        | cont env3 =>
          intro fin4 z5 σ5 e5 g5 x5 r5
          subst e5
          exact ⟨z5, env3, rfl, g5, r5, FinS.from g1.trk x5 fin4⟩
        | brk env3 => exact fun h => h
        | ret v => exact fun h => h
        | exc c fs env3 => exact fun h => h
theorem ds_par2 {i j : Nat} {x y : Str} {px py pt : Pos} {kt k2 pt2} (hc : X.calm = true) (hN : X.N.Nodup) (hi : X.N[i]? = some x) (hj : X.N[j]? = some y) (hij : i ≠ j)
    (hx : X.env.scope.names.lookup x = some .local) (hy : X.env.scope.names.lookup y = some .local) (ha : PA X [a, b] (tA X W dA))
    (hw : swappedStores [.Tuple [.Name x px, .Name y py] kt pt] (.Tuple [a, b] k2 pt2) X.env = pure (some [x, y]))
    (hs : swapsWithSole [.Tuple [.Name x px, .Name y py] kt pt] (.Tuple [a, b] k2 pt2) pos.line X.env = pure false) :
    PS X (.Assign [.Tuple [.Name x px, .Name y py] kt pt] (.Tuple [a, b] k2 pt2) pos) (tS X W (fun env => andThen (dA env) env fun xs h => match setAll [i, j] xs env with
      | some e => some (.next e, h)
      | none => none)) := by
  refine PS.imp (ps_par hc hN hi hj hij hx hy ha hw hs) fun D σ H h => ?_
  unfold tPar
  refine tS.then h fun z1 env xs vs g1 re rv fin => ?_
  cases rv with
  | nil => exact fin.elim
  | cons r1 rv =>
    cases rv with
    | nil => exact fin.elim
    | cons r2 rv =>
      cases rv with
      | nil => exact ⟨_, _, rfl, fin z1 _ rfl g1 (Ext.refl _) ((re.set r1 i).set r2 j)⟩
      | cons _ _ => exact fin.elim
theorem ds_par3 {i j l : Nat} {x y w : Str} {px py pz pt : Pos} {kt k2 pt2} (hc : X.calm = true) (hN : X.N.Nodup) (hi : X.N[i]? = some x) (hj : X.N[j]? = some y) (hl : X.N[l]? = some w) (hij : i ≠ j) (hil : i ≠ l) (hjl : j ≠ l)
    (hx : X.env.scope.names.lookup x = some .local) (hy : X.env.scope.names.lookup y = some .local) (hz : X.env.scope.names.lookup w = some .local) (ha : PA X [a, b, c] (tA X W dA))
    (hw : swappedStores [.Tuple [.Name x px, .Name y py, .Name w pz] kt pt] (.Tuple [a, b, c] k2 pt2) X.env = pure (some [x, y, w]))
    (hs : swapsWithSole [.Tuple [.Name x px, .Name y py, .Name w pz] kt pt] (.Tuple [a, b, c] k2 pt2) pos.line X.env = pure false) :
    PS X (.Assign [.Tuple [.Name x px, .Name y py, .Name w pz] kt pt] (.Tuple [a, b, c] k2 pt2) pos) (tS X W (fun env => andThen (dA env) env fun xs h => match setAll [i, j, l] xs env with
      | some e => some (.next e, h)
      | none => none)) := by
  refine PS.imp (ps_par3 hc hN hi hj hl hij hil hjl hx hy hz ha hw hs) fun D σ H h => ?_
  unfold tPar3
  refine tS.then h fun z1 env xs vs g1 re rv fin => ?_
  cases rv with
  | nil => exact fin.elim
  | cons r1 rv =>
    cases rv with
    | nil => exact fin.elim
    | cons r2 rv =>
      cases rv with
      | nil => exact fin.elim
      | cons r3 rv =>
        cases rv with
        | nil => exact ⟨_, _, _, rfl, fin z1 _ rfl g1 (Ext.refl _) (((re.set r1 i).set r2 j).set r3 l)⟩
        | cons _ _ => exact fin.elim
def Op2.py : Op2 → Operator
  | .add => .Add
  | .sub => .Sub
  | .mul => .Mult
  | .fdiv => .FloorDiv
  | .mod => .Mod
  | .pow => .Pow
theorem opd_aug : ∀ o : Op2, PIp X o.py (rD2 X.K (augF o))
  | .add => by
    show OpR X (inplaceOp .Add) _
    refine OpR.imp iop_add ?_
    rintro x y H Q ⟨z, a, b, d, rfl, g, ra, rb, e, q⟩
    unfold augF at e
    split at e
    case h_1 => cases e; exact ⟨_, _, ra.int, rb.int, q.here g (.int _)⟩
    all_goals first | contradiction | cases e
  | .sub => by
    show OpR X (inplaceOp .Sub) _
    refine OpR.imp iop_sub ?_
    rintro x y H Q ⟨z, a, b, d, rfl, g, ra, rb, e, q⟩
    unfold augF at e
    split at e
    case h_2 => cases e; exact ⟨_, _, ra.int, rb.int, q.here g (.int _)⟩
    all_goals first | contradiction | cases e
  | .mul => by
    show OpR X (inplaceOp .Mult) _
    refine OpR.imp iop_mul ?_
    rintro x y H Q ⟨z, a, b, d, rfl, g, ra, rb, e, q⟩
    unfold augF at e
    split at e
    case h_3 =>
      split at e
      · rename_i hc
        cases e
        exact ⟨_, _, ra.int, rb.int, hc, q.here g (.int _)⟩
      · cases e
    all_goals first | contradiction | cases e
  | .fdiv => by
    rintro pins s σ H x y v u Q I r1 r2 ⟨z, a, b, d, rfl, g, ra, rb, e, q⟩
    cases e
  | .mod => by
    rintro pins s σ H x y v u Q I r1 r2 ⟨z, a, b, d, rfl, g, ra, rb, e, q⟩
    cases e
  | .pow => by
    rintro pins s σ H x y v u Q I r1 r2 ⟨z, a, b, d, rfl, g, ra, rb, e, q⟩
    cases e
theorem ds_aug {i : Nat} {x : Str} {o : Op2} {pos' : Pos} (hN : X.N.Nodup) (hi : X.N[i]? = some x) (hx : Loc X.env.scope x) (he : PE X e (tD X W da)) (hf : X.fn x = true ∨ X.env.scope.names.lookup x = some .local) :
    PS X (.AugAssign (.Name x pos') o.py e pos) (tS X W (fun env => andThen (slotM env i) env fun x => andThen (da env) env fun y => andThen (two (augF o) x y) env fun v h => some (.next (env.set i (some v)), h))) := by
  refine PS.imp (ps_aug hN hi hx he (opd_aug o) hf) ?_
  rintro D σ H ⟨z, env, rfl, g, re, fin⟩
  have fin := FinS.then g re fin
  unfold slotM at fin
  cases e : env[i]? with
  | none => rw [e] at fin; exact fin.elim
  | some q =>
    cases q with
    | none => rw [e] at fin; exact fin.elim
    | some v =>
      rw [e] at fin
      obtain ⟨w, h1, h2⟩ := re.at' i v e
      have fin := Fin.ret g fin
      refine ⟨w, h1, z, env, rfl, g, re, (FinS.then g re fin).imp (fun y z1 g1 x1 fin1 vy ry => ?_) fun _ _ _ _ _ q => q⟩
      have re1 := re.ext g x1
      exact two_rd g1 (h2.ext g x1) ry (FinS.then g1 re1 fin1) fun d z' hh g' x' q v' r' => q z' _ rfl g' (Ext.refl _) ((re1.ext g1 x').set (.val r') i)
end
end L2.Cap

set_option maxRecDepth 100000
set_option maxHeartbeats 4000000
namespace L2.Cap
open PySem PySem.Spec PySem.W PySem.Calls PyProof.Rows Builtin Builtin.ObjectAttr
/-! ### an own exception is made: C(v), its __init__ says super().__init__(x), then perhaps self.f = v -/
section
variable {prog : Program} {w : World} {A : Around} {E : Value → Shared → Prop} {R : Result → Shared → Prop} {h : Heap} {g : Array GenState} {d : Drawn} {t : Nat} {os : OsState}
variable {K : Frag} {C : Addr} {B newId i : String} {bmB : List Value}
/-- the built-in __init__, bound to the new one, is called -/
theorem mw_call (FB : ExcBaseFacts B newId i bmB) (X : K.In h) (q : excInitIn K C bmB newId = true) {u e t0 : Addr} {rest : List Value} {Q : Value → Shared → Prop} (he : h.get? e = some (HandSPX.excO C t0)) (hu : h.get? u = some (kxs_mw i e)) (hz : rest.length ≤ sizeLine)
    (hq : ∀ h' t1, (∀ b o, b ≠ e → h.get? b = some o → h'.get? b = some o) → h'.get? e = some (HandSPX.excO C t1) → Q .none ⟨h', g, d, t, os⟩) : wpAny (model prog w) A (call (.ref u) rest) Q E ⟨h, g, d, t, os⟩ := by
  obtain ⟨nm, N', qn, bs, bm, hdct, sn, sub, ab, col, dd, k0, k1, k2, k3, k5, hC, hT⟩ := excInit_of X q
  refine wpAny_call (codeAny_of_tree ?_)
  show wpAny _ A.in1 (callAny (.ref u) ⟨rest, []⟩) _ _ _
  simp only [callAny]
  refine wpAny_bind (wpAny_load hu ?_)
  have m1 : (Value.type "method-wrapper" == Value.type "method" || Value.type "method-wrapper" == Value.type "builtin_function_or_method" || Value.type "method-wrapper" == Value.type "method-wrapper") = true := by decide
  simp only [kxs_mw, m1, if_true]
  refine KFB.if_so (by decide) (wpAny_bind (check_bound_init FB.toExcCallFacts hC he rfl (wpAny_bind (wpAny_pure (wpAny_pure ?_)))))
  refine ⟨plainId_quiet FB.init.plain _, codeAny_builtin FB.initEntry ?_⟩
  exact exc_init_tree (cls := .ref C) (t0 := t0) (dv := none) (c2 := .none) (c3 := .none) (b4 := .bool false) he hz fun h' k e' _ => hq h' _ k e'
/-- self.f = v on the new one, that has no dict as yet -/
theorem exc_set (SF : StoreFacts B bmB "object.__setattr__" "object") (X : K.In h) (ho : excOver K C bmB = true) (hs : findIn K (.ref C) "__setattr__" = some (some (.builtin "object.__setattr__"))) {f : Str} (hn : findIn K (.ref C) f = some none) (hd : hasDictIn K C = true)
    {x t0 : Addr} {v : Value} {Q : Unit → Shared → Prop} (hx : h.get? x = some (HandSPX.excO C t0))
    (hq : ∀ h' tk' dx, (∀ b o, b ≠ x → h.get? b = some o → h'.get? b = some o) → h.objs.size ≤ dx → dx ≠ x → h'.get? x = some { cls := .ref C, dict := some dx, data := .fields #[.ref t0, .none, .none, .none, .bool false, .none] } →
      h'.Ns1 dx (fun y => if y = f then some v else none) → Q () ⟨h', g, d, tk', os⟩) : wpAny (model prog w) A (setAttr (.ref x) f v) Q E ⟨h, g, d, t, os⟩ := by
  have I : InstAt h x (HandSPX.excO C t0) C none := ⟨hx, rfl, rfl, trivial⟩
  have hxs : x ≠ h.objs.size := Nat.ne_of_lt (Heap.lt_size hx)
  refine set_plain X I hs (osa_openX SF (s := ⟨h, g, d, t + 1, os⟩) X I ho (r := none) (by unfold takerIn; rw [hn]; rfl) fun b => ?_)
  obtain ⟨cd, hc, hh⟩ := any_some hd
  have hcls : Looks (model prog w) h (classData C) cd := looks_clsIn X hc
  obtain ⟨nm, bs, mro, ns, qn, hdi, sn, sb, ab, col, del⟩ := cd
  dsimp only at hh
  subst hh
  dsimp only
  unfold storeInOwnDict ownDictForStores
  repeat (first | with_reducible refine HandSPX.store_in_new ?_ ?_ | with_reducible refine wpAny_loadPart_at hx ?_ | with_reducible refine hcls.at ?_ | wp_step)
  · exact ⟨_, #[], _, (Heap.get?_update_ne _ _ _ _ hxs.symm).trans (Heap.get?_push_at rfl rfl), rfl, fun e he => absurd he (by simp), fun _ => rfl⟩
  · intro h' tk' hn' hs'
    have hx₁ : (h.push { cls := .type "dict", data := .dict #[] }).get? x = some (HandSPX.excO C t0) := Heap.get?_push_of_some _ hx
    refine hq h' tk' h.objs.size (fun b o hb ho => ?_) (Nat.le_refl _) hxs.symm ?_ hn'
    · exact (hs'.2 b (Nat.ne_of_lt (Heap.lt_size ho))).trans ((Heap.get?_update_ne _ _ _ _ hb).trans (Heap.get?_push_of_some _ ho))
    · exact (hs'.2 x hxs).trans (Heap.get?_update_self _ hx₁ rfl)
end
end L2.Cap

set_option maxRecDepth 100000
set_option maxHeartbeats 4000000
namespace L2.Cap
open PySem PySem.Spec PySem.W PySem.Calls PyProof.Rows Builtin Builtin.ObjectAttr
/-- what is written of an own exception class and of its __init__ -/
structure XCl (prog : Program) (K : Frag) (C : Addr) (B newId i : String) (bmB : List Value) (fI cc cda : Addr) (qual : Str) (params : Arguments) (body : List Stmt) (scope : Scope) : Prop where
  ini : excInitIn K C bmB newId = true
  over : excOver K C bmB = true
  fnd : findIn K (.ref C) "__init__" = some (some (.ref fI))
  typ : typeIn K (.ref fI) = some (.type "function")
  lk : ∃ oc od osl nm kV doc pm an ct, K.lookup fI = some ⟨oc, od, .func (ksFn nm qual params body scope .none kV doc pm an (.ref cda) ct cc), osl⟩
  code : codeIn K (.ref cda) qual = true
  file : ∃ ccl cdd vs ccs fl tf, K.lookup cda = some ⟨ccl, cdd, .fields vs, ccs⟩ ∧ vs[2]? = some (.str fl tf) ∧ ((prog.main.file : Str) == fl) = true
  cell : ∃ cl cld csl, K.lookup cc = some ⟨cl, cld, .cell (some (.ref C)), csl⟩
  sup : nsIn K mainGlobals "super" = some none
  along : ks_superIn K C C "__init__" = some (some (.builtin i))
  sub : mroIn K C (.ref C) = some true
  subB : subIn K (.ref C) (.type B) = some true
  opq : nsIn K cStatics "thirdparty.any" = some none
  set : findIn K (.ref C) "__setattr__" = some (some (.builtin "object.__setattr__"))
  hd : hasDictIn K C = true
  keep : keepIn K (.ref C) = true
  isE : subIn K (.ref C) (.type "BaseException") = some true
  tyC : typeIn K (.ref C) = some (.type "type")
section
variable {prog : Program} {w : World} {A : Around} {E : Value → Shared → Prop} {R : Result → Shared → Prop} {h : Heap} {g : Array GenState} {d : Drawn} {t : Nat} {os : OsState}
variable {K : Frag} {C fI cc cda L e : Addr} {B newId i : String} {bmB : List Value} {qual : Str} {params : Arguments} {body : List Stmt} {scope : Scope} {m mg mb : Str → Option Value}
/-- super().__init__(x) in the __init__ of the new exception at e -/
theorem super_init (FB : ExcBaseFacts B newId i bmB) (KF : KxsFacts B i) (T : XCl prog K C B newId i bmB fI cc cda qual params body scope) (X : K.In h) (hg : h.Ns mainGlobals mg) (hb : h.Ns builtinsNs mb) (hbb : ∀ y : Str, y ≠ "__name__" → mb y = bootBuiltins y)
    (htop : (prog.main.scope.names.lookup ("super" : Str)).isSome = false) {ar : Arg} (hp : (params.posonlyargs ++ params.args).head? = some ar) (hns : h.Ns L m) (hm : m ar.arg = some (.ref e)) {t0 : Addr} (he : h.get? e = some (HandSPX.excO C t0))
    (hk : scope.kind = .function) (hks : scope.names.lookup ("super" : Str) = some .globalImplicit) (hkc : scope.names.lookup ("__class__" : Str) = some .free) (hka : scope.names.lookup ar.arg = some .local)
    {p0 p1 p2 p3 p4 : Pos} (hline : (p2.endLine == p3.line) = true) {x : Expr} {c : List Stmt} {Q : Flow → Shared → Prop} (hs : starEach [x] (ksEnv qual scope L fI (.ref cda) cc) = [(false, eval x (ksEnv qual scope L fI (.ref cda) cc))])
    (hx : ∀ {h1 : Heap} {t1 : Nat} {Q1 : Value → Shared → Prop} {E1 : Value → Shared → Prop}, h1.Ns L m → (∀ v t2, Q1 v ⟨h1, g, d, t2, os⟩) → wpAny (model prog w) A (eval x (ksEnv qual scope L fI (.ref cda) cc)) Q1 E1 ⟨h1, g, d, t1, os⟩)
    (hq : ∀ h' t' t1, (∀ b o, b ≠ e → h.get? b = some o → h'.get? b = some o) → h'.get? e = some (HandSPX.excO C t1) → Q .next ⟨h', g, d, t', os⟩) :
    _root_.PySem.wpAt (model prog w) A (.func c (ksEnv qual scope L fI (.ref cda) cc)) (exec (.Expr (.Call (.Attribute (.Call (.Name "super" p0) [] [] p1) "__init__" p2) [x] [] p3) p4) (ksEnv qual scope L fI (.ref cda) cc)) Q E ⟨h, g, d, t, os⟩ := by
  obtain ⟨oc, od, osl, nm, kV, doc, pm, an, ct, hlk⟩ := T.lk
  obtain ⟨ccl, cdd, vs, ccs, fl, tf, hcode, hvs, hfile⟩ := T.file
  obtain ⟨cl, cld, csl, hcell⟩ := T.cell
  obtain ⟨nm', N', qn, bs, bm, hdct, sn, sub, ab, col, dd, k0, k1, k2, k3, k5, hC, hT⟩ := excInit_of X T.ini
  have hec : e ≠ C := fun z => by rw [z, hC] at he; cases he
  refine ks_wpAt_Expr_any (hi := ?hi) ?_
  case hi => unfold interactive; rw [show (ksEnv qual scope L fI (.ref cda) cc).scope.kind = .function from hk]; rfl
  refine ks_wpAt_MethodCall (pl := do return (← importBound (.Call (.Name "super" p0) [] [] p1) (ksEnv qual scope L fI (.ref cda) cc)).getD true) (he := ?he) ?_
  case he =>
    have few : methodCallForm 1 (backTo p3 (starEach [x] (ksEnv qual scope L fI (.ref cda) cc))) [] = true := by rw [hs]; rfl
    show (do
      let ov ← attributeBase (.Call (.Name "super" p0) [] [] p1) "__init__" (ksEnv qual scope L fI (.ref cda) cc) (eval (.Call (.Name "super" p0) [] [] p1) (ksEnv qual scope L fI (.ref cda) cc))
      standAt p2.atName
      methodCall (.Call (.Name "super" p0) [] [] p1) "__init__" p2 p3 (ksEnv qual scope L fI (.ref cda) cc) ov 1 (backTo p3 (starEach [x] (ksEnv qual scope L fI (.ref cda) cc))) []) = _
    unfold methodCall calleeOf methodCallPos
    simp only [few, if_true, hline, Bool.not_true, Bool.false_or, pure_bind]
    try rfl
  refine ks_wpAt_super_base (env := ksEnv qual scope L fI (.ref cda) cc) hks hkc (by decide) rfl (X _ _ hlk) rfl hp rfl (X _ _ hcode) rfl hvs hfile htop ?_
  refine ks_loadName_global hk hks (loadGlobal_builtin (env := ksEnv qual scope L fI (.ref cda) cc) hg (mg_none_of X hg T.sup) hb ((hbb _ (by decide +kernel)).trans (show bootBuiltins "super" = some (.type "super") by decide +kernel)) ⟨rfl, ?_⟩)
  refine wpAny_loadName_free hk hkc rfl ⟨_, X _ _ hcell, rfl⟩ ?_
  refine wpAny_loadName_local hk hka hns hm ?_
  refine ks_wpAny_isType_cls hC rfl ⟨rfl, ?_⟩
  refine ks_wpAny_call_super hC rfl he rfl (fun c z => by cases z) (looks_mroIn X T.sub) fun h3 e3 k3 => ?_
  have X3 : K.In h3 := X.keeps k3
  have he3 := k3 _ _ he
  have hm3 : ∃ cd, clsIn K C = some cd ∧ alongIn K "__init__" ((cd.mro.dropWhile (· != .ref C)).drop 1) = some (some (.builtin i)) := by
    have q := T.along
    unfold ks_superIn at q
    cases hc : clsIn K C with
    | none => rw [hc] at q; cases q
    | some cd => rw [hc] at q; exact ⟨cd, rfl, q⟩
  obtain ⟨cd, hcd, hal⟩ := hm3
  have I3 : InstAt h3 e (HandSPX.excO C t0) C none := ⟨he3, rfl, rfl, trivial⟩
  refine kxs_getMethod KF e3 (looks_opaque X3 T.opq) (l₀ := cd.mro) (fun A Q E s k q => wpAny_bind ((looks_clsIn X3 hcd) A _ E s k (wpAny_pure q))) rfl X3 hal (I3.type.andThen (looks_subIn X3 T.subB)) hec (by decide) ?_
  rw [hs]
  refine kxs_callWith (i := i) (x := e) rfl (evalArgs_plain (spliced_cons ?_))
  have k4 : ∀ b o, h3.get? b = some o → (h3.push (kxs_mw i e)).get? b = some o := fun b o z => Heap.get?_push_of_some _ z
  have hu : (h3.push (kxs_mw i e)).get? h3.objs.size = some (kxs_mw i e) := Heap.get?_push_size _ rfl
  refine hx (hns.keeps fun b o z => k4 b o (k3 b o z)) fun v t2 => spliced_nil ⟨hu, ?_⟩
  exact mw_call FB (X3.keeps k4) T.ini (k4 _ _ he3) hu (by show 1 ≤ sizeLine; rw [sizeLine_eq]; omega) fun h5 t5 k5 he5 => hq h5 _ t5 (fun b o hb z => k5 b o hb (k4 _ _ (k3 _ _ z))) he5
/-- where the frame of the new one's __init__ begins -/
theorem init_run (FB : ExcBaseFacts B newId i bmB) (T : XCl prog K C B newId i bmB fI cc cda qual params body scope) (X : K.In h) (hlim : h.NoLimit) (hroom : A.depth + 1 < recursionLimit) {y : Str} {v : Value}
    (hbind : ∀ (nm : Str) (kV doc pm : Value) (an : Option Addr) (ct a b : Value), bindArgs (ksFn nm qual params body scope .none kV doc pm an (.ref cda) ct cc) ⟨[a, b], []⟩ = pure [(("self" : Str), a), (y, b)])
    (hcell : ∀ x ∈ scope.names, x.2 ≠ .cell) (hl1 : scope.names.lookup ("self" : Str) = some .local) (hl2 : scope.names.lookup y = some .local) (hco : scope.isCoroutine = false) (hgen : scope.isGenerator = false) (hk : scope.kind = .function)
    (hq : ∀ (A' : Around) (e L : Addr) (h1 : Heap) (t1 t0 : Nat), (∀ b o, h.get? b = some o → h1.get? b = some o) → h.objs.size ≤ e → h1.get? e = some (HandSPX.excO C t0) → h1.Ns L (fun x => ([("self", Value.ref e), (y, v)] : List (Str × Value)).reverse.lookup x) → e ≠ L → h.objs.size ≤ L →
      _root_.PySem.wpAt (model prog w) A' (.func body (ksEnv qual scope L fI (.ref cda) cc)) (execs body (ksEnv qual scope L fI (.ref cda) cc)) (fun f s' => f = .next ∧ R (.ok (.ret (.ref e))) s') (fun _ _ => False) ⟨h1, g, d, t1, os⟩) :
    codeAny (model prog w) A (.call (.ref C) ⟨[v], []⟩) R ⟨h, g, d, t, os⟩ := by
  obtain ⟨oc, od, osl, nm, kV, doc, pm, an, ct, hlk⟩ := T.lk
  obtain ⟨nm', N', qn, bs, bm, hdct, sn, sub, ab, col, dd, k0, k1, k2, k3, k5, hC, hT⟩ := excInit_of X T.ini
  refine HandSPX.call_own FB hT hC (looks_findIn X T.fnd) (fun self => bind_fn X self T.typ) (by show 1 ≤ sizeLine; rw [sizeLine_eq]; omega) ?_
  have k1' : ∀ b o, h.get? b = some o → ((h.push (kdv_tup [v])).push (HandSPX.excO C h.objs.size)).get? b = some o := fun b o z => Heap.get?_push_of_some _ (Heap.get?_push_of_some _ z)
  have he : ((h.push (kdv_tup [v])).push (HandSPX.excO C h.objs.size)).get? (h.objs.size + 1) = some (HandSPX.excO C h.objs.size) := by heap_get
  have X1 := X.keeps k1'
  refine ks_codeAny_call_defAt (fd := ksFn nm qual params body scope .none kV doc pm an (.ref cda) ct cc) (body := body) (binds := [(("self" : Str), Value.ref (h.objs.size + 1)), (y, v)]) ?_ (X1 _ _ hlk) rfl (hlim.keeps k1') (codeRec_of X1 T.code) rfl ?_ hcell ?_ (fun h2 hns k2 => ?_) hco hgen hk
  · rw [make_depth]; omega
  · exact BindsTo.of_eq (hbind _ _ _ _ _ _ _ _)
  · intro x hx
    simp only [List.mem_cons, List.not_mem_nil, or_false] at hx
    rcases hx with rfl | rfl
    · exact hl1
    · exact hl2
  · refine ks_wpAt_mono (hq _ (h.objs.size + 1) ((h.push (kdv_tup [v])).push (HandSPX.excO C h.objs.size)).objs.size h2 _ h.objs.size (fun b o z => k2 b o (k1' b o z)) (Nat.le_succ _) (k2 _ _ he) hns ?_ ?_) (fun f s' z => ?_) fun _ _ z => z.elim
    · exact Nat.ne_of_lt (Heap.lt_size he)
    · exact Nat.le_trans (Nat.le_succ _) (Nat.le_of_lt (Heap.lt_size he))
    · obtain ⟨rfl, z⟩ := z
      exact ⟨rfl, z⟩
/-- C(v), with a field: the new object, its dict -/
theorem make_A (FB : ExcBaseFacts B newId i bmB) (KF : KxsFacts B i) (SF : StoreFacts B bmB "object.__setattr__" "object") {y f txt : Str} {v : Value} {p0 p1 p2 p3 p4 p5 p6 p7 p8 p9 : Pos} {j : Nat} (hline : (p2.endLine == p3.line) = true)
    (T : XCl prog K C B newId i bmB fI cc cda qual params [.Expr (.Call (.Attribute (.Call (.Name "super" p0) [] [] p1) "__init__" p2) [.Constant (.str txt) j p5] [] p3) p4, .Assign [.Attribute (.Name "self" p6) f p7] (.Name y p8) p9] scope)
    (X : K.In h) (hg : h.Ns mainGlobals mg) (hb : h.Ns builtinsNs mb) (hbb : ∀ y : Str, y ≠ "__name__" → mb y = bootBuiltins y) (htop : (prog.main.scope.names.lookup ("super" : Str)).isSome = false) (hlim : h.NoLimit) (hroom : A.depth + 1 < recursionLimit)
    (hbind : ∀ (nm : Str) (kV doc pm : Value) (an : Option Addr) (ct a b : Value), bindArgs (ksFn nm qual params [.Expr (.Call (.Attribute (.Call (.Name "super" p0) [] [] p1) "__init__" p2) [.Constant (.str txt) j p5] [] p3) p4, .Assign [.Attribute (.Name "self" p6) f p7] (.Name y p8) p9] scope .none kV doc pm an (.ref cda) ct cc) ⟨[a, b], []⟩ = pure [(("self" : Str), a), (y, b)])
    {ar : Arg} (hp : (params.posonlyargs ++ params.args).head? = some ar) (har : ar.arg = "self") (hsy : y ≠ "self") (hyd : (y == ("__debug__" : Str)) = false)
    (hcell : ∀ x ∈ scope.names, x.2 ≠ .cell) (hl1 : scope.names.lookup ("self" : Str) = some .local) (hl2 : scope.names.lookup y = some .local) (hco : scope.isCoroutine = false) (hgen : scope.isGenerator = false) (hk : scope.kind = .function)
    (hks : scope.names.lookup ("super" : Str) = some .globalImplicit) (hkc : scope.names.lookup ("__class__" : Str) = some .free) (hno : findIn K (.ref C) f = some none)
    (hq : ∀ h' t' a t1 dx, (∀ b o, h.get? b = some o → h'.get? b = some o) → h.objs.size ≤ a → h.objs.size ≤ dx → dx ≠ a → h'.get? a = some { cls := .ref C, dict := some dx, data := .fields #[.ref t1, .none, .none, .none, .bool false, .none] } →
      h'.Ns1 dx (fun y => if y = f then some v else none) → R (.ok (.ret (.ref a))) ⟨h', g, d, t', os⟩) :
    codeAny (model prog w) A (.call (.ref C) ⟨[v], []⟩) R ⟨h, g, d, t, os⟩ := by
  refine init_run FB T X hlim hroom hbind hcell hl1 hl2 hco hgen hk fun A' e L h1 t1 t0 k1 sz he hns heL hL => ?_
  have m1 : (fun x => ([(("self" : Str), Value.ref e), (y, v)] : List (Str × Value)).reverse.lookup x) ar.arg = some (.ref e) := by
    rw [har]
    have : (("self" : Str) == y) = false := by simpa using (Ne.symm hsy)
    simp [List.lookup, this]
  have m2 : (fun x => ([(("self" : Str), Value.ref e), (y, v)] : List (Str × Value)).reverse.lookup x) y = some v := by simp [List.lookup]
  have m3 : (fun x => ([(("self" : Str), Value.ref e), (y, v)] : List (Str × Value)).reverse.lookup x) "self" = some (.ref e) := har ▸ m1
  have lb : ∀ b o, h.get? b = some o → b ≠ e := fun b o z => Nat.ne_of_lt (Nat.lt_of_lt_of_le (Heap.lt_size z) sz)
  refine ks_wpAt_execs_cons (super_init FB KF T (X.keeps k1) (hg.keeps k1) (hb.keeps k1) hbb htop hp hns m1 he hk hks hkc (by rw [har]; exact hl1) hline rfl (fun _ q => Constant_str (q _ _)) fun h2 t2 t3 k2 he2 => ?_)
  have ns2 : h2.Ns L (fun x => ([(("self" : Str), Value.ref e), (y, v)] : List (Str × Value)).reverse.lookup x) := by
    obtain ⟨oL, es, ep, z, r⟩ := hns
    exact ⟨oL, es, ep, k2 _ _ (Ne.symm heL) z, r⟩
  have k12 : ∀ b o, h.get? b = some o → h2.get? b = some o := fun b o z => k2 b o (lb b o z) (k1 b o z)
  refine ks_wpAt_execs_cons (ks_wpAt_Assign_Attr (wpAt_of_wpAny (ESX.ldL ns2 m2 (ESX.ldL ns2 m3 ?_ hk hl1) hk hl2 hyd)))
  refine exc_set SF (X.keeps k12) T.over T.set hno T.hd he2 fun h3 t4 dx k3 dn dne he3 hn3 => ?_
  refine wpAt_of_wpAny (wpAny_execs_nil ⟨rfl, hq h3 t4 e t3 dx (fun b o z => k3 b o (lb b o z) (k12 b o z)) sz (Nat.le_trans sz (Nat.le_trans (Nat.le_of_lt (Heap.lt_size he2)) dn)) dne he3 hn3⟩)
/-- C(v), without a field -/
theorem make_B (FB : ExcBaseFacts B newId i bmB) (KF : KxsFacts B i) {y : Str} {v : Value} {p0 p1 p2 p3 p4 p5 : Pos} (hline : (p2.endLine == p3.line) = true)
    (T : XCl prog K C B newId i bmB fI cc cda qual params [.Expr (.Call (.Attribute (.Call (.Name "super" p0) [] [] p1) "__init__" p2) [.Name y p5] [] p3) p4] scope)
    (X : K.In h) (hg : h.Ns mainGlobals mg) (hb : h.Ns builtinsNs mb) (hbb : ∀ y : Str, y ≠ "__name__" → mb y = bootBuiltins y) (htop : (prog.main.scope.names.lookup ("super" : Str)).isSome = false) (hlim : h.NoLimit) (hroom : A.depth + 1 < recursionLimit)
    (hbind : ∀ (nm : Str) (kV doc pm : Value) (an : Option Addr) (ct a b : Value), bindArgs (ksFn nm qual params [.Expr (.Call (.Attribute (.Call (.Name "super" p0) [] [] p1) "__init__" p2) [.Name y p5] [] p3) p4] scope .none kV doc pm an (.ref cda) ct cc) ⟨[a, b], []⟩ = pure [(("self" : Str), a), (y, b)])
    {ar : Arg} (hp : (params.posonlyargs ++ params.args).head? = some ar) (har : ar.arg = "self") (hsy : y ≠ "self") (hyd : (y == ("__debug__" : Str)) = false)
    (hcell : ∀ x ∈ scope.names, x.2 ≠ .cell) (hl1 : scope.names.lookup ("self" : Str) = some .local) (hl2 : scope.names.lookup y = some .local) (hco : scope.isCoroutine = false) (hgen : scope.isGenerator = false) (hk : scope.kind = .function)
    (hks : scope.names.lookup ("super" : Str) = some .globalImplicit) (hkc : scope.names.lookup ("__class__" : Str) = some .free)
    (hq : ∀ h' t' a t1, (∀ b o, h.get? b = some o → h'.get? b = some o) → h.objs.size ≤ a → h'.get? a = some (HandSPX.excO C t1) → R (.ok (.ret (.ref a))) ⟨h', g, d, t', os⟩) :
    codeAny (model prog w) A (.call (.ref C) ⟨[v], []⟩) R ⟨h, g, d, t, os⟩ := by
  refine init_run FB T X hlim hroom hbind hcell hl1 hl2 hco hgen hk fun A' e L h1 t1 t0 k1 sz he hns heL hL => ?_
  have m1 : (fun x => ([(("self" : Str), Value.ref e), (y, v)] : List (Str × Value)).reverse.lookup x) ar.arg = some (.ref e) := by
    rw [har]
    have : (("self" : Str) == y) = false := by simpa using (Ne.symm hsy)
    simp [List.lookup, this]
  have m2 : (fun x => ([(("self" : Str), Value.ref e), (y, v)] : List (Str × Value)).reverse.lookup x) y = some v := by simp [List.lookup]
  have lb : ∀ b o, h.get? b = some o → b ≠ e := fun b o z => Nat.ne_of_lt (Nat.lt_of_lt_of_le (Heap.lt_size z) sz)
  refine ks_wpAt_execs_cons (super_init FB KF T (X.keeps k1) (hg.keeps k1) (hb.keeps k1) hbb htop hp hns m1 he hk hks hkc (by rw [har]; exact hl1) hline rfl (fun n q => ESX.ldL n m2 (q _ _) hk hl2 hyd) fun h2 t2 t3 k2 he2 => ?_)
  exact wpAt_of_wpAny (wpAny_execs_nil ⟨rfl, hq h2 t2 e t3 (fun b o z => k2 b o (lb b o z) (k1 b o z)) sz he2⟩)
end
end L2.Cap

set_option maxRecDepth 100000
set_option maxHeartbeats 4000000
namespace L2.Cap
open PySem PySem.Spec PySem.W PySem.Calls PyProof.Rows
/-! ### except (A, B, ..): any number of classes -/
section
variable {M : Model} {K : Frag} {A : Around} {E : Value → Shared → Prop} {s : Shared} {cls : Value}
theorem exm_loop1 {β : Type} {u : β} {f : Value → β → Sem (ForInStep β)} (hf : ∀ c b1, exmOne K cls c = some b1 → ∀ Q : ForInStep β → Shared → Prop, Q (.yield u) s → wpAny M A (f c u) Q E s) :
    ∀ (cs : List Value) (d : Bool), exmAny K cls cs = some d → ∀ Q : β → Shared → Prop, Q u s → wpAny M A (forIn cs u f) Q E s
  | [], d, _, Q, q => by rw [List.forIn_nil]; exact wpAny_pure q
  | c :: cs, d, h, Q, q => by
    obtain ⟨b1, d1, h1, h2, _⟩ := exmAny_cons h
    rw [List.forIn_cons]
    exact wpAny_bind (hf c b1 h1 _ (exm_loop1 hf cs d1 h2 Q q))
theorem exm_loop2 {β : Type} {u v : β} {f : Value → β → Sem (ForInStep β)} (hf : ∀ c b1, exmOne K cls c = some b1 → ∀ Q : ForInStep β → Shared → Prop, Q (if b1 then .done v else .yield u) s → wpAny M A (f c u) Q E s) :
    ∀ (cs : List Value) (d : Bool), exmAny K cls cs = some d → ∀ Q : β → Shared → Prop, Q (if d then v else u) s → wpAny M A (forIn cs u f) Q E s
  | [], d, h, Q, q => by
    cases (Option.some.inj h)
    rw [List.forIn_nil]
    exact wpAny_pure q
  | c :: cs, d, h, Q, q => by
    obtain ⟨b1, d1, h1, h2, e⟩ := exmAny_cons h
    subst e
    rw [List.forIn_cons]
    refine wpAny_bind (hf c b1 h1 _ ?_)
    cases b1 with
    | true => exact wpAny_pure q
    | false => exact exm_loop2 hf cs d1 h2 Q (by simpa using q)
theorem exm_tups {cs : List Value} {tp e : Addr} {b : Bool} {h : Heap} (X : K.In h) (LT : Looks M h (typeOf (.ref e)) cls) (hp : h.get? tp = some { cls := .type "tuple", data := .seq cs.toArray }) (hx : exmAny K cls cs = some b) :
    Looks M h (excMatches (.ref e) (.ref tp)) b := by
  intro A Q E s k₀ q
  obtain ⟨hh, g, d, tk, os⟩ := s
  have k : ∀ b o, h.get? b = some o → hh.get? b = some o := k₀
  have LT0 : Looks M h (isInstance (.ref tp) (.type "tuple")) true := ((Looks.ld hp).andThen .now).andThen (Looks.of_pure isSubtype_tuple_tuple)
  have L1 := LT.keeps k
  have hp' := k _ _ hp
  unfold excMatches
  refine wpAny_bind ((LT0.keeps k).at ?_)
  dsimp only
  rw [if_pos rfl]
  first
    | refine wpAny_bind (wpAny_seqItems hp' rfl ?_)
    | refine wpAny_bind (wpAny_bind (wpAny_seqItems hp' rfl (wpAny_pure ?_)))
  dsimp only [Option.getD_some, Option.getD]
  refine wpAny_bind (wpAny_pure ?_)
  refine wpAny_bind (exm_loop1 (K := K) (cls := cls) (fun c b1 h1 Q q => ?_) _ b hx _ ?_)
  · obtain ⟨e1, S1⟩ := exm_cls (M := M) X h1
    refine wpAny_bind ((e1.keeps k).at ?_)
    exact wpAny_pure q
  · refine wpAny_bind (L1.at ?_)
    refine wpAny_bind (exm_loop2 (K := K) (cls := cls) (v := (some true, ())) (fun c b1 h1 Q q => ?_) _ b hx _ ?_)
    · obtain ⟨e1, S1⟩ := exm_cls (M := M) X h1
      refine wpAny_bind ((S1.keeps k).at ?_)
      cases b1 with
      | true => exact wpAny_pure q
      | false => exact wpAny_pure q
    · cases b <;> exact wpAny_pure q
end
end L2.Cap

set_option maxRecDepth 100000
set_option maxHeartbeats 4000000
namespace L2.Cap
open PySem PySem.Spec PySem.W PySem.Calls PyProof.Rows
/-- how the new exception's dict lies -/
def DX (h h' : Heap) (a : Addr) (dx : Option Addr) (f : Option Str) (v : Value) : Prop := match f, dx with
  | none, none => True
  | some fn, some dd => h.objs.size ≤ dd ∧ dd ≠ a ∧ h'.Ns1 dd (fun y => if y = fn then some v else none)
  | _, _ => False
/-- an own exception class: how it is made, asked, read -/
structure XOk (prog : Program) (K : Frag) (C : Addr) (f : Option Str) (fl : List Str) : Prop where
  make : ∀ {w : World} {A : Around} {R : Result → Shared → Prop} {h : Heap} {g : Array GenState} {d : Drawn} {t : Nat} {os : OsState} {mg mb : Str → Option Value} {v : Value}, K.In h → h.Ns mainGlobals mg → h.Ns builtinsNs mb → (∀ y : Str, y ≠ "__name__" → mb y = bootBuiltins y) → h.NoLimit → A.depth + 1 < recursionLimit →
    (∀ h' t' a t1 dx, (∀ b o, h.get? b = some o → h'.get? b = some o) → h.objs.size ≤ a → h'.get? a = some ({ cls := .ref C, dict := dx, data := .fields #[.ref t1, .none, .none, .none, .bool false, .none] } : Obj) → DX h h' a dx f v → R (.ok (.ret (.ref a))) ⟨h', g, d, t', os⟩) →
    codeAny (model prog w) A (.call (.ref C) ⟨[v], []⟩) R ⟨h, g, d, t, os⟩
  keep : keepIn K (.ref C) = true
  tyC : typeIn K (.ref C) = some (.type "type")
  ex : ExcC K C
  no : ∀ fn, fn ∈ fl → findIn K (.ref C) fn = some none
section
variable {X : Cx} {W : WX} {e : Expr} {te : TE} {p pos : Pos}
def tMkX (C : Addr) (f : Option Str) (te : TE) : St → Hp → XK → Prop := fun σ H Q => te σ H fun v H1 => match f with
  | none => Q (.ref C) none H1
  | some fn => ∀ dx, H1 dx = none → Q (.ref C) (some dx) (upd H1 dx (.xd [(fn, v)]))
theorem pmk_x {x : Str} {C : Addr} {f : Option Str} {fl : List Str} {k : Nat} (T : XOk X.prog X.K C f fl) (hr : Room k X.A) (hg : Gl X x) (hm : X.mg x = some (.ref C)) (he : PE X e te) (hdb : (x == ("__debug__" : Str)) = false) (hs : starEach [e] X.env = [(false, eval e X.env)]) :
    PMk X (.Call (.Name x p) [e] [] pos) (tMkX C f te) := by
  intro pins s σ H Q I h
  refine wpAny_Call_Name_kw (ld_glob I hg hm ?_ hdb)
  refine PySem.W.callWith_K (h₀ := X.base) I.ok.mod.kin T.keep ?_ hs rfl
  rw [hs]
  show wpAny _ _ (spliced ((false, eval e X.env) :: backTo pos [])) _ _ s
  refine spliced_cons (thn (he.run pins s σ H _ I h) fun u s1 ⟨v, H1, I1, r1, q1⟩ => ?_)
  refine spliced_nil ⟨I1.kIn, ?_⟩
  show wpAny _ _ (call (.ref C) [u]) _ _ _
  obtain ⟨mb, hb1, hb2⟩ := I1.mod.blt
  obtain ⟨hp, g, dr, tk, os⟩ := s1
  refine wpAny_call (T.make I1.kIn (I1.mod.glob.keeps I1.bk) (hb1.keeps I1.bk) hb2 I1.nolimit (by have := hr.dp; omega) fun h' t' a t1 dx k sz hget hdx => ?_)
  obtain ⟨G, g1, g2⟩ := restrict h' fun b => decide (b ≠ a)
  have gk : ∀ b, b ≠ a → G.get? b = h'.get? b := fun b hb => g1 b (decide_eq_true hb)
  have ge : G.get? a = none := g2 a (by simp)
  have lb : ∀ b o, hp.get? b = some o → b ≠ a := fun b o z => Nat.ne_of_lt (Nat.lt_of_lt_of_le (Heap.lt_size z) sz)
  have kG : ∀ b o, hp.get? b = some o → G.get? b = some o := fun b o z => (gk b (lb b o z)).trans (k b o z)
  have up : ∀ b o, G.get? b = some o → h'.get? b = some o := fun b o z => by
    by_cases hb : b = a
    · rw [hb, ge] at z; cases z
    · exact (gk b hb).symm.trans z
  have na : H1 a = none := I1.hok.fresh sz
  cases f with
  | none =>
    cases dx with
    | some _ => exact hdx.elim
    | none => exact ⟨a, _, _, ⟨G, g, dr, t', os⟩, H1, .ref C, none, rfl, I1.kept (t' := t') kG, up, ge, hget, ⟨rfl, rfl⟩, rfl, rfl, na, rfl, I1.bare, raises_own T.ex.hs T.tyC, q1⟩
  | some fn =>
    cases dx with
    | none => exact hdx.elim
    | some dd =>
      obtain ⟨sd, dne, hn⟩ := hdx
      have nd : H1 dd = none := I1.hok.fresh sd
      have hG : hp.get? dd = none := by
        cases z : hp.get? dd with
        | none => rfl
        | some o => exact absurd (Nat.lt_of_lt_of_le (Heap.lt_size z) sd) (Nat.lt_irrefl _)
      have hnG : G.Ns1 dd (fun y => if y = fn then some u else none) := hn.at fun o z => (gk dd dne).trans z
      have J : Inv X pins σ (upd H1 dd (.xd [(fn, v)])) ⟨G, g, dr, t', os⟩ := I1.laidN (t' := t') kG hG nd ⟨_, hnG, relO_put (fs := []) r1 fun g => True.intro⟩
      exact ⟨a, _, _, ⟨G, g, dr, t', os⟩, _, .ref C, some dd, rfl, J, up, ge, hget, ⟨rfl, rfl⟩, rfl, rfl, by rw [upd_ne (Ne.symm dne)]; exact na, rfl, I1.bare, raises_own T.ex.hs T.tyC, q1 dd nd⟩
theorem ds_rai {x : Str} {C : Addr} {f : Option Str} {fl : List Str} {k : Nat} {da : DenE} {pos' : Pos} (hc : X.calm = true) (tk : Takes X W) (T : XOk X.prog X.K C f fl) (hr : Room k X.A) (hg : Gl X x) (hm : X.mg x = some (.ref C)) (he : PE X e (tD X W da)) (hdb : (x == ("__debug__" : Str)) = false) (hs : starEach [e] X.env = [(false, eval e X.env)]) :
    PS X (.Raise (some (.Call (.Name x p) [e] [] pos)) none pos') (tS X W (fun env => andThen (da env) env fun v => raiS x f env v)) := by
  refine PS.imp (ps_raise hc tk (pmk_x T hr hg hm he hdb hs)) fun D σ H h => ?_
  unfold tMkX
  refine tS.then h fun z1 env a b g1 re rb fin => ?_
  unfold raiS at fin
  cases rb with
  | ref _ => exact fin.elim
  | exn _ _ _ => exact fin.elim
  | val rd =>
    cases f with
    | none => exact fin z1 σ (.ref C) none rfl g1 (Ext.refl _) re ⟨hm, rfl⟩
    | some fn =>
      intro dx nd
      have e1 := Ext.new g1 (.xd [(fn, b)]) nd
      exact fin (z1.at dx (.xd [(fn, b)])) σ (.ref C) (some dx) rfl (Good.new g1 _ nd) e1 (re.ext g1 e1) ⟨hm, [(fn, b)], upd_same, .cons ⟨rfl, rd.ext g1 e1⟩ .nil⟩
end
end L2.Cap

set_option maxRecDepth 100000
set_option maxHeartbeats 4000000
namespace L2.Cap
open PySem PySem.Spec PySem.W PySem.Calls PyProof.Rows
section
variable {X : Cx} {pins : List (Addr × Obj)} {σ : St} {H : Hp} {s : Shared}
theorem exv_ok {P : Program} {w : World} {h : Heap} {a C : Addr} {d : Option Addr} {oe : Obj} {vs : Array Value} (ha : h.get? a = some oe) (hz : Zc (.ref C) d oe) (hd : oe.data = .fields vs) : ObjOk P w H h a (exv a C d) :=
  ⟨⟨oe, vs, ha, hz, hd⟩, ⟨oe, ha⟩, fun _ _ ⟨o, v, q, r⟩ k => ⟨o, v, k o q, r⟩⟩
/-- an exception that was caught is tracked from now on -/
theorem Inv.track {a C : Addr} {d : Option Addr} {oe : Obj} {vs : Array Value} (I : Inv X pins σ H s) (ha : s.heap.get? a = some oe) (hz : Zc (.ref C) d oe) (hd : oe.data = .fields vs) (na : H a = none) (n0 : X.s_0.heap.get? a = none) (nL : a ≠ X.env.locals) (np : ∀ p ∈ X.pn ++ pins, p.1 ≠ a) :
    Inv X pins σ (upd H a (exv a C d)) s where
  ok := I.ok
  os := I.os
  bare := I.bare
  base := ⟨I.base.keep, I.base.slot, fun b o e n hx => by rw [upd_ne (fun z => by rw [z, n0] at e; cases e)]; exact I.base.free b o e n hx, I.base.there,
    fun b xs e => by have q := I.base.tups b xs e; rw [upd_ne (ne_of_none q na)]; exact q, fun b o u e => by have q := I.base.frzs b o u e; rw [upd_ne (ne_of_none q na)]; exact q,
    fun b ps e => by obtain ⟨m, q⟩ := I.base.tbls b ps e; exact ⟨m, by rw [upd_ne (ne_of_none q na)]; exact q⟩⟩
  loc := I.loc
  cell := I.cell
  free := by rw [upd_ne (Ne.symm nL)]; exact I.free
  freeC := fun x c e => by
    rw [upd_ne (fun z => ?_)]
    · exact I.freeC x c e
    · obtain ⟨v, o, ho, hc⟩ := I.cell x c e
      rw [z, ha] at ho
      cases ho
      rw [hd] at hc
      cases hc
  pin := fun p hp => by
    obtain ⟨e, n, ne, nf, dd⟩ := I.pin p hp
    exact ⟨e, by rw [upd_ne (np p hp)]; exact n, ne, nf, dd⟩
  hok := fun b u e => by
    by_cases hb : b = a
    · subst hb
      rw [upd_same] at e
      cases e
      exact exv_ok ha hz hd
    · rw [upd_ne hb] at e
      exact (I.hok b u e).stay (fun _ _ _ q => q) (fun c q => by rw [upd_ne (ne_of_none q na)]; exact q) fun c xs q => by rw [upd_ne (ne_of_none q na)]; exact q
  len := I.len
/-- behind the suite, the exception still pinned -/
theorem Inv.unsuiteP {a : Addr} {oe : Obj} {pn' : List (Addr × Obj)} (I : Inv (X.suite a ((a, oe) :: (X.pn ++ pins))) pn' σ H s) (ok : X.Ok) : Inv X ((a, oe) :: pins) σ H s :=
  ⟨ok, I.os, I.bare, I.base, I.loc, I.cell, I.free, I.freeC, fun p hp => I.pin p (List.mem_append_left _ (by
    rcases List.mem_append.mp hp with h | h
    · exact List.mem_cons_of_mem _ (List.mem_append_left _ h)
    · rcases List.mem_cons.mp h with h | h
      · rw [h]; exact List.mem_cons_self
      · exact List.mem_cons_of_mem _ (List.mem_append_right _ h))), I.hok, I.len⟩
theorem Inv.unpin {p : Addr × Obj} (I : Inv X (p :: pins) σ H s) : Inv X pins σ H s :=
  ⟨I.ok, I.os, I.bare, I.base, I.loc, I.cell, I.free, I.freeC, fun q hq => I.pin q (by
    rcases List.mem_append.mp hq with h | h
    · exact List.mem_append_left _ h
    · exact List.mem_append_right _ (List.mem_cons_of_mem _ h)), I.hok, I.len⟩
end
theorem flying_push {B h : Heap} {l : List Env} {a : Addr} {Z : Obj → Prop} (fl : HandSPX.FlyingZ B l a Z h) (o : Obj) : HandSPX.FlyingZ B l a Z (h.push o) := by
  obtain ⟨k1, k2, k3, oe, vs, T, oT, ts, he, hz, hd, h1, hn, hne, hT, hdT, h3⟩ := fl
  exact ⟨fun b u z => Heap.get?_push_of_some _ (k1 b u z), k2, Heap.FunFrames.of_keeps (fun b u e _ => ⟨u, Heap.get?_push_of_some _ e, rfl⟩) k3, oe, vs, T, oT, ts, Heap.get?_push_of_some _ he, hz, hd, h1, hn, hne, Heap.get?_push_of_some _ hT, hdT, h3⟩
/-! ### the clauses' classes -/
inductive NamesOk (X : Cx) (kn : Str → Prop) : List Expr → List Str → Prop
  | nil : NamesOk X kn [] []
  | cons {x : Str} {np : Pos} {C : Addr} {es : List Expr} {xs : List Str} : Gl X x → (x == ("__debug__" : Str)) = false → X.mg x = some (.ref C) → kn x → NamesOk X kn es xs → NamesOk X kn (.Name x np :: es) (x :: xs)
inductive TestOk (X : Cx) (kn : Str → Prop) : Expr → List Str → Prop
  | one {x : Str} {np : Pos} {C : Addr} : Gl X x → (x == ("__debug__" : Str)) = false → X.mg x = some (.ref C) → kn x → TestOk X kn (.Name x np) [x]
  | tup {es : List Expr} {k : Nat} {pos : Pos} {xs : List Str} : NamesOk X kn es xs → es.length ≤ 1000 → TestOk X kn (.Tuple es k pos) xs
section
variable {X : Cx} {kn : Str → Prop}
theorem names_run {a : Addr} {oe : Obj} {pn : List (Addr × Obj)} {pos : Pos} {E : Value → Shared → Prop} {s : Shared} {σ : St} {H : Hp} (S : Inv (X.suite a ((a, oe) :: pn)) [] σ H s) : ∀ {es : List Expr} {xs : List Str}, NamesOk X kn es xs → ∀ Q : List Value → Shared → Prop,
    (∀ us, Paired (fun (x : Str) (u : Value) => kn x ∧ ∃ C, X.mg x = some (.ref C) ∧ u = .ref C) xs us → Q us s) → wpAny (model X.prog X.w) (X.A.mark (some (.ref a))) (spliced (backTo pos (starEach es X.env))) Q E s
  | _, _, .nil, Q, q => spliced_nil (q [] .nil)
  | _, _, .cons (np := np) (C := C) h1 h2 h3 h4 r, Q, q => by
    refine spliced_cons (ld_glob (X := X.suite a ((a, oe) :: pn)) S h1 h3 ?_ h2)
    exact names_run S r _ fun us p => q _ (.cons ⟨h4, C, h3, rfl⟩ p)
theorem exm_names {K : Frag} {cls : Value} {cn : Str} (hk : ∀ x C, kn x → X.mg x = some (.ref C) → exmOne K cls (.ref C) = some (decide (cn = x))) : ∀ {xs : List Str} {us : List Value},
    Paired (fun (x : Str) (u : Value) => kn x ∧ ∃ C, X.mg x = some (.ref C) ∧ u = .ref C) xs us → exmAny K cls us = some (decide (cn ∈ xs))
  | _, _, .nil => by simp [exmAny]
  | _, _, .cons (a := x) (l₁ := xs) ⟨h1, C, h2, e⟩ r => by
    subst e
    unfold exmAny
    rw [hk _ C h1 h2, exm_names hk r]
    simp [List.mem_cons, Bool.decide_or]
end
end L2.Cap

set_option maxRecDepth 100000
set_option maxHeartbeats 4000000
namespace L2.Cap
open PySem PySem.Spec PySem.W PySem.Calls PyProof.Rows
/-! ### what a suite takes of the error -/
inductive Sx0Ok (n : Option Str) (fl : List Str) : Expr → Sx0 → Prop
  | non {j : Nat} {p : Pos} : Sx0Ok n fl (.Constant .none j p) (.con .none)
  | bl {b : Bool} {j : Nat} {p : Pos} : Sx0Ok n fl (.Constant (.bool b) j p) (.con (.bool b))
  | int {i : Int} {j : Nat} {p : Pos} : Sx0Ok n fl (.Constant (.int i) j p) (.con (.int i))
  | str {x : Str} {j : Nat} {p : Pos} : Sx0Ok n fl (.Constant (.str x) j p) (.con (.str x))
  | fld {x f : Str} {p p' : Pos} : n = some x → f ∈ fl → Sx0Ok n fl (.Attribute (.Name x p) f p') (.fld f)
inductive SxOk (n : Option Str) (fl : List Str) : Expr → Sx → Prop
  | one {e : Expr} {x : Sx0} : Sx0Ok n fl e x → SxOk n fl e (.one x)
  | err {x : Str} {p : Pos} : n = some x → SxOk n fl (.Name x p) .err
  | tup {a b : Expr} {x y : Sx0} {k : Nat} {p : Pos} : Sx0Ok n fl a x → Sx0Ok n fl b y → SxOk n fl (.Tuple [a, b] k p) (.tup x y)
  | lst {a : Expr} {x : Sx0} {p : Pos} : Sx0Ok n fl a x → SxOk n fl (.List [a] p) (.lst x)
theorem sx0_star {n : Option Str} {fl : List Str} {e : Expr} {x : Sx0} {es : List Expr} {env : Env} (h : Sx0Ok n fl e x) : starEach (e :: es) env = (false, eval e env) :: starEach es env := by cases h <;> rfl
/-- the name of the clause is at its slot -/
def NmOk (X : Cx) (n : Option Str) (i : Option Nat) : Prop := match n, i with
  | none, none => True
  | some x, some j => X.N[j]? = some x ∧ X.env.kindOf x = some .local ∧ (x == ("__debug__" : Str)) = false ∧ (x == ("__classdict__" : Str)) = false
  | _, _ => False
def atN (σ : St) (a : Addr) : Option Nat → Prop
  | some j => σ[j]? = some (some (.ref a))
  | none => True
section
variable {X : Cx} {a C : Addr} {oe : Obj} {d : Option Addr} {pn : List (Addr × Obj)} {n : Option Str} {i : Option Nat} {fl : List Str}
theorem pair_look {K : Frag} {F : Addr → Prop} {H : Hp} {f : Str} {dd : PyData} {ws : List (Str × V)} {fs : List (Str × PyData)} (r : Paired (fun (p : Str × V) (q : Str × PyData) => p.1 = q.1 ∧ RepD K F H p.2 q.2) ws fs) : fs.lookup f = some dd → ∃ v, ws.lookup f = some v ∧ RepD K F H v dd := by
  induction r with
  | nil => intro h; cases h
  | @cons p q ws fs hpq _ ih =>
    intro h
    obtain ⟨e, rd⟩ := hpq
    obtain ⟨p1, p2⟩ := p
    obtain ⟨q1, q2⟩ := q
    dsimp only at e rd
    subst e
    rw [List.lookup_cons] at h ⊢
    cases hq : (f == p1) with
    | true => rw [hq] at h; cases h; exact ⟨_, rfl, rd⟩
    | false => rw [hq] at h; exact ih h
theorem sx0_pe {e : Expr} {x : Sx0} (T : ExcC X.K C) (hno : ∀ f, f ∈ fl → findIn X.K (.ref C) f = some none) (hz : Zc (.ref C) d oe) (hf : ∃ vs, oe.data = .fields vs) (hn : NmOk X n i) (h : Sx0Ok n fl e x) :
    PE (X.suite a ((a, oe) :: pn)) e (fun σ H Q => ∃ z fs dd, z.H = H ∧ Good X.K z ∧ XD X.K z d fs ∧ atN σ a i ∧ sx0D fs x = some dd ∧ ∀ v, RepD X.K z.F z.H v dd → Q v H) := by
  cases h with
  | non => exact PE.imp pe_non fun σ H Q ⟨z, fs, dd, e1, _, _, _, e2, q⟩ => by cases e2; exact q _ .non
  | bl => exact PE.imp pe_bl fun σ H Q ⟨z, fs, dd, e1, _, _, _, e2, q⟩ => by cases e2; exact q _ (.bl _)
  | int => exact PE.imp pe_int fun σ H Q ⟨z, fs, dd, e1, _, _, _, e2, q⟩ => by cases e2; exact q _ (.int _)
  | str => exact PE.imp pe_str fun σ H Q ⟨z, fs, dd, e1, _, _, _, e2, q⟩ => by cases e2; exact q _ (.str _)
  | @fld y f p p' hx hfl =>
    subst hx
    cases i with
    | none => exact hn.elim
    | some j =>
      obtain ⟨h1, h2, h3, h4⟩ := hn
      refine PE.imp (pe_xf (X := X) (a := a) (C := C) (cls := .ref C) (d := d) ⟨T.hg, T.hk, T.hs, T.hd⟩ (hno f hfl) hz hf (pe_var (X := X.suite a ((a, oe) :: pn)) (i := j) h1 (.inl h2) h3 h4) (by unfold attributeBase; rfl)) ?_
      rintro σ H Q ⟨z, fs, dd, rfl, g, xd, at', e2, q⟩
      refine ⟨.ref a, at', rfl, rfl, ?_⟩
      have e2 : fs.lookup f = some dd := e2
      cases d with
      | none =>
        have xd : fs = [] := xd
        subst xd
        cases e2
      | some dx =>
        obtain ⟨ws, h5, h6⟩ := xd
        obtain ⟨v, h7, h8⟩ := pair_look h6 e2
        exact ⟨dx, ws, v, rfl, h5, h7, q v h8⟩
end
end L2.Cap

set_option maxRecDepth 100000
set_option maxHeartbeats 4000000
namespace L2.Cap
open PySem PySem.Spec PySem.W PySem.Calls PyProof.Rows
section
variable {X : Cx} {a C : Addr} {oe : Obj} {d : Option Addr} {pn : List (Addr × Obj)} {n : Option Str} {i : Option Nat} {fl : List Str}
def tSx (K : Frag) (d : Option Addr) (a : Addr) (i : Option Nat) (x : Sx) : TE := fun σ H Q => ∃ z c fs dd, z.H = H ∧ Good K z ∧ XD K z d fs ∧ atN σ a i ∧ sxV c fs x = some (.val dd) ∧ Gives K z dd Q
theorem sx_pe {e : Expr} {x : Sx} (T : ExcC X.K C) (hno : ∀ f, f ∈ fl → findIn X.K (.ref C) f = some none) (hz : Zc (.ref C) d oe) (hf : ∃ vs, oe.data = .fields vs) (hn : NmOk X n i) (h : SxOk n fl e x) (hx : x ≠ .err) :
    PE (X.suite a ((a, oe) :: pn)) e (tSx X.K d a i x) := by
  cases h with
  | err _ => exact absurd rfl hx
  | @one _ x0 h =>
    refine PE.imp (sx0_pe T hno hz hf hn h) ?_
    rintro σ H Q ⟨z, c, fs, dd, rfl, g, xd, at', e, q⟩
    have e : (sx0D fs x0).map RV.val = some (.val dd) := e
    cases e1 : sx0D fs x0 with
    | none => rw [e1] at e; cases e
    | some y =>
      rw [e1] at e
      cases e
      exact ⟨z, fs, _, rfl, g, xd, at', e1, fun v r => q.here g r⟩
  | @tup ea eb xa xb _ _ h1 h2 =>
    refine PE.imp (pe_tup (pa_cons (sx0_pe T hno hz hf hn h1) (pa_cons (sx0_pe T hno hz hf hn h2) pa_nil (sx0_star h2)) (sx0_star h1))) ?_
    rintro σ H Q ⟨z, c, fs, dd, rfl, g, xd, at', e, q⟩
    cases e1 : sx0D fs xa with
    | none => simp only [sxV, e1] at e; cases e
    | some y1 =>
      cases e2 : sx0D fs xb with
      | none => simp only [sxV, e1, e2] at e; cases e
      | some y2 =>
        simp only [sxV, e1, e2] at e
        cases e
        refine ⟨z, fs, y1, rfl, g, xd, at', e1, fun v1 r1 => ⟨z, fs, y2, rfl, g, xd, at', e2, fun v2 r2 => ⟨by show 2 ≤ sizeLine; rw [sizeLine_eq]; omega, ?_⟩⟩⟩
        exact q.tup g (.cons r1 (.cons r2 .nil))
  | @lst ea xa _ h1 =>
    refine PE.imp (pe_lst (pa_cons (sx0_pe T hno hz hf hn h1) pa_nil (sx0_star h1))) ?_
    rintro σ H Q ⟨z, c, fs, dd, rfl, g, xd, at', e, q⟩
    cases e1 : sx0D fs xa with
    | none => simp only [sxV, e1, Option.map_none] at e; cases e
    | some y1 =>
      simp only [sxV, e1, Option.map_some] at e
      cases e
      refine ⟨z, fs, y1, rfl, g, xd, at', e1, fun v1 r1 => ⟨by show 1 ≤ sizeLine; rw [sizeLine_eq]; omega, ?_⟩⟩
      exact q.lst g (.cons r1 .nil)
theorem sx_swap {e : Expr} {x : Sx} {t : Option Expr} {l : Nat} {env : Env} (h : SxOk n fl e x) : swapsWith e t l env = pure false := by
  cases h with
  | one h => cases h <;> rfl
  | err _ => rfl
  | tup _ _ => rfl
  | lst _ => rfl
theorem sxV_kind {c : Str} {fs : List (Str × PyData)} {x : Sx} {v : RV} (hx : x ≠ .err) (h : sxV c fs x = some v) : ∃ dd, v = .val dd := by
  cases x with
  | err => exact absurd rfl hx
  | one y =>
    have h : (sx0D fs y).map RV.val = some v := h
    cases e : sx0D fs y with
    | none => rw [e] at h; cases h
    | some z => rw [e] at h; cases h; exact ⟨_, rfl⟩
  | tup y1 y2 =>
    have h : (match sx0D fs y1, sx0D fs y2 with | some x, some y => some (RV.val (.tuple [x, y])) | _, _ => none) = some v := h
    split at h
    · cases h; exact ⟨_, rfl⟩
    · cases h
  | lst y =>
    have h : (sx0D fs y).map (fun x => RV.val (.list [x])) = some v := h
    cases e : sx0D fs y with
    | none => rw [e] at h; cases h
    | some z => rw [e] at h; cases h; exact ⟨_, rfl⟩
end
/-- one clause's suite -/
inductive SuOk (X : Cx) (n : Option Str) (i : Option Nat) (fl : List Str) : Stmt → Ac → Prop
  | asg {y : Str} {py pos : Pos} {e : Expr} {j : Nat} {x : Sx} : X.N[j]? = some y → Loc X.env.scope y → (X.fn y = true ∨ X.env.scope.names.lookup y = some .local) → i ≠ some j → SxOk n fl e x → SuOk X n i fl (.Assign [.Name y py] e pos) (.asg j x)
  | ret {pos : Pos} {e : Expr} {x : Sx} : SxOk n fl e x → x ≠ .err → SuOk X n i fl (.Return (some e) pos) (.ret x)
inductive HdOk (X : Cx) (kn : Str → Prop) (fl : List Str) : List ExceptHandler → List Hd → Prop
  | nil : HdOk X kn fl [] []
  | cons {t : Expr} {n : Option Str} {b : Stmt} {pos : Pos} {hd : Hd} {hds : List ExceptHandler} {l : List Hd} : TestOk X kn t hd.cls → NmOk X n hd.nm → SuOk X n hd.nm fl b hd.act → HdOk X kn fl hds l → HdOk X kn fl (.ExceptHandler (some t) n [b] pos :: hds) (hd :: l)
def offS (σ : St) : Option Nat → St
  | some j => σ.set j none
  | none => σ
def onS (σ : St) (a : Addr) : Option Nat → St
  | some j => σ.set j (some (.ref a))
  | none => σ
section
variable {X : Cx} {W : WX}
theorem offE_rep {K : Frag} {z : Z} {env : EnvD} {σ : St} {a : Addr} {j : Nat} {x : RV} {v : V} {i : Option Nat} (r : RepE K z env σ) (rv : RepV K z v x) (hi : i ≠ some j) : RepE K z (offE (env.set j (some x)) i) (offS ((onS σ a i).set j (some v)) i) := by
  cases i with
  | none => exact r.set rv j
  | some m =>
    have q := r.set rv j
    refine ⟨by simp [offE, offS, onS, r.len], fun k y h => ?_⟩
    show ∃ w, (((σ.set m (some (.ref a))).set j (some v)).set m none)[k]? = some (some w) ∧ _
    by_cases hk : k = m
    · subst hk
      have h : ((env.set j (some x)).set k none)[k]? = some (some y) := h
      by_cases hl : k < (env.set j (some x)).length
      · rw [List.getElem?_set_self hl] at h; cases h
      · rw [List.getElem?_eq_none (by simpa using hl)] at h; cases h
    · have h : ((env.set j (some x)).set m none)[k]? = some (some y) := h
      rw [List.getElem?_set_ne (Ne.symm hk)] at h
      obtain ⟨w, h1, h2⟩ := q.at' k y h
      refine ⟨w, ?_, h2⟩
      rw [List.getElem?_set_ne (Ne.symm hk)]
      by_cases hj : k = j
      · subst hj
        have hl : k < σ.length := by
          have := (List.getElem?_eq_some_iff.mp h1).1
          simpa using this
        rw [List.getElem?_set_self hl] at h1
        rw [List.getElem?_set_self (by simpa using hl)]
        exact h1
      · rw [List.getElem?_set_ne (Ne.symm hj)] at h1 ⊢
        rw [List.getElem?_set_ne (Ne.symm hk)]
        exact h1
end
end L2.Cap

set_option maxRecDepth 100000
set_option maxHeartbeats 4000000
namespace L2.Cap
open PySem PySem.Spec PySem.W PySem.Calls PyProof.Rows
section
variable {X : Cx} {W : WX}
theorem NamesOk.len {kn : Str → Prop} : ∀ {es : List Expr} {xs : List Str}, NamesOk X kn es xs → xs.length = es.length
  | _, _, .nil => rfl
  | _, _, .cons _ _ _ _ r => congrArg (· + 1) r.len
/-- what the clauses wish of an exception of the body -/
def wTry (X : Cx) (W : WX) (D : Ends) (hs : List Hd) (tab : List Str) : WX := fun cls d σ H => ∃ z env c fs, z.H = H ∧ Good X.K z ∧ RepE X.K z env σ ∧ c ∈ tab ∧ RepX X.K X.mg z c fs cls d ∧ FinS X.K X.mg W D z (hdR hs c fs env z.h)
theorem try_body {hs : List Hd} {tab : List Str} {D : Ends} {z : Z} {o : Option (OutS × AH)} (g : Good X.K z) (h : FinS X.K X.mg W D z (tryS hs tab o)) : FinS X.K X.mg (wTry X W D hs tab) D z o := by
  cases o with
  | none => exact h
  | some p =>
    obtain ⟨o, h'⟩ := p
    cases o with
    | next env => exact h
    | brk env => exact h
    | cont env => exact h
    | ret v => exact h
    | exc c fs env =>
      intro z' σ' cls dx e g' x' re rx
      have h : FinS X.K X.mg W D z (if c ∈ tab then hdR hs c fs env h' else none) := h
      by_cases hc : c ∈ tab
      · rw [if_pos hc] at h
        subst e
        exact ⟨z', env, c, fs, rfl, g', re, hc, rx, h.from g.trk x'⟩
      · rw [if_neg hc] at h
        exact h.elim
/-- what stands behind the one statement of a suite -/
def SuP (X : Cx) (pins : List (Addr × Obj)) (D : Ends) (p : Addr × Obj) (i : Option Nat) (f : Flow) (s6 : Shared) : Prop := match f with
  | .next => ∃ σ6 H6, Inv X (p :: pins) σ6 H6 s6 ∧ ∀ s7, Inv X (p :: pins) (offS σ6 i) H6 s7 → ∃ σ' H', Inv X pins σ' H' s7 ∧ D.nx σ' H'
  | .ret u => ∃ v σ6 H6, Inv X (p :: pins) σ6 H6 s6 ∧ RelV v u ∧ D.rt v H6
  | _ => False
theorem su_run {pins : List (Addr × Obj)} {D : Ends} {a C : Addr} {d : Option Addr} {oe : Obj} {vs : Array Value} {n : Option Str} {i : Option Nat} {fl : List Str} {b : Stmt} {act : Ac} {f : Option Str} {z : Z} {env : EnvD} {σ : St} {c : Str} {fs : List (Str × PyData)} {s : Shared} {E : Value → Shared → Prop}
    (ok : X.Ok) (hN : X.N.Nodup) (T : XOk X.prog X.K C f fl) (hz : Zc (.ref C) d oe) (hd : oe.data = .fields vs) (hn : NmOk X n i) (hsu : SuOk X n i fl b act) (S : Inv (X.suite a ((a, oe) :: (X.pn ++ pins))) [] (onS σ a i) z.H s) (g : Good X.K z) (re : RepE X.K z env σ) (xd : XD X.K z d fs)
    (nC : nsIn X.K mainGlobals c = some (some (.ref C))) (na : z.H a = none) (n0 : X.s_0.heap.get? a = none) (nL : a ≠ X.env.locals) (np : ∀ p ∈ X.pn ++ pins, p.1 ≠ a) (at' : atN (onS σ a i) a i)
    (w : FinS X.K X.mg W D z (acR i c fs env z.h act)) :
    wpAny (model X.prog X.w) (X.A.mark (some (.ref a))) (execs [b] X.env) (SuP X pins D (a, oe) i) E s := by
  have hf : ∃ vs, oe.data = .fields vs := ⟨vs, hd⟩
  have ends : ∀ {fl' : Flow} {s6 : Shared}, SP (X.suite a ((a, oe) :: (X.pn ++ pins))) [] { nx := fun σ6 H6 => ∀ s7, Inv X ((a, oe) :: pins) (offS σ6 i) H6 s7 → ∃ σ' H', Inv X pins σ' H' s7 ∧ D.nx σ' H', rt := D.rt } fl' s6 → SuP X pins D (a, oe) i fl' s6 := fun {fl' s6} q => by
    cases fl' with
    | next =>
      obtain ⟨σ6, H6, S6, q6⟩ := q
      exact ⟨σ6, H6, Inv.unsuiteP S6 ok, q6⟩
    | ret u =>
      obtain ⟨v, σ6, H6, S6, r6, q6⟩ := q
      exact ⟨v, σ6, H6, Inv.unsuiteP S6 ok, r6, q6⟩
    | brk =>
      obtain ⟨_, _, _, q⟩ := q
      exact q.elim
    | cont =>
      obtain ⟨_, _, _, q⟩ := q
      exact q.elim
  cases hsu with
  | @asg y py pos e j x hj hl hfn hij hx =>
    by_cases hex : x = .err
    · subst hex
      cases hx with
      | @err y' p' hy =>
        cases i with
        | none => rw [hy] at hn; exact hn.elim
        | some m =>
          rw [hy] at hn
          obtain ⟨h1, h2, h3, h4⟩ := hn
          refine wpAny_mono ((pss_one (ps_set (X := X.suite a ((a, oe) :: (X.pn ++ pins))) (pos := pos) (pos' := py) (i := j) hN hj hl (pe_var (X := X.suite a ((a, oe) :: (X.pn ++ pins))) (i := m) (pos := p') h1 (.inl h2) h3 h4) rfl hfn)).run [] s (onS σ a (some m)) z.H { nx := fun σ6 H6 => ∀ s7, Inv X ((a, oe) :: pins) (offS σ6 (some m)) H6 s7 → ∃ σ' H', Inv X pins σ' H' s7 ∧ D.nx σ' H', rt := D.rt } S ⟨.ref a, at', fun s7 J7 => ?_⟩) (fun f s6 q => ends q) fun _ _ q => False.elim q
          obtain ⟨e7, n7, _⟩ := J7.pin (a, oe) (List.mem_append_right _ List.mem_cons_self)
          have e1 := Ext.new g (exv a C d) na
          exact ⟨_, _, Inv.track (Inv.unpin J7) e7 hz hd na n0 nL np, w (z.at a (exv a C d)) _ rfl (Good.new g _ na) e1 (offE_rep (re.ext g e1) (.exn nC upd_same (xd.ext g e1)) hij)⟩
    · refine wpAny_mono ((pss_one (ps_set (X := X.suite a ((a, oe) :: (X.pn ++ pins))) (pos := pos) (pos' := py) (i := j) hN hj hl (sx_pe (a := a) (pn := X.pn ++ pins) T.ex T.no hz hf hn hx hex) (sx_swap hx) hfn)).run [] s (onS σ a i) z.H { nx := fun σ6 H6 => ∀ s7, Inv X ((a, oe) :: pins) (offS σ6 i) H6 s7 → ∃ σ' H', Inv X pins σ' H' s7 ∧ D.nx σ' H', rt := D.rt } S ?_) (fun f s6 q => ends q) fun _ _ q => False.elim q
      have w : FinS X.K X.mg W D z ((sxV c fs x).bind fun v => some (.next (offE (env.set j (some v)) i), z.h)) := w
      cases ev : sxV c fs x with
      | none => rw [ev] at w; exact w.elim
      | some v =>
        rw [ev] at w
        obtain ⟨dd, rfl⟩ := sxV_kind hex ev
        exact ⟨z, c, fs, dd, rfl, g, xd, at', ev, fun z' h' g' x' v r s7 J7 => ⟨_, _, Inv.unpin J7, w z' _ h' g' x' (offE_rep (re.ext g x') (.val r) hij)⟩⟩
  | @ret pos e x hx hex =>
    refine wpAny_mono ((pss_one (ps_ret (X := X.suite a ((a, oe) :: (X.pn ++ pins))) (pos := pos) (sx_pe (a := a) (pn := X.pn ++ pins) T.ex T.no hz hf hn hx hex))).run [] s (onS σ a i) z.H { nx := fun σ6 H6 => ∀ s7, Inv X ((a, oe) :: pins) (offS σ6 i) H6 s7 → ∃ σ' H', Inv X pins σ' H' s7 ∧ D.nx σ' H', rt := D.rt } S ?_) (fun f s6 q => ends q) fun _ _ q => False.elim q
    have w : FinS X.K X.mg W D z ((sxV c fs x).bind fun v => some (.ret v, z.h)) := w
    cases ev : sxV c fs x with
    | none => rw [ev] at w; exact w.elim
    | some v =>
      rw [ev] at w
      obtain ⟨dd, rfl⟩ := sxV_kind hex ev
      exact ⟨z, c, fs, dd, rfl, g, xd, at', ev, fun z' h' g' x' v r => w z' v h' g' x' (.val r)⟩
theorem ds_try {body : List Stmt} {h₀ : ExceptHandler} {hds : List ExceptHandler} {hs : List Hd} {tab : List Str} {kn : Str → Prop} {fl : List Str} {db : DenS} {pos : Pos} (hst : X.stack = X.env :: X.outer) (hf : X.env.frame = some X.env.locals) (hex : X.ex = []) (hN : X.N.Nodup) (tk : Takes X W)
    (hb : ∀ (W' : WX) (pn : List (Addr × Obj)) (xe : Value → Shared → Prop), Takes (X.tr pn xe) W' → PassesOwn (model X.prog X.w) X.A X.env xe → PSs (X.tr pn xe) body (tS X W' db)) (hh : HdOk X kn fl (h₀ :: hds) hs)
    (kx : ∀ c, c ∈ tab → ∃ C f, X.mg c = some (.ref C) ∧ nsIn X.K mainGlobals c = some (some (.ref C)) ∧ XOk X.prog X.K C f fl ∧ ∀ x D, kn x → X.mg x = some (.ref D) → exmOne X.K (.ref C) (.ref D) = some (decide (c = x))) :
    PS X (.Try body (h₀ :: hds) [] [] pos) (tS X W (fun env h => tryS hs tab (db env h))) := by
  refine ⟨fun pins s σ H D I h => ?_⟩
  obtain ⟨z0, env0, rfl, g0, re0, fin0⟩ := h
  have ok := I.ok
  have hfr : X.A.frames = some (X.env :: X.outer) := by rw [ok.frames, hst]
  refine wpAny_Try_except ?_
  refine wpAny_mono ((hb (wTry X W D hs tab) (X.pn ++ pins) (fun e s₁ => wpAny (model X.prog X.w) X.A (noteFrame e X.env) (fun _ s₂ => wpAny (model X.prog X.w) X.A (setFlight e none) (fun _ s₃ =>
    wpAny (model X.prog X.w) X.A (handleBy e X.env (h₀ :: hds)) (SP X pins D) X.xe s₃) X.xe s₂) X.xe s₁) (fun u s' xx => ?_) PassesOwn.looking).run [] s σ z0.H D (I.toTry _) ⟨z0, env0, rfl, g0, re0, try_body g0 fin0⟩) (fun f s1 hsp => ?_) (fun e s1 he => he)
  · obtain ⟨a, B, sI, pins', σ', H', cls, d, rfl, J', nb, up, sky, na, os, ag, z, env, c, fs, ez, g, re, hc, rx, fin⟩ := xx
    subst ez
    have J : Inv X pins σ' z.H sI := J'.ofTry ok
    obtain ⟨C, f, mC, nC, T, ex⟩ := kx c hc
    obtain ⟨rx1, rx2⟩ := rx
    have ec : cls = .ref C := Option.some.inj (rx1.symm.trans mC)
    subst ec
    have sky' : Sky B (X.env :: X.outer) a (Zc (.ref C) d) X.env.locals s'.heap := by rw [← hst]; exact sky
    show wpAny (model X.prog X.w) X.A (noteFrame (.ref a) X.env) _ _ _
    refine Sky.land Zc.steady hfr hf sky' fun h3 fl3 up3 => ?_
    have Ba : B.get? a = none := fl3.2.1
    have notFr : ∀ {h : Heap}, HandSPX.FlyingZ B (X.env :: X.outer) a (Zc (.ref C) d) h → a ∉ frs (X.env :: X.outer) := fun {h} q hm => by
      obtain ⟨o, vs, e1, _, dd⟩ := q.there
      obtain ⟨_, o', e', hnf⟩ := q.2.2.1.mem hm
      rw [e1] at e'; cases e'
      exact hnf _ dd
    have nfr := notFr fl3
    have nfS : a ∉ frs X.stack := by rw [hst]; exact nfr
    have nL : a ≠ X.env.locals := fun q => nfr (List.mem_filterMap.mpr ⟨X.env, List.mem_cons_self, by rw [hf, q]⟩)
    have nF : a ∉ X.fs := fun hm => by
      obtain ⟨e, he, q⟩ := List.mem_filterMap.mp hm
      exact nfr (List.mem_filterMap.mpr ⟨e, List.mem_cons_of_mem _ he, q⟩)
    have nA : ∀ b o, sI.heap.get? b = some o → b ∉ frs X.stack → b ≠ a := fun b o e hb q => by
      have y := nb b o e hb
      rw [q, Ba] at y
      cases y
    have np : ∀ p ∈ X.pn ++ pins, p.1 ≠ a := fun p hp => by
      obtain ⟨e, _, ne, nf, _⟩ := J.pin p hp
      refine nA _ _ e fun hm => ?_
      rcases List.mem_cons.mp (J.stkSub _ hm) with q | q
      · exact ne q
      · exact nf q
    have n0 : X.s_0.heap.get? a = none := by
      cases e : X.s_0.heap.get? a with
      | none => rfl
      | some o =>
        obtain ⟨o', e'⟩ := J.base.there a o e (by rw [hex]; exact fun q => nomatch q)
        exact absurd rfl (nA a o' e' nfS)
    have go : ∀ {hds' : List ExceptHandler} {l' : List Hd}, HdOk X kn fl hds' l' → ∀ h3, HandSPX.FlyingZ B (X.env :: X.outer) a (Zc (.ref C) d) h3 → sI.heap.UpToSlots h3 → FinS X.K X.mg W D z (hdR l' c fs env z.h) →
        wpAny (model X.prog X.w) X.A (handleBy (.ref a) X.env hds') (SP X pins D) X.xe { s' with heap := h3 } := by
      intro hds' l' hk
      induction hk with
      | nil =>
        intro h3 fl3 up3 w
        refine wpAny_handleBy_nil ?_
        obtain ⟨k1, k2, k3, oe, vs, T, oT, ts', he, hz, hd, h1, hr⟩ := id fl3
        unfold PySem.passOn
        refine wpAny_bind (wpAny_field he hd h1 ?_)
        rw [if_neg (show ¬ ((Value.ref T == Value.none) = true) from by simp)]
        have fin : wpAny (model X.prog X.w) X.A (setFlight (.ref a) X.env.frame) (fun _ s4 => wpAny (model X.prog X.w) X.A (throw (.ref a) : Sem Flow) (SP X pins D) X.xe s4) X.xe { s' with heap := h3 } := by
          rw [hf]
          refine HandSPX.setFlight_upZ fl3 fun h4 hh4 up4 => wpAny_throw (tk _ _ ?_)
          exact ⟨a, B, sI, pins, σ', z.H, .ref C, d, rfl, J, nb, up3.trans up4, .inr (.inr (by rw [hst]; exact hh4)), na, os, ag, w z σ' (.ref C) d rfl g (Ext.refl z) re ⟨mC, rx2⟩⟩
        first
          | exact wpAny_bind (wpAny_pure (wpAny_bind fin))
          | exact wpAny_bind fin
      | @cons t n b pos' hd hds2 l2 ht hn hsu r ih =>
        intro h3 fl3 up3 w
        have J3 : Inv X pins σ' z.H { s' with heap := h3 } := J.landed nb fl3.1 up3 os ag
        obtain ⟨oe3, vs3, he3, hz3, hd3⟩ := fl3.there
        have S3 := J3.suite he3 hd3 na nL nF
        refine wpAny_handleBy_cons (codeAny_handlers_test ?_) (by intro q; cases q)
        have next : ∀ h4 : Heap, HandSPX.FlyingZ B (X.env :: X.outer) a (Zc (.ref C) d) h4 → sI.heap.UpToSlots h4 → decide (c ∈ hd.cls) = false → wpAny (model X.prog X.w) X.A (handleBy (.ref a) X.env hds2) (SP X pins D) X.xe { s' with heap := h4 } := fun h4 fl4 up4 e => by
          refine ih h4 fl4 up4 ?_
          have w : FinS X.K X.mg W D z (if c ∈ hd.cls then _ else hdR l2 c fs env z.h) := w
          rw [if_neg (of_decide_eq_false e)] at w
          exact w
        have hit : ∀ h4, HandSPX.FlyingZ B (X.env :: X.outer) a (Zc (.ref C) d) h4 → sI.heap.UpToSlots h4 → c ∈ hd.cls → codeAny (model X.prog X.w) (X.A.mark (some (.ref a))) (.handlers (.ref a) [.ExceptHandler none n [b] pos'] X.env) (fun r s₂ => match r with
            | .ok f => (match (generalizing := false) n with
              | none => SP X pins D f s₂
              | some nn => wpAny (model X.prog X.w) X.A (do bindName X.env nn .none; unbindBehindTheSuite X.env nn pos') (fun _ s₃ => SP X pins D f s₃) X.xe s₂)
            | .error x => cameBackBy (model X.prog X.w) X.A X.env X.xe x s₂) { s' with heap := h4 } := fun h4 fl4 up4 hin => by
          have w : FinS X.K X.mg W D z (if c ∈ hd.cls then acR hd.nm c fs env z.h hd.act else hdR l2 c fs env z.h) := w
          rw [if_pos hin] at w
          cases n with
          | none =>
            have hi : hd.nm = none := by
              cases q : hd.nm with
              | none => rfl
              | some m => rw [q] at hn; exact hn.elim
            refine codeAny_handlers_suite (HandSPX.lands_againZ fl4 fun h5 fl5 up5 => ?_)
            have J5 : Inv X pins σ' z.H { s' with heap := h5 } := J.landed nb fl5.1 (up4.trans up5) os ag
            obtain ⟨oe5, vs5, he5, hz5, hd5⟩ := fl5.there
            have S5 := J5.suite he5 hd5 na nL nF
            rw [hi] at hn hsu w
            refine wpAny_mono (su_run ok hN T hz5 hd5 hn hsu S5 g re rx2 nC na n0 nL np True.intro w) (fun f s6 q => ?_) fun _ _ q => q
            cases f with
            | next =>
              obtain ⟨σ6, H6, J6, q6⟩ := q
              exact q6 s6 J6
            | ret u =>
              obtain ⟨v, σ6, H6, J6, r6, q6⟩ := q
              exact ⟨v, σ6, H6, Inv.unpin J6, r6, q6⟩
            | brk => exact q.elim
            | cont => exact q.elim
          | some nn =>
            obtain ⟨m, hi⟩ : ∃ m, hd.nm = some m := by
              cases q : hd.nm with
              | none => rw [q] at hn; exact hn.elim
              | some m => exact ⟨m, rfl⟩
            rw [hi] at hn hsu w
            obtain ⟨n1, n2, n3, n4⟩ := id hn
            refine codeAny_handlers_suite_as (HandSPX.lands_againZ fl4 fun h5 fl5 up5 => ?_)
            have J5 : Inv X pins σ' z.H { s' with heap := h5 } := J.landed nb fl5.1 (up4.trans up5) os ag
            obtain ⟨oe5, vs5, he5, hz5, hd5⟩ := fl5.there
            have S5 := J5.suite he5 hd5 na nL nF
            refine store_ok (X := X.suite a ((a, oe5) :: (X.pn ++ pins))) (v := .ref a) S5 hN n1 (.inl n2) rfl (fun s6 S6 => ?_) (.inr n2)
            have hlt : m < σ'.length := by
              rw [J.len]
              exact (List.getElem?_eq_some_iff.mp n1).1
            refine wpAny_mono (su_run (i := some m) ok hN T hz5 hd5 hn hsu S6 g re rx2 nC na n0 nL np (List.getElem?_set_self hlt) w) (fun f s7 q => ?_) fun _ _ q => q
            cases f with
            | next =>
              obtain ⟨σ6, H6, J6, q6⟩ := q
              exact gone_ok J6 hN n1 n2 fun s8 J8 => q6 s8 J8
            | ret u =>
              obtain ⟨v, σ6, H6, J6, r6, q6⟩ := q
              exact gone_ok J6 hN n1 n2 fun s8 J8 => ⟨v, _, H6, Inv.unpin J8, r6, q6⟩
            | brk => exact q.elim
            | cont => exact q.elim
        have LT : ∀ {h4 : Heap}, HandSPX.FlyingZ B (X.env :: X.outer) a (Zc (.ref C) d) h4 → Looks (model X.prog X.w) h4 (typeOf (.ref a)) (.ref C) := fun {h4} fl4 => by
          obtain ⟨o, vs, e1, e2, e3⟩ := fl4.there
          exact fun A Q E s k q => wpAny_typeOf_ref (k _ _ e1) (by rw [e2.1]; exact q)
        generalize hcl : hd.cls = xs at ht
        cases ht with
        | @one x np D1 t1 t2 t3 t4 =>
          refine ld_glob (X := X.suite a ((a, oe3) :: (X.pn ++ pins))) S3 t1 t3 ?_ t2
          refine (exm_one J3.kIn (LT fl3) (ex x D1 t4 t3)).here ?_
          cases hb : decide (c = x) with
          | true => exact hit h3 fl3 up3 (by rw [hcl]; simpa using hb)
          | false => exact next h3 fl3 up3 (by rw [hcl]; simpa using hb)
        | @tup es k0 pos0 _ t1 t2 =>
          refine wpAny_Tuple_spliced (names_run S3 t1 _ fun us hp => ⟨?_, ?_⟩)
          · rw [← Paired.length hp, t1.len, sizeLine_eq]; omega
          · have fl4 := flying_push fl3 { cls := .type "tuple", data := .seq us.toArray }
            have up4 : sI.heap.UpToSlots (h3.push { cls := .type "tuple", data := .seq us.toArray }) := up3.trans (Heap.UpToSlots.of_keeps fun b o e => Heap.get?_push_of_some _ e)
            have J4 : Inv X pins σ' z.H { s' with heap := h3.push { cls := .type "tuple", data := .seq us.toArray } } := J.landed nb fl4.1 up4 os ag
            refine (exm_tups J4.kIn (LT fl4) (Heap.get?_push_size _ rfl) (exm_names ex hp)).here ?_
            cases hb : decide (c ∈ xs) with
            | true => exact hit _ fl4 up4 (by rw [hcl]; simpa using hb)
            | false => exact next _ fl4 up4 (by rw [hcl]; exact hb)
    exact go hh h3 fl3 (up.trans up3) fin
  · cases f with
    | next =>
      obtain ⟨σ', H', J', q⟩ := hsp
      exact wpAny_execs_nil ⟨σ', H', J'.ofTry ok, q⟩
    | brk =>
      obtain ⟨σ', H', J', q⟩ := hsp
      exact ⟨σ', H', J'.ofTry ok, q⟩
    | cont =>
      obtain ⟨σ', H', J', q⟩ := hsp
      exact ⟨σ', H', J'.ofTry ok, q⟩
    | ret u =>
      obtain ⟨v, σ', H', J', r, q⟩ := hsp
      exact ⟨v, σ', H', J'.ofTry ok, r, q⟩
end
end L2.Cap

set_option maxRecDepth 100000
set_option maxHeartbeats 4000000
namespace L2.Cap
open PySem PySem.Spec PySem.W PySem.Calls PyProof.Rows
section
variable {K : Frag} {prog : Program} {w : World}
/-- an exception that is held knows its class -/
theorem exc_class {A : Around} {E : Value → Shared → Prop} {s : Shared} {y D : Addr} {oy : Obj} {od : Option Obj} {Q : Option Value → Shared → Prop} (T : ExcC K D) (X : K.In s.heap) (I : InstAt s.heap y oy D od) (hq : Q (some (.ref D)) { s with toks := s.toks + 1 }) :
    wpAny (model prog w) A (getAttr? (.ref y) "__class__") Q E s := by
  have hcl : (clsIn K D).isSome = true := by obtain ⟨cd, hc, _⟩ := any_some T.hd; rw [hc]; rfl
  have hfo : findObj K D od "__class__" = some (.bind (.builtin "getset_descriptor.__get__") (.builtin "object.__class__")) := by
    cases od with
    | none => exact findObj_dataN hcl T.ha T.hn T.ht
    | some o => exact findObj_data hcl T.ha T.hn T.ht
  obtain ⟨hp, g, d, t, os⟩ := s
  have A0 := I.type (M := model prog w)
  have A1 := looks_findIn (M := model prog w) X T.hg
  have A2 := looks_findIn (M := model prog w) X T.hk
  have A3 := looks_find (M := model prog w) X I hfo
  have isB : Looks (model prog w) hp (isInstance (.ref y) (.type "BaseException")) true := A0.andThen (looks_subIn X T.hs)
  have e2 : (Value.builtin "BaseException.__getattribute__" == Value.builtin "object.__getattribute__") = false := by decide +kernel
  have e1 : (onTheHeap (Value.ref D) && Value.builtin "BaseException.__getattribute__" == Value.builtin "object.__getattribute__") = false := by rw [e2]; rfl
  unfold getAttr? getAttrBy? getAttrBy
  refine wpAny_bind (wpAny_mkText (wpAny_bind (wpAny_attempt (wpAny_holding (wpAny_bind (A0.at (wpAny_bind (A1.at ?_))))))))
  show wpAny _ _ (if (onTheHeap (Value.ref D) && Value.builtin "BaseException.__getattribute__" == Value.builtin "object.__getattribute__") = true then _ else _) _ _ _
  rw [e1, if_neg Bool.false_ne_true]
  unfold getAttrByItsOwn hookBefore
  refine wpAny_bind ?_
  rw [if_pos (show onTheHeap (Value.ref D) = true from rfl)]
  refine A2.at (wpAny_bind (wpAny_attempt (wpAny_holding ?_)))
  unfold callGetattribute
  rw [show (false && onTheHeap (Value.builtin "BaseException.__getattribute__")) = false from rfl, if_neg Bool.false_ne_true]
  unfold boundAndCalled
  rw [PySem.F.excAttr_ValueError.ga.bind (.ref y)]
  refine wpAny_bind (wpAny_pure ?_)
  show wpAny _ _ (call (.builtin "BaseException.__getattribute__") [.ref y, .str "__class__" t]) _ _ _
  refine wpAny_call (codeAny_call_builtin PySem.F.excAttr_ValueError.ga.plain PySem.F.entry_bexc_ga ?_)
  refine @check_slot (model prog w) _ _ ⟨hp, g, d, t + 1, os⟩ "BaseException.__getattribute__" "BaseException" "__getattribute__" (.ref y) [.str "__class__" t] [] _ (by decide +kernel) (by decide +kernel) isB (PySem.F.args_bexc_ga (.ref y) (.str "__class__" t)) ?_
  unfold Builtin.«object.__getattribute__»
  refine wpAny_bind (wpAny_of_eq (a := ((Value.ref y : Value), [Value.str "__class__" t])) (by first | rfl | (simp only [slotArgs]; rfl)) ?_)
  refine wpAny_bind (wpAny_pure (wpAny_bind (A0.at (wpAny_bind (A3.at ?_)))))
  show wpAny _ _ (holding [Value.builtin "object.__class__"] (call (.builtin "getset_descriptor.__get__") [.builtin "object.__class__", .ref y, .ref D]) >>= ret) _ _ _
  refine wpAny_bind (wpAny_holding (wpAny_call (class_get (s := ⟨hp, g, d, t + 1, os⟩) (ox := oy) (od := od) X I T.hm ?_)))
  refine wpAny_pure ?_
  show wpAny _ _ (handedOut (.ref D)) _ _ _
  rw [handedOut_of (v := .ref D) rfl]
  first
    | exact wpAny_pure (wpAny_pure hq)
    | exact wpAny_pure hq
    | exact wpAny_pure (wpAny_bind (wpAny_pure (wpAny_pure hq)))
theorem exc_kit {y D : Addr} (T : ExcC K D) : KitX K (.ref y) (.ref D) (fun h => ∃ oy od, InstAt h y oy D od) where
  ty := fun _ _ _ ⟨_, _, I⟩ => I.type
  it := fun _ _ X _ => by
    obtain ⟨cdD, hcD, _⟩ := any_some T.hd
    unfold clsIn at hcD
    split at hcD
    · rename_i ho
      intro A' Q' E' s' k q
      unfold isType loadHead
      exact wpAny_bind (wpAny_loadPart (k _ _ (X _ _ ho)) (wpAny_pure q))
    · cases hcD
  ne := fun h tp dd its n sl X htp => by
    obtain ⟨cdD, hcD, _⟩ := any_some T.hd
    refine Bool.eq_false_iff.mpr fun q => ?_
    have e : D = tp := Value.ref.inj (beq_iff_eq.mp q)
    subst e
    unfold clsIn at hcD
    split at hcD
    · rename_i ho
      cases (X _ _ ho).symm.trans htp
    · cases hcD
  ca := fun X ⟨_, _, I⟩ k => exc_class T X I k
end
section
variable {X : Cx} {W : WX} {a : Expr} {da : DenE} {pos p p2 : Pos} {pins : List (Addr × Obj)} {σ : St} {s : Shared}
/-- where a held exception lies -/
theorem exn_at {z : Z} {b C : Addr} {d : Option Addr} {fs : List (Str × PyData)} (I : Inv X pins σ z.H s) (h : z.H b = some (exv b C d)) (xd : XD X.K z d fs) : ∃ oe od, InstAt s.heap b oe C od ∧ oe.dict = d ∧ match d with
    | none => True
    | some dd => ∃ (ws : List (Str × V)) (mA : Str → Option Value) (o : Obj), z.H dd = some (.xd ws) ∧ od = some o ∧ (∀ name, lookIn name o = some (mA name)) ∧ (∀ f, RelO (ws.lookup f) (mA f)) ∧ Paired (fun (p : Str × V) (q : Str × PyData) => p.1 = q.1 ∧ RepD X.K z.F z.H p.2 q.2) ws fs := by
  obtain ⟨⟨oe, vs, he, hz, hd⟩, _, _⟩ := I.hok b _ h
  cases d with
  | none => exact ⟨oe, none, ⟨he, hz.1, by unfold notCls; rw [hd] <;> rfl, by rw [hz.2]; trivial⟩, hz.2, trivial⟩
  | some dd =>
    obtain ⟨ws, h1, h2⟩ := xd
    have hx : ObjOk X.prog X.w z.H s.heap dd (.xd ws) := I.hok dd _ h1
    obtain ⟨mA, hns, hr⟩ := hx
    obtain ⟨o, ho, hl⟩ := lookIn_ns hns
    exact ⟨oe, some o, ⟨he, hz.1, by unfold notCls; rw [hd] <;> rfl, by rw [hz.2]; exact ho⟩, hz.2, ws, mA, o, h1, rfl, hl, hr, h2⟩
def rIsx (K : Frag) (D : Addr) : List V → Hp → VK → Prop := fun xs H Q => ∃ (z : Z) (b C : Addr) (d : Option Addr) (fs : List (Str × PyData)) (k : Bool), xs = [.ref b, .ref D] ∧ z.H = H ∧ z.H b = some (exv b C d) ∧ XD K z d fs ∧ ExcC K C ∧ kitOne K (.ref C) (.ref D) = some k ∧ Q (.bl k) H
theorem call_isx {D : Addr} : CallR X (.builtin "isinstance") (rIsx X.K D) := by
  intro pins s σ H xs us Q I r h
  obtain ⟨z, b, C, d, fs, k, rfl, rfl, h1, h2, T, e, q⟩ := h
  cases r with
  | cons rx rr =>
    cases rr with
    | cons rt rr =>
      cases rr
      cases rx
      cases rt
      obtain ⟨oe, od, J, _⟩ := exn_at I h1 h2
      exact kia_one (exc_kit T) I.kIn ⟨oe, od, J⟩ e (fun q => nomatch q) fun tk => ⟨.bl k, _, I.kept (t' := tk) fun _ _ z => z, rfl, q⟩
theorem de_isx {tab : List Str} {c : Str} {D : Addr} (hg : Gl X "isinstance") (hm : X.mg "isinstance" = none) (hgc : Gl X c) (hmc : X.mg c = some (.ref D)) (hdb : (c == ("__debug__" : Str)) = false)
    (kx : ∀ c', c' ∈ tab → ∃ C, nsIn X.K mainGlobals c' = some (some (.ref C)) ∧ ExcC X.K C ∧ kitOne X.K (.ref C) (.ref D) = some (decide (c' = c)))
    (ha : PE X a (tD X W da)) (he : starEach [a, .Name c p2] X.env = (false, eval a X.env) :: starEach [.Name c p2] X.env) :
    PE X (.Call (.Name "isinstance" p) [a, .Name c p2] [] pos) (tD X W (fun env => bindM (da env) fun x => isxM c tab x)) := by
  refine PE.imp (pe_callB (call_isx (D := D)) hg hm (by decide +kernel) (pa_cons ha (pa_cons (pe_glob (v := .ref D) hgc hmc rfl hdb) pa_nil rfl) he) (by decide) (by decide) he rfl) fun σ H Q h => ?_
  unfold tCB tCons tC
  refine tM.bind h fun z1 env x vx g1 re rx fin => ?_
  cases rx with
  | val _ => exact fin.elim
  | ref _ => exact fin.elim
  | @exn b C d cn fs n1 h1 xd =>
    unfold isxM at fin
    by_cases hc : cn ∈ tab
    · have fin : Fin X.K z1 ((if cn ∈ tab then retM (.val (.bool (decide (cn = c)))) else failM : M RV) z1.h) _ _ := fin
      rw [if_pos hc] at fin
      obtain ⟨C', n2, T, kt⟩ := kx cn hc
      rw [n1] at n2
      cases n2
      exact ⟨z1, b, C, d, fs, _, rfl, rfl, h1, xd, T, kt, Fin.ret g1 fin _ (.val (.bl _))⟩
    · have fin : Fin X.K z1 ((if cn ∈ tab then retM (.val (.bool (decide (cn = c)))) else failM : M RV) z1.h) _ _ := fin
      rw [if_neg hc] at fin
      exact fin.elim
theorem de_atx {tab fl : List Str} {f : Str} (hfl : f ∈ fl) (kx : ∀ c', c' ∈ tab → ∃ C, nsIn X.K mainGlobals c' = some (some (.ref C)) ∧ ExcC X.K C ∧ ∀ f, f ∈ fl → findIn X.K (.ref C) f = some none)
    (ha : PE X a (tD X W da)) (hb : attributeBase a f X.env (eval a X.env) = eval a X.env) : PE X (.Attribute a f pos) (tD X W (fun env => bindM (da env) fun x => atxM f tab x)) := by
  refine ⟨fun pins s σ H Q I h => ?_⟩
  refine attr_of hb (thn (ha.run pins s σ H (fun v H1 => ∃ z1 env x, z1.H = H1 ∧ Good X.K z1 ∧ RepE X.K z1 env σ ∧ RepV X.K z1 v x ∧ Fin X.K z1 (atxM f tab x z1.h) (fun a z' => ∀ b, RepV X.K z' b a → Q b z'.H) (wX X.K X.mg W σ)) I (tM.bind h fun z1 env x vx g1 re rx fin => ⟨z1, env, x, rfl, g1, re, rx, fin⟩)) fun u s1 hh => ?_)
  obtain ⟨v, H1, I1, rv, z1, env, x, rfl, g1, re, rx, fin⟩ := hh
  cases rx with
  | val _ => exact fin.elim
  | ref _ => exact fin.elim
  | @exn b C d cn fs n1 h1 xd =>
    have fin : Fin X.K z1 ((if cn ∈ tab then (match fs.lookup f with | some d => retM (.val d) | none => failM) else failM : M RV) z1.h) _ _ := fin
    by_cases hc : cn ∈ tab
    · rw [if_pos hc] at fin
      obtain ⟨C', n2, T, no⟩ := kx cn hc
      rw [n1] at n2
      cases n2
      cases hl : fs.lookup f with
      | none => rw [hl] at fin; exact fin.elim
      | some dd =>
        rw [hl] at fin
        obtain ⟨oe, od, J, hdict, at'⟩ := exn_at I1 h1 xd
        cases d with
        | none =>
          have xd : fs = [] := xd
          subst xd
          cases hl
        | some dx =>
          obtain ⟨ws, mA, o, h3, rfl, hlk, hr, pr⟩ := at'
          obtain ⟨vv, h4, rd⟩ := pair_look pr hl
          obtain rfl : u = Value.ref b := rv
          obtain ⟨uu, hu, ru⟩ := RelO.some_of (v := vv) (o := mA f) (by rw [← h4]; exact hr f)
          exact HandSPX.exc_get I1.kIn J T.hg T.hk T.hs (findObj_own T.hd (no f hfl) rfl (by rw [hlk, hu])) (handed_of ru) ⟨vv, _, I1.tok _, ru, Fin.ret g1 fin _ (.val rd)⟩
    · rw [if_neg hc] at fin
      exact fin.elim
theorem isNone_rv {K : Frag} {z : Z} {v : V} {x : RV} (r : RepV K z v x) : decide (v = V.non) = isNoneV x := by
  cases r with
  | val r => exact isNone_rep (.d r)
  | ref _ => simp [isNoneV]
  | exn _ _ _ => simp [isNoneV]
theorem isN_imp {neg : Bool} {σ : St} {H : Hp} {Q : VK} (h : tD X W (fun env => bindM (da env) fun x => retM (.val (.bool (neg != isNoneV x)))) σ H Q) :
    tOp (fun x y H Q => y = V.non ∧ Q (.bl (neg != decide (x = .non))) H) (tD X W da) (tC .non) σ H Q := by
  unfold tOp tC
  refine tM.bind h fun z1 env x vx g1 re rx fin => ⟨rfl, ?_⟩
  rw [isNone_rv rx]
  exact Fin.ret g1 fin _ (.val (.bl _))
theorem op_isNn : ∀ neg : Bool, OpR X (compareOp (if neg then .IsNot else .Is)) (fun x y H Q => y = V.non ∧ Q (.bl (neg != decide (x = .non))) H)
  | false => OpR.imp op_isN fun x y H Q h => ⟨h.1, by simpa using h.2⟩
  | true => OpR.imp op_notN fun x y H Q h => ⟨h.1, by
      have q := h.2
      rw [show (true != decide (x = V.non)) = !decide (x = V.non) from by cases decide (x = V.non) <;> rfl] at q
      exact q⟩
theorem de_isN {neg : Bool} {j : Nat} {p' : Pos} (ha : PE X a (tD X W da)) : PE X (.Compare a [if neg then .IsNot else .Is] [.Constant .none j p'] pos) (tD X W (fun env => bindM (da env) fun x => retM (.val (.bool (neg != isNoneV x))))) :=
  PE.imp (pe_cmpR (op_isNn neg) ha pe_non (by cases neg <;> rfl)) fun σ H Q h => isN_imp h
theorem pt_isN {neg : Bool} {j : Nat} {p' : Pos} (ha : PE X a (tD X W da)) : PT X (.Compare a [if neg then .IsNot else .Is] [.Constant .none j p'] pos) (tTest (tOp (fun x y H Q => y = V.non ∧ Q (.bl (neg != decide (x = .non))) H) (tD X W da) (tC .non))) :=
  pt_cmpR (op_isNn neg) ha pe_non (by cases neg <;> rfl)
/-! ### == and != of what is only read -/
def rD2R (K : Frag) (f : PyData → PyData → Option PyData) : R2 := fun x y H Q => ∃ (z : Z) (a b d : PyData), z.H = H ∧ Good K z ∧ RepR K z x a ∧ RepR K z y b ∧ f a b = some d ∧ Gives K z d Q
theorem op_eqR (hu : X.A.units + 64 < cLine) : ∀ ne : Bool, OpR X (compareOp (if ne then .NotEq else .Eq)) (rD2R X.K (eqF ne))
  | false => by
    refine OpR.imp (op_eq.or (op_eqD hu)) ?_
    rintro x y H Q ⟨z, a, b, d, rfl, g, ra, rb, e, q⟩
    have e : eqD a b = some d := e
    unfold eqD at e
    split at e
    · cases e
      refine .inl ?_
      rw [ra.str, rb.str]
      exact ⟨rfl, by rw [dec_str]; exact q.here g (.bl _)⟩
    · split at e
      · rename_i hc
        cases e
        rw [Bool.and_eq_true] at hc
        exact .inr ⟨_, _, ra.dp, rb.dp, hc.1, hc.2, q.here g (.bl _)⟩
      · cases e
  | true => by
    refine OpR.imp (op_ne.or (op_neD hu)) ?_
    rintro x y H Q ⟨z, a, b, d, rfl, g, ra, rb, e, q⟩
    have e : neD a b = some d := e
    unfold neD at e
    split at e
    · cases e
      refine .inl ?_
      rw [ra.str, rb.str]
      exact ⟨rfl, by rw [dec_str]; exact q.here g (.bl _)⟩
    · split at e
      · rename_i hc
        cases e
        rw [Bool.and_eq_true] at hc
        exact .inr ⟨_, _, ra.dp, rb.dp, hc.1, hc.2, q.here g (.bl _)⟩
      · cases e
theorem eqR_imp {ne : Bool} {db : DenE} {σ : St} {H : Hp} {Q : VK} (h : tD X W (fun env => bindM (da env) fun x => bindM (db env) fun y => twoR (eqF ne) x y) σ H Q) : tOp (rD2R X.K (eqF ne)) (tD X W da) (tD X W db) σ H Q := by
  unfold tOp
  refine tM.bind h fun z1 env x vx g1 re rx fin => ?_
  refine ⟨z1, env, rfl, g1, re, (Fin.bind g1 fin).imp (fun y z2 g2 e2 fin2 vy ry => ?_) fun _ _ _ _ _ q => q⟩
  obtain ⟨v, e, q⟩ := Fin.read fin2
  cases e1 : viewR x z2.h with
  | none => rw [e1] at e; cases e
  | some d1 =>
    cases e3 : viewR y z2.h with
    | none => rw [e1, e3] at e; cases e
    | some d2 =>
      rw [e1, e3] at e
      have e' : (eqF ne d1 d2).bind (fun d => some (RV.val d)) = some v := e
      cases e4 : eqF ne d1 d2 with
      | none => rw [e4] at e'; cases e'
      | some d =>
        rw [e4] at e'
        have e5 : RV.val d = v := Option.some.inj e'
        subst e5
        exact ⟨z2, d1, d2, d, rfl, g2, viewR_rep g2 (rx.ext g1 e2) e1, viewR_rep g2 ry e3, e4, fun z' h1 g' x' v' r' => q z' h1 g' x' v' (.val r')⟩
theorem eqF_bool {ne : Bool} {a b d : PyData} (h : eqF ne a b = some d) : ∃ k, d = .bool k := by
  cases ne with
  | false =>
    have h : eqD a b = some d := h
    unfold eqD at h
    split at h
    · cases h; exact ⟨_, rfl⟩
    · split at h
      · cases h; exact ⟨_, rfl⟩
      · cases h
  | true =>
    have h : neD a b = some d := h
    unfold neD at h
    split at h
    · cases h; exact ⟨_, rfl⟩
    · split at h
      · cases h; exact ⟨_, rfl⟩
      · cases h
theorem de_eqR {ne : Bool} {b : Expr} {db : DenE} (hu : X.A.units + 64 < cLine) (ha : PE X a (tD X W da)) (hb : PE X b (tD X W db)) (hm : behindInMarks (if ne then .NotEq else .Eq) b = false) :
    PE X (.Compare a [if ne then .NotEq else .Eq] [b] pos) (tD X W (fun env => bindM (da env) fun x => bindM (db env) fun y => twoR (eqF ne) x y)) :=
  PE.imp (pe_cmpR (op_eqR hu ne) ha hb hm) fun _ _ _ h => eqR_imp h
theorem pt_eqR {ne : Bool} {b : Expr} {db : DenE} (hu : X.A.units + 64 < cLine) (ha : PE X a (tD X W da)) (hb : PE X b (tD X W db)) (hm : behindInMarks (if ne then .NotEq else .Eq) b = false) :
    PT X (.Compare a [if ne then .NotEq else .Eq] [b] pos) (tTest (tOp (rD2R X.K (eqF ne)) (tD X W da) (tD X W db))) := pt_cmpR (op_eqR hu ne) ha hb hm
theorem twoR_bool {ne : Bool} {x y v : RV} {h h' : AH} (e : twoR (eqF ne) x y h = some (.ok v, h')) : ∃ k, v = .val (.bool k) := by
  unfold twoR readM at e
  dsimp only at e
  cases e0 : (do let a ← viewR x h; let b ← viewR y h; let d ← eqF ne a b; return RV.val d : Option RV) with
  | none => rw [e0] at e; cases e
  | some w =>
    rw [e0] at e
    cases e
    cases e1 : viewR x h with
    | none => rw [e1] at e0; cases e0
    | some d1 =>
      cases e2 : viewR y h with
      | none => rw [e1, e2] at e0; cases e0
      | some d2 =>
        rw [e1, e2] at e0
        have e' : (eqF ne d1 d2).bind (fun d => some (RV.val d)) = some v := e0
        cases e3 : eqF ne d1 d2 with
        | none => rw [e3] at e'; cases e'
        | some d =>
          rw [e3] at e'
          cases e'
          obtain ⟨k, rfl⟩ := eqF_bool e3
          exact ⟨k, rfl⟩
end
end L2.Cap

set_option maxRecDepth 100000
set_option maxHeartbeats 1000000
namespace L2.Cap
open PySem PySem.Spec PyProof.Rows
theorem bindM_ok {A B : Type} {m : M A} {f : A → M B} {h h' : AH} {b : B} (e : bindM m f h = some (.ok b, h')) : ∃ a h1, m h = some (.ok a, h1) ∧ f a h1 = some (.ok b, h') := by
  unfold bindM at e
  cases q : m h with
  | none => rw [q] at e; cases e
  | some p =>
    obtain ⟨o, h1⟩ := p
    cases o with
    | exc c fs => rw [q] at e; cases e
    | ok a => rw [q] at e; exact ⟨a, h1, rfl, e⟩
theorem two_val {f : PyData → PyData → Option PyData} {x y v : RV} {h h' : AH} (e : two f x y h = some (.ok v, h')) : ∃ a b d, f a b = some d ∧ v = .val d := by
  unfold two readM at e
  dsimp only at e
  cases e0 : (do let a ← view x h; let b ← view y h; let d ← f a b; return RV.val d : Option RV) with
  | none => rw [e0] at e; cases e
  | some w =>
    rw [e0] at e
    cases e
    cases e1 : view x h with
    | none => rw [e1] at e0; cases e0
    | some d1 =>
      cases e2 : view y h with
      | none => rw [e1, e2] at e0; cases e0
      | some d2 =>
        rw [e1, e2] at e0
        have e' : (f d1 d2).bind (fun d => some (RV.val d)) = some v := e0
        cases e3 : f d1 d2 with
        | none => rw [e3] at e'; cases e'
        | some d =>
          rw [e3] at e'
          exact ⟨d1, d2, d, e3, (Option.some.inj e').symm⟩
section
variable {X : Cx} {W : WX} {a b c e : Expr} {da db dc d : DenE} {pos : Pos}
/-- a test by the reading of its value, a bool -/
theorem dt_of {t : TE} (h : PT X e (tTest t)) (imp : ∀ σ H Q, tD X W d σ H Q → t σ H Q) (hb : ∀ env h v h', d env h = some (.ok v, h') → ∃ k, v = .val (.bool k)) : PT X e (tTe X W (fun env => bindM (d env) truM)) := by
  refine PT.imp h fun σ H Q q => imp _ _ _ ?_
  obtain ⟨z, env, rfl, g, re, fin⟩ := q
  refine ⟨z, env, rfl, g, re, ?_⟩
  have q := Fin.bind g fin
  have bb := hb env z.h
  revert q bb
  cases d env z.h with
  | none => exact fun q _ => q
  | some p =>
    obtain ⟨o, h'⟩ := p
    cases o with
    | exc c fs => exact fun q _ => q
    | ok v =>
      intro q bb z1 e1 g1 x1 w rw'
      obtain ⟨k, rfl⟩ := bb v h' rfl
      obtain ⟨k', e2, q2⟩ := Fin.read (q z1 e1 g1 x1)
      cases e2
      exact ⟨k, rw'.bool, q2 z1 rfl g1 (Ext.refl _) k rfl⟩
theorem chn_imp {f f' : PyData → PyData → Option PyData} {σ : St} {H : Hp} {Q : VK} (h : tD X W (fun env => bindM (da env) fun x => bindM (db env) fun y => bindM (two f x y) fun k => bindM (boolOf k) fun k =>
      if k then bindM (dc env) fun w => two f' y w else retM (.val (.bool false))) σ H Q) : tChain (rD2 X.K f) (rD2 X.K f') (tD X W da) (tD X W db) (tD X W dc) σ H Q := by
  unfold tChain
  refine tM.bind h fun z1 env x vx g1 re rx fin => ?_
  refine ⟨z1, env, rfl, g1, re, (Fin.bind g1 fin).imp (fun y z2 g2 e2 fin2 vy ry => ?_) fun _ _ _ _ _ q => q⟩
  refine two_rd g2 (rx.ext g1 e2) ry (Fin.bind g2 fin2) fun d z3 h3 g3 e3 fin3 v rv => ?_
  obtain ⟨k, ek, fin4⟩ := Fin.boolOf g3 fin3
  cases ek
  refine ⟨k, rv.bool, ?_⟩
  cases k with
  | true =>
    rw [if_pos rfl]
    have fin4 : Fin X.K z3 (bindM (dc env) (fun w => two f' y w) z3.h) _ _ := fin4
    refine ⟨z3, env, rfl, g3, (re.ext g1 e2).ext g2 e3, (Fin.bind g3 fin4).imp (fun w z4 g4 e4 fin5 vw rw' => ?_) fun _ _ _ _ _ q => q⟩
    exact two_rd g4 ((ry.ext g2 e3).ext g3 e4) rw' fin5 fun d z' _ _ _ q v r => q v (.val r)
  | false =>
    rw [if_neg Bool.false_ne_true]
    exact Fin.ret g3 fin4 _ (.val (.bl _))
theorem dt_chn {op op' : CmpOp} {f f' : PyData → PyData → Option PyData} (hf : ∀ a b d, f' a b = some d → ∃ k, d = .bool k) (ho : OpR X (compareOp op) (rD2 X.K f)) (ho' : OpR X (compareOp op') (rD2 X.K f')) (ha : PE X a (tD X W da)) (hb : PE X b (tD X W db)) (hc : PE X c (tD X W dc))
    (hm : lastMarks [op, op'] [b, c] = false) :
    PT X (.Compare a [op, op'] [b, c] pos) (tTe X W (fun env => bindM (bindM (da env) fun x => bindM (db env) fun y => bindM (two f x y) fun k => bindM (boolOf k) fun k =>
      if k then bindM (dc env) fun w => two f' y w else retM (.val (.bool false))) truM)) := by
  refine dt_of (d := fun env => bindM (da env) fun x => bindM (db env) fun y => bindM (two f x y) fun k => bindM (boolOf k) fun k =>
      if k then bindM (dc env) fun w => two f' y w else retM (.val (.bool false))) (pt_chain ho ho' ha hb hc hm) (fun _ _ _ h => chn_imp h) ?_
  intro env h v h' e
  obtain ⟨_, _, _, e⟩ := bindM_ok e
  obtain ⟨_, _, _, e⟩ := bindM_ok e
  obtain ⟨_, _, _, e⟩ := bindM_ok e
  obtain ⟨k, _, _, e⟩ := bindM_ok e
  cases k with
  | true =>
    obtain ⟨_, _, _, e⟩ := bindM_ok e
    obtain ⟨_, _, _, e1, rfl⟩ := two_val e
    obtain ⟨k, rfl⟩ := hf _ _ _ e1
    exact ⟨k, rfl⟩
  | false =>
    cases e
    exact ⟨false, rfl⟩
/-- a if c else b, as a test -/
theorem pt_ife {tc ta tb : TT} (hc : PT X c tc) (ha : PT X a ta) (hb : PT X b tb) : PT X (.IfExp c a b pos) (fun σ H Q => tc σ H fun k H1 => if k = true then ta σ H1 Q else tb σ H1 Q) := by
  refine ⟨fun pins s σ H Q I h => ?_⟩
  have e : isTrue (.IfExp c a b pos) X.env (eval (.IfExp c a b pos) X.env) = (do if ← isTrue c X.env (eval c X.env) then isTrue a X.env (eval a X.env) else isTrue b X.env (eval b X.env)) := by
    rw [PySem.isTrue]
  rw [e]
  refine wpAny_bind (thn (hc.run pins s σ H _ I h) fun k s1 ⟨H1, I1, q1⟩ => ?_)
  cases k with
  | true => exact ha.run pins s1 σ H1 Q I1 q1
  | false => exact hb.run pins s1 σ H1 Q I1 q1
theorem dt_ife (hc : PT X c (tTe X W (fun env => bindM (dc env) truM))) (ha : PT X a (tTe X W (fun env => bindM (da env) truM))) (hb : PT X b (tTe X W (fun env => bindM (db env) truM))) :
    PT X (.IfExp c a b pos) (tTe X W (fun env => bindM (bindM (dc env) fun x => bindM (truM x) fun k => if k then da env else db env) truM)) := by
  refine PT.imp (pt_ife hc ha hb) fun σ H Q h => ?_
  have h : tTe X W (fun env => bindM (bindM (dc env) truM) fun k => if k = true then bindM (da env) truM else bindM (db env) truM) σ H Q := by
    obtain ⟨z, env, rfl, g, re, fin⟩ := h
    refine ⟨z, env, rfl, g, re, ?_⟩
    have e : bindM (bindM (dc env) fun x => bindM (truM x) fun k => if k then da env else db env) truM z.h = bindM (bindM (dc env) truM) (fun k => if k = true then bindM (da env) truM else bindM (db env) truM) z.h := by
      rw [bindM_assoc, bindM_assoc]
      congr 1
      funext x h
      rw [bindM_assoc]
      congr 1
      funext k h
      cases k <;> rfl
    show Fin X.K z (bindM (bindM (dc env) truM) (fun k => if k = true then bindM (da env) truM else bindM (db env) truM) z.h) _ _
    rw [← e]
    exact fin
  refine tM.bind h fun z1 env k b g1 re e fin => ?_
  subst e
  cases b with
  | true => exact ⟨z1, env, rfl, g1, re, fin⟩
  | false => exact ⟨z1, env, rfl, g1, re, fin⟩
end

/-! ### the text against the forms -/
structure Ck where
  N : List Str
  sc : Scope
  fnc : Option Scope
  con : List Str
  fns : List (Str × Nat)
  free : List Str
  cls : List (Str × Option Str)
def Ck.flds (c : Ck) : List Str := c.cls.filterMap (·.2)
def Ck.kn (c : Ck) (x : Str) : Bool := (c.cls.lookup x).isSome
def Ck.fn (c : Ck) (x : Str) : Bool := match c.fnc with
  | none => true
  | some s => s.names.lookup x == some .cell
def Ck.blk (c : Ck) (s : Scope) : Ck := { c with sc := relS s c.sc, fnc := some s }
def Ck.vis (c : Ck) (x : Str) : Bool := match c.sc.names.lookup x with
  | some .local => true
  | some .cell => true
  | some .free => true
  | _ => false
def Ck.loc (c : Ck) (x : Str) : Bool := match c.sc.names.lookup x with
  | some .local => true
  | some .cell => c.fn x
  | _ => false
def Ck.lcl (c : Ck) (x : Str) : Bool := match c.sc.names.lookup x with
  | some .local => true
  | _ => false
def Ck.gl (c : Ck) (x : Str) : Bool := match c.sc.names.lookup x with
  | some .globalImplicit => !(x == ("__debug__" : Str)) && !(x == ("__name__" : Str))
  | _ => false
def notStar : Expr → Bool
  | .Starred _ _ => false
  | _ => true
def notSet : Expr → Bool
  | .Set _ _ _ => false
  | _ => true
def notSlice : Expr → Bool
  | .Slice _ _ _ _ => false
  | _ => true
def notComp : Expr → Bool
  | .ListComp _ _ _ _ => false
  | .SetComp _ _ _ _ => false
  | .DictComp _ _ _ _ _ => false
  | _ => true
def notTup : Expr → Bool
  | .Tuple _ _ _ => false
  | .List _ _ => false
  | _ => true
def notCall0 : Expr → Bool
  | .Call (.Name _ _) [] [] _ => false
  | _ => true
def plainT : Expr → Bool
  | .UnaryOp _ _ _ => false
  | .BoolOp _ _ _ => false
  | .IfExp _ _ _ _ => false
  | .Compare _ _ _ _ => false
  | _ => true
def opIs : Op2 → Operator → Bool
  | .add, .Add => true
  | .sub, .Sub => true
  | .mul, .Mult => true
  | .fdiv, .FloorDiv => true
  | .mod, .Mod => true
  | .pow, .Pow => true
  | _, _ => false
def Cm.py : Cm → CmpOp
  | .eq => .Eq
  | .ne => .NotEq
  | .lt => .Lt
  | .le => .LtE
  | .gt => .Gt
  | .ge => .GtE
  | .is => .Is
  | .isnot => .IsNot
  | .isin => .In
  | .notin => .NotIn
def cmIs : Cm → CmpOp → Bool
  | .eq, .Eq => true
  | .ne, .NotEq => true
  | .lt, .Lt => true
  | .le, .LtE => true
  | .gt, .Gt => true
  | .ge, .GtE => true
  | .is, .Is => true
  | .isnot, .IsNot => true
  | .isin, .In => true
  | .notin, .NotIn => true
  | _, _ => false
theorem opIs_eq {o : Op2} {p : Operator} (h : opIs o p = true) : p = o.py := by
  cases o <;> cases p <;> first | rfl | cases h
theorem cmIs_eq {o : Cm} {p : CmpOp} (h : cmIs o p = true) : p = o.py := by
  cases o <;> cases p <;> first | rfl | cases h
def bopIs : Bool → BoolOp → Bool
  | true, .And => true
  | false, .Or => true
  | _, _ => false
def Bf.nm : Bf → Str
  | .len => "len"
  | .min => "min"
  | .max => "max"
  | .abs => "abs"
  | .ord => "ord"
  | .str => "str"
  | .int => "int"
  | .tuple => "tuple"
  | .list => "list"
  | .sum => "sum"
  | .all => "all"
  | .any => "any"
  | .repr => "repr"
  | .sorted => "sorted"
def Mf.nm : Mf → Str
  | .join => "join"
  | .startswith => "startswith"
  | .split => "split"
  | .rstrip => "rstrip"
  | .strip => "strip"
def Mf.ok : Mf → Bool
  | .join => true
  | .startswith => true
  | .split => true
  | _ => false
def Xs.len : Xs → Nat
  | .nil => 0
  | .cons _ l => l.len + 1
def strKeys : List Str → List (Option Expr) → Bool
  | [], l => (match l with
    | [] => true
    | _ => false)
  | k :: ks, l => (match l with
    | some (.Constant (.str x) _ _) :: r => decide (x = k) && strKeys ks r
    | _ => false)
mutual
def chE (c : Ck) : Ex → Expr → Bool
  | .var i, e => (match e with
    | .Name x _ => decide (c.N[i]? = some x) && c.vis x && !(x == ("__debug__" : Str)) && !(x == ("__classdict__" : Str))
    | _ => false)
  | .cint i, e => (match e with
    | .Constant (.int j) _ _ => decide (j = i)
    | _ => false)
  | .cstr x, e => (match e with
    | .Constant (.str y) _ _ => decide (y = x)
    | _ => false)
  | .cbl b, e => (match e with
    | .Constant (.bool d) _ _ => decide (d = b)
    | _ => false)
  | .cnon, e => (match e with
    | .Constant .none _ _ => true
    | _ => false)
  | .glo x, e => (match e with
    | .Name y _ => decide (y = x) && c.gl x && decide (x ∈ c.con)
    | _ => false)
  | .bin o a b, e => (match e with
    | .BinOp l op r _ => opIs o op && chE c a l && chE c b r
    | _ => false)
  | .neg a, e => (match e with
    | .UnaryOp .USub l _ => chE c a l
    | _ => false)
  | .cmp o a b, e => (match e with
    | .Compare l [op] [r] _ => cmIs o op && chE c a l && chE c b r && notSet r
    | _ => false)
  | .chn o p a b d, e => (match e with
    | .Compare l [op, op'] [r, t] _ => cmIs o op && cmIs p op' && chE c a l && chE c b r && chE c d t && notSet t
    | _ => false)
  | .bop k l, e => (match e with
    | .BoolOp op es _ => bopIs k op && chA c l es && decide (l.len ≠ 0)
    | _ => false)
  | .nt a, e => (match e with
    | .UnaryOp .Not l _ => chE c a l
    | _ => false)
  | .ife x a b, e => (match e with
    | .IfExp t l r _ => chE c x t && chE c a l && chE c b r
    | _ => false)
  | .tup l, e => (match e with
    | .Tuple es _ _ => chA c l es
    | _ => false)
  | .lst l, e => (match e with
    | .List es _ => chA c l es
    | _ => false)
  | .lstH l, e => (match e with
    | .List es _ => chA c l es
    | _ => false)
  | .ix a b, e => (match e with
    | .Subscript l r _ => chE c a l && chE c b r && notSlice r
    | _ => false)
  | .slc a lo hi, e => (match e with
    | .Subscript l (.Slice x y none _) _ => chE c a l && chO c lo x && chO c hi y
    | _ => false)
  | .slcH a lo hi, e => (match e with
    | .Subscript l (.Slice x y none _) _ => chE c a l && chO c lo x && chO c hi y
    | _ => false)
  | .call f l, e => (match e with
    | .Call (.Name x _) es [] _ => decide (x = f) && c.gl f && decide (c.fns.lookup f = some l.len) && chA c l es
    | _ => false)
  | .callP f l, e => (match e with
    | .Call (.Name x _) es [] _ => decide (x = f) && c.gl f && decide (c.fns.lookup f = some l.len) && chA c l es
    | _ => false)
  | .blt f l, e => (match e with
    | .Call (.Name x _) es [] _ => decide (x = f.nm) && c.gl x && decide (x ∈ c.free) && chA c l es && decide (l.len ≠ 0)
    | _ => false)
  | .listH a, e => (match e with
    | .Call (.Name x _) [l] [] _ => decide (x = "list") && c.gl x && decide (x ∈ c.free) && chE c a l && notStar l
    | _ => false)
  | .isi a t, e => (match e with
    | .Call (.Name x _) [l, .Name y _] [] _ => decide (x = "isinstance") && c.gl x && decide (x ∈ c.free) && decide (y = (t.nm : Str)) && c.gl y && decide (y ∈ c.free) && chE c a l && notStar l
    | _ => false)
  | .lc _ elt tg it cs own, e => (match e with
    | .ListComp l [⟨g, iter, ifs, 0⟩] s _ => blkC c.N c.sc s own && chI c it g iter && chG (c.blk s) tg g && chC (c.blk s) cs ifs && chE (c.blk s) elt l && (tg.slots.all fun n => decide (n ∈ own.map (·.2)))
    | _ => false)
  | .app o a, e => (match e with
    | .Call (.Attribute l x ap) [r] [] p => decide (x = "append") && chE c o l && chE c a r && notCall0 l && notStar r && (ap.endLine == p.line)
    | _ => false)
  | .dsp ks l, e => (match e with
    | .Dict keys es _ => strKeys ks keys && chA c l es && decide (l.len = ks.length) && decide (ks ≠ []) && decide (ks.length ≤ 15) && decide ks.Nodup
    | _ => false)
  | .mth0 _ _, _ => false
  | .mth1 m o a, e => (match e with
    | .Call (.Attribute l x ap) [r] [] p => decide (x = m.nm) && m.ok && chE c o l && chE c a r && notCall0 l && notStar r && (ap.endLine == p.line)
    | _ => false)
  | .frz a, e => chE c a e && plainT e
  | .isx a d tab, e => (match e with
    | .Call (.Name x _) [l, .Name y _] [] _ => decide (x = "isinstance") && c.gl x && decide (x ∈ c.free) && decide (y = d) && c.gl y && c.kn y && tab.all c.kn && chE c a l && notStar l
    | _ => false)
  | .atx a f tab, e => (match e with
    | .Attribute l y _ => decide (y = f) && decide (f ∈ c.flds) && tab.all c.kn && chE c a l && notCall0 l
    | _ => false)
  | .isN neg a, e => (match e with
    | .Compare l [op] [.Constant .none _ _] _ => decide (op = (if neg then .IsNot else .Is)) && chE c a l
    | _ => false)
  | .eqR ne a b, e => (match e with
    | .Compare l [op] [r] _ => decide (op = (if ne then .NotEq else .Eq)) && chE c a l && chE c b r && notSet r
    | _ => false)
  | .outc _ _ _ _, _ => false
def chA (c : Ck) : Xs → List Expr → Bool
  | .nil, es => (match es with
    | [] => true
    | _ => false)
  | .cons a l, es => (match es with
    | e :: r => chE c a e && notStar e && chA c l r
    | _ => false)
def chC (c : Ck) : Xs → List Expr → Bool
  | .nil, es => (match es with
    | [] => true
    | _ => false)
  | .cons a .nil, es => (match es with
    | [e] => chE c a e
    | _ => false)
  | .cons _ (.cons _ _), _ => false
def chO (c : Ck) : Oe → Option Expr → Bool
  | .no, o => (match o with
    | none => true
    | _ => false)
  | .so a, o => (match o with
    | some e => chE c a e
    | none => false)
def chI (c : Ck) : It' → Expr → Expr → Bool
  | .ex a, _, e => chE c a e && notSet e
  | .rng1 a, _, e => (match e with
    | .Call (.Name x _) [l] [] _ => decide (x = "range") && c.gl x && decide (x ∈ c.free) && chE c a l && notStar l
    | _ => false)
  | .rng2 a b, _, e => (match e with
    | .Call (.Name x _) [l, r] [] _ => decide (x = "range") && c.gl x && decide (x ∈ c.free) && chE c a l && chE c b r && notStar l && notStar r
    | _ => false)
  | .enu a, g, e => (match g, e with
    | .Tuple _ _ _, .Call (.Name x _) [l] [] _ => decide (x = "enumerate") && c.gl x && decide (x ∈ c.free) && chE c a l && notStar l
    | _, _ => false)
  | .zip a b, g, e => (match g, e with
    | .Tuple _ _ _, .Call (.Name x _) [l, r] [] _ => decide (x = "zip") && c.gl x && decide (x ∈ c.free) && chE c a l && chE c b r && notStar l && notStar r
    | _, _ => false)
def chG (c : Ck) : Tg → Expr → Bool
  | .nm i, e => (match e with
    | .Name x _ => decide (c.N[i]? = some x) && c.loc x
    | _ => false)
  | .tup l, e => (match e with
    | .Tuple es _ _ => chGs c l es
    | _ => false)
  | .sub o i, e => (match e with
    | .Subscript l r _ => chE c o l && chE c i r && notSlice r
    | _ => false)
def chGs (c : Ck) : Ts → List Expr → Bool
  | .nil, es => (match es with
    | [] => true
    | _ => false)
  | .cons t l, es => (match es with
    | e :: r => chG c t e && notStar e && chGs c l r
    | _ => false)
end
end L2.Cap

set_option maxRecDepth 100000
set_option maxHeartbeats 1000000
namespace L2.Cap
open PySem PySem.Spec PyProof.Rows
/-- what a context is to know -/
structure Bd (P : Pg) (k : Nat) (c : Ck) (X : Cx) (W : WX) : Prop where
  N : X.N = c.N
  sc : X.env.scope = c.sc
  fn : ∀ x, X.fn x = c.fn x
  nd : X.N.Nodup
  calm : X.calm = true
  room : Room k X.A
  gu : X.A.guards = some []
  tk : Takes X W
  con : ∀ x, x ∈ c.con → ∃ d u v, P.con.lookup x = some d ∧ X.mg x = some u ∧ RelV v u ∧ ∀ F H, RepD X.K F H v d
  fns : ∀ f n, c.fns.lookup f = some n → ∃ a fd ps, ps.length = n ∧ FnG X.prog X.w X.K X.mg X.base k a fd ps (spD X.K X.mg n (run P k f)) ∧ X.mg f = some (.ref a) ∧ PySem.W.keepIn X.K (.ref a) = true ∧ Binds X.K fd ps []
  free : ∀ x, x ∈ c.free → X.mg x = none
  xc : ∀ cn f, c.cls.lookup cn = some f → ∃ C, X.mg cn = some (.ref C) ∧ PySem.W.nsIn X.K mainGlobals cn = some (some (.ref C)) ∧ XOk X.prog X.K C f c.flds
  xp : ∀ c1 f1 c2 f2 C1 C2, c.cls.lookup c1 = some f1 → c.cls.lookup c2 = some f2 → PySem.W.nsIn X.K mainGlobals c1 = some (some (.ref C1)) → PySem.W.nsIn X.K mainGlobals c2 = some (some (.ref C2)) → PySem.W.exmOne X.K (.ref C1) (.ref C2) = some (decide (c1 = c2)) ∧ PySem.W.kitOne X.K (.ref C1) (.ref C2) = some (decide (c1 = c2))
section
variable {P : Pg} {k : Nat} {c : Ck} {X : Cx} {W : WX}
theorem Bd.blk (B : Bd P k c X W) (scope : Scope) (s : Shared) (H : Hp) (C : Addr) (cl : List (Str × Addr)) (fp : List Addr) : Bd P k (c.blk scope) (X.blk s H scope (compEnvC scope cl C X.env) fp) wNo where
  N := B.N
  sc := by show relS scope X.env.scope = relS scope c.sc; rw [B.sc]
  fn := fun x => rfl
  nd := B.nd
  calm := B.calm
  room := B.room
  gu := B.gu
  tk := fun u s' ⟨a, B, sI, pins, σ, H, cls, d, e, I, nb, up, sky, na, os, ag, w⟩ => w.elim
  con := B.con
  fns := B.fns
  free := B.free
  xc := B.xc
  xp := B.xp
theorem Bd.xk (B : Bd P k c X W) {x : Str} (h : c.kn x = true) : ∃ f C, c.cls.lookup x = some f ∧ X.mg x = some (.ref C) ∧ PySem.W.nsIn X.K mainGlobals x = some (some (.ref C)) ∧ XOk X.prog X.K C f c.flds := by
  obtain ⟨f, e⟩ := Option.isSome_iff_exists.mp h
  obtain ⟨C, h1, h2, h3⟩ := B.xc x f e
  exact ⟨f, C, e, h1, h2, h3⟩
theorem Bd.vis (B : Bd P k c X W) {x : Str} (h : c.vis x = true) : Vis X.env.scope x := by
  unfold Ck.vis at h
  unfold Vis
  rw [B.sc]
  split at h
  · exact .inl (by assumption)
  · exact .inr (.inl (by assumption))
  · exact .inr (.inr (by assumption))
  · cases h
theorem Bd.loc (B : Bd P k c X W) {x : Str} (h : c.loc x = true) : Loc X.env.scope x ∧ (X.fn x = true ∨ X.env.scope.names.lookup x = some .local) := by
  unfold Ck.loc at h
  unfold Loc
  rw [B.sc]
  split at h
  · rename_i q; exact ⟨.inl q, .inr q⟩
  · rename_i q; exact ⟨.inr q, .inl (by rw [B.fn]; exact h)⟩
  · cases h
theorem Bd.lcl (B : Bd P k c X W) {x : Str} (h : c.lcl x = true) : X.env.scope.names.lookup x = some .local := by
  unfold Ck.lcl at h
  rw [B.sc]
  split at h
  · assumption
  · cases h
theorem Bd.gl (B : Bd P k c X W) {x : Str} (h : c.gl x = true) : Gl X x ∧ (x == ("__debug__" : Str)) = false ∧ x ≠ "__name__" := by
  unfold Ck.gl at h
  unfold Gl Env.kindOf
  rw [B.sc]
  split at h
  · rename_i q
    simp only [Bool.and_eq_true, Bool.not_eq_true'] at h
    exact ⟨q, h.1, fun e => by rw [e] at h; simp at h⟩
  · cases h
end
theorem star_cons {e : Expr} {es : List Expr} {env : Env} (h : notStar e = true) : starEach (e :: es) env = (false, eval e env) :: starEach es env := by
  cases e <;> first | rfl | cases h
theorem assign_cons {e : Expr} {es : List Expr} {env : Env} (h : notStar e = true) : assignEach (e :: es) env = (false, assign e env) :: assignEach es env := by
  cases e <;> first | rfl | cases h
theorem behind_no {op : CmpOp} {e : Expr} (h : notSet e = true) : behindInMarks op e = false := by
  cases e <;> first | rfl | cases h
theorem last_no {op op' : CmpOp} {b e : Expr} (h : notSet e = true) : lastMarks [op, op'] [b, e] = false := behind_no h
theorem fold_no {e : Expr} {env : Env} (h : notSet e = true) (x : Value) : foldedSetIterable e env x = pure x := by
  cases e <;> first | rfl | cases h
theorem plain_ix {e : Expr} (h : notSlice e = true) : PlainIx e := by
  intro o i
  cases e <;> first | rfl | cases h
theorem base_no {e : Expr} {x : Str} {env : Env} {t : Sem Value} (h : notCall0 e = true) : attributeBase e x env t = t := by
  unfold attributeBase
  split
  · cases h
  · rfl
theorem true_def {e : Expr} {env : Env} (h : plainT e = true) (whole : Sem Value) : PySem.isTrue e env whole = (do let v ← whole; standAt e.pos; holding [v] (truthy v)) := by
  cases e <;> first | rfl | cases h
theorem back_any {pos : Pos} : ∀ {l : List (Bool × Sem Value)}, l.any (·.1) = false → (backTo pos l).any (·.1) = false
  | [], _ => rfl
  | (b, t) :: r, h => by
    have h : (b || r.any (·.1)) = false := h
    rw [Bool.or_eq_false_iff] at h
    show (b || (backTo pos r).any (·.1)) = false
    rw [h.1, back_any h.2]
    rfl
theorem if_bool {p : Prop} [Decidable p] {x : Bool} {d : PyData} (h : (if p then some (PyData.bool x) else none) = some d) : ∃ k, d = .bool k := by
  split at h
  · cases h; exact ⟨_, rfl⟩
  · cases h
theorem inD_bool {a b d : PyData} (h : inD a b = some d) : ∃ k, d = .bool k := by
  unfold inD at h
  split at h
  · cases h; exact ⟨_, rfl⟩
  · exact if_bool h
  · exact if_bool h
  · cases h
theorem cmF_bool : ∀ (o : Cm) (a b d : PyData), cmF o a b = some d → ∃ k, d = .bool k
  | .eq, a, b, d, h => by
    have h : eqD a b = some d := h
    unfold eqD at h
    split at h
    · cases h; exact ⟨_, rfl⟩
    · exact if_bool h
  | .ne, a, b, d, h => by
    have h : neD a b = some d := h
    unfold neD at h
    split at h
    · cases h; exact ⟨_, rfl⟩
    · exact if_bool h
  | .lt, a, b, d, h => by
    have h : ltD a b = some d := h
    unfold ltD at h
    split at h <;> first | (cases h; done) | (cases h; exact ⟨_, rfl⟩)
  | .le, a, b, d, h => by
    have h : leD a b = some d := h
    unfold leD at h
    split at h <;> first | (cases h; done) | (cases h; exact ⟨_, rfl⟩)
  | .gt, a, b, d, h => by
    have h : gtD a b = some d := h
    unfold gtD at h
    split at h <;> first | (cases h; done) | (cases h; exact ⟨_, rfl⟩)
  | .ge, a, b, d, h => by
    have h : geD a b = some d := h
    unfold geD at h
    split at h <;> first | (cases h; done) | (cases h; exact ⟨_, rfl⟩)
  | .is, a, b, d, h => by
    have h : isD a b = some d := h
    unfold isD at h
    split at h <;> first | (cases h; done) | (cases h; exact ⟨_, rfl⟩)
  | .isnot, a, b, d, h => by
    have h : isnotD a b = some d := h
    unfold isnotD at h
    split at h <;> first | (cases h; done) | (cases h; exact ⟨_, rfl⟩)
  | .isin, a, b, d, h => inD_bool h
  | .notin, a, b, d, h => by
    have h : notD (inD a b) = some d := h
    unfold notD at h
    split at h <;> first | (cases h; done) | (cases h; exact ⟨_, rfl⟩)
theorem opd_op {X : Cx} : ∀ o : Op2, OpR X (binaryOp o.py) (rD2 X.K (opF o))
  | .add => opd_add
  | .sub => opd_sub
  | .mul => opd_mul
  | .fdiv => opd_fdiv
  | .mod => opd_mod
  | .pow => opd_pow
theorem opd_cm {X : Cx} (hu : X.A.units + 64 < cLine) : ∀ o : Cm, OpR X (compareOp o.py) (rD2 X.K (cmF o))
  | .eq => opd_eq hu
  | .ne => opd_ne hu
  | .lt => opd_lt
  | .le => opd_le
  | .gt => opd_gt
  | .ge => opd_ge
  | .is => opd_is
  | .isnot => opd_isnot
  | .isin => opd_in
  | .notin => opd_notin
end L2.Cap

set_option maxRecDepth 100000
set_option maxHeartbeats 1000000
namespace L2.Cap
open PySem PySem.Spec PyProof.Rows
def Bf.isT : Bf → Bool
  | .str => true
  | .int => true
  | .tuple => true
  | .list => true
  | _ => false
section
variable {X : Cx} {W : WX} {a : Expr} {es : List Expr} {dA : DenA} {pos p : Pos}
theorem boot_blt : ∀ f : Bf, bootBuiltins f.nm = some (if f.isT then .type f.nm.toString else .builtin f.nm.toString) := by
  intro f
  cases f <;> decide +kernel
theorem de_blt (f : Bf) (hc : X.calm = true) (gu : X.A.guards = some []) (hu : X.A.units + 64 < cLine) (hg : Gl X f.nm) (hm : X.mg f.nm = none) (ha : PA X (a :: es) (tA X W dA)) (hn : f.nm ≠ "__name__") (hdb : (f.nm == ("__debug__" : Str)) = false)
    (he : starEach (a :: es) X.env = (false, eval a X.env) :: starEach es X.env) (hpl : (backTo pos (starEach es X.env)).any (·.1) = false) :
    PE X (.Call (.Name f.nm p) (a :: es) [] pos) (tD X W (fun env => bindM (dA env) fun xs => readM fun h => do
      let ds ← viewsR h xs
      let d ← bfF f ds
      return .val d)) := by
  cases f
  case len => exact de_bltB crd_len hg hm (by decide +kernel) ha hn hdb he hpl
  case min => exact de_bltB (crd_min hc) hg hm (by decide +kernel) ha hn hdb he hpl
  case max => exact de_bltB (crd_max hc) hg hm (by decide +kernel) ha hn hdb he hpl
  case abs => exact de_bltB crd_abs hg hm (by decide +kernel) ha hn hdb he hpl
  case ord => exact de_bltB crd_ord hg hm (by decide +kernel) ha hn hdb he hpl
  case str => exact de_bltT crd_str hg hm (by decide +kernel) ha hn hdb he hpl
  case int => exact de_bltT crd_int hg hm (by decide +kernel) ha hn hdb he hpl
  case tuple => exact de_bltT crd_tuple hg hm (by decide +kernel) ha hn hdb he hpl
  case list => exact de_bltT crd_list hg hm (by decide +kernel) ha hn hdb he hpl
  case sum => exact de_bltB (crd_sum hc) hg hm (by decide +kernel) ha hn hdb he hpl
  case all => exact de_bltB (crd_all hc) hg hm (by decide +kernel) ha hn hdb he hpl
  case any => exact de_bltB (crd_any hc) hg hm (by decide +kernel) ha hn hdb he hpl
  case repr => exact de_bltB (crd_repr gu hu) hg hm (by decide +kernel) ha hn hdb he hpl
  case sorted => exact de_bltB crd_sorted hg hm (by decide +kernel) ha hn hdb he hpl
end
theorem boot_ty : ∀ t : Ty, bootBuiltins (t.nm : Str) = some (.type t.nm) := by
  intro t
  cases t <;> decide +kernel
theorem denA_len {G : Gd} : ∀ (l : Xs) {env : EnvD} {h h' : AH} {xs : List RV}, denA G l env h = some (.ok xs, h') → xs.length = l.len
  | .nil, env, h, h', xs, e => by
    rw [denA] at e
    cases e
    rfl
  | .cons a l, env, h, h', xs, e => by
    rw [denA] at e
    obtain ⟨x, h1, _, e⟩ := bindM_ok e
    obtain ⟨ys, h2, e2, e⟩ := bindM_ok e
    cases e
    show ys.length + 1 = l.len + 1
    rw [denA_len l e2]
theorem chA_len {c : Ck} : ∀ (l : Xs) {es : List Expr}, chA c l es = true → es.length = l.len
  | .nil, es, h => by
    unfold chA at h
    split at h
    · rfl
    · cases h
  | .cons a l, es, h => by
    unfold chA at h
    split at h
    · rename_i e r
      simp only [Bool.and_eq_true] at h
      show r.length + 1 = l.len + 1
      rw [chA_len l h.2]
    · cases h
theorem chA_star {c : Ck} {env : Env} : ∀ (l : Xs) {es : List Expr}, chA c l es = true → (starEach es env).any (·.1) = false
  | .nil, es, h => by
    unfold chA at h
    split at h
    · rfl
    · cases h
  | .cons a l, es, h => by
    unfold chA at h
    split at h
    · simp only [Bool.and_eq_true] at h
      rw [star_cons h.1.2]
      show (false || _) = false
      rw [chA_star l h.2]
      rfl
    · cases h
def Ts.len : Ts → Nat
  | .nil => 0
  | .cons _ l => l.len + 1
theorem chGs_each {c : Ck} {env : Env} : ∀ (l : Ts) {es : List Expr}, chGs c l es = true → (assignEach es env).length = l.len ∧ (assignEach es env).findIdx? (·.1) = none
  | .nil, es, h => by
    unfold chGs at h
    split at h
    · exact ⟨rfl, rfl⟩
    · cases h
  | .cons t l, es, h => by
    unfold chGs at h
    split at h
    · simp only [Bool.and_eq_true] at h
      rw [assign_cons h.1.2]
      obtain ⟨h1, h2⟩ := chGs_each (env := env) l h.2
      refine ⟨by show _ + 1 = l.len + 1; rw [h1], ?_⟩
      rw [List.findIdx?_cons]
      simp [h2]
    · cases h
theorem denGs_len {G : Gd} : ∀ (l : Ts) {ds : List PyData} {env : EnvD} {h : AH} {r : Out EnvD × AH}, denGs G l ds env h = some r → ds.length = l.len
  | .nil, ds, env, h, r, e => by
    cases ds with
    | nil => rfl
    | cons _ _ => unfold denGs at e; cases e
  | .cons t l, ds, env, h, r, e => by
    cases ds with
    | nil => unfold denGs at e; cases e
    | cons d ds =>
      unfold denGs at e
      have e : bindM (sureM (denG G t (.val d) env)) (fun env2 => denGs G l ds env2) h = some r := e
      unfold bindM sureM at e
      cases q : denG G t (.val d) env h with
      | none => rw [q] at e; cases e
      | some p =>
        obtain ⟨o, h1⟩ := p
        rw [q] at e
        cases o with
        | ok env2 => exact congrArg (· + 1) (denGs_len l e)
        | exc c fs => cases e
theorem PG.sure {X : Cx} {e : Expr} {ns : List Nat} {f : RV → EnvD → M EnvD} (h : PG X e (tGd X.K ns f)) : PG X e (tGd X.K ns (fun v env => sureM (f v env))) := by
  refine PG.imp h ?_
  rintro v σ H Q ⟨z, env, x, rfl, g, re, rv, fin⟩
  exact ⟨z, env, x, rfl, g, re, rv, Fin.sure fin⟩
theorem assign_sub {o i : Expr} {pos : Pos} {env : Env} (h : notSlice i = true) (v : Value) : assign (.Subscript o i pos) env v = (do
      let ov ← holding [v] (eval o env)
      let iv ← holding [v, ov] (eval i env)
      standAt pos
      holding [v, ov, iv] (setItem ov iv v)
      release [v, ov, iv] []) := by
  cases i <;> first | rfl | cases h
end L2.Cap

set_option maxRecDepth 100000
set_option maxHeartbeats 2000000
namespace L2.Cap
open PySem PySem.Spec PyProof.Rows
theorem PI.imp {X : Cx} {tg e : Expr} {t t' : TI} (h : PI X tg e t) (i : ∀ σ H R, t' σ H R → t σ H R) : PI X tg e t' := ⟨fun pins s σ H R I q => h.run pins s σ H R I (i _ _ _ q)⟩
abbrev Snd (P : Pg) (k : Nat) (X : Cx) (W : WX) (x : Ex) (e : Expr) : Prop := PE X e (tD X W (den (P.gd k) x)) ∧ PT X e (tTe X W (fun env => bindM (den (P.gd k) x env) truM))
theorem Snd.mk' {P : Pg} {k : Nat} {X : Cx} {W : WX} {x : Ex} {e : Expr} (q : PE X e (tD X W (den (P.gd k) x))) (h : plainT e = true) : Snd P k X W x e := ⟨q, dt_truth q (true_def h)⟩
theorem cast_E {X : Cx} {W : WX} {e : Expr} {d d' : DenE} (h : PE X e (tD X W d)) (q : d' = d) : PE X e (tD X W d') := by rw [q]; exact h
theorem cast_T {X : Cx} {W : WX} {e : Expr} {d d' : DenE} (h : PT X e (tTe X W (fun env => bindM (d env) truM))) (q : d' = d) : PT X e (tTe X W (fun env => bindM (d' env) truM)) := by rw [q]; exact h
theorem strKeys_ok : ∀ (ks : List Str) (keys : List (Option Expr)), strKeys ks keys = true → keys.length = ks.length ∧ keys.all (·.isSome) = true
  | [], keys, h => by
    unfold strKeys at h
    split at h
    · exact ⟨rfl, rfl⟩
    · cases h
  | k :: ks, keys, h => by
    unfold strKeys at h
    split at h
    · simp only [Bool.and_eq_true] at h
      obtain ⟨q1, q2⟩ := strKeys_ok _ _ h.2
      exact ⟨congrArg (· + 1) q1, by rw [List.all_cons, q2]; rfl⟩
    · cases h
mutual
theorem sE {P : Pg} {k : Nat} : (x : Ex) → ∀ {c : Ck} {X : Cx} {W : WX}, Bd P k c X W → ∀ {e : Expr}, chE c x e = true → Snd P k X W x e
  | .var i, c, X, W, B, e, h => by
    unfold chE at h
    split at h
    · simp only [Bool.and_eq_true, decide_eq_true_eq, Bool.not_eq_true'] at h
      obtain ⟨⟨⟨h1, h2⟩, h3⟩, h4⟩ := h
      exact .mk' (cast_E (de_var (by rw [B.N]; exact h1) (B.vis h2) h3 h4) (by funext env; rw [den]; try rfl)) rfl
    · cases h
  | .cint i, c, X, W, B, e, h => by
    unfold chE at h
    split at h
    · cases of_decide_eq_true h
      exact .mk' (cast_E (de_con pe_int fun _ _ => .int _) (by funext env; rw [den]; try rfl)) rfl
    · cases h
  | .cstr i, c, X, W, B, e, h => by
    unfold chE at h
    split at h
    · cases of_decide_eq_true h
      exact .mk' (cast_E (de_con pe_str fun _ _ => .str _) (by funext env; rw [den]; try rfl)) rfl
    · cases h
  | .cbl i, c, X, W, B, e, h => by
    unfold chE at h
    split at h
    · cases of_decide_eq_true h
      exact .mk' (cast_E (de_con pe_bl fun _ _ => .bl _) (by funext env; rw [den]; try rfl)) rfl
    · cases h
  | .cnon, c, X, W, B, e, h => by
    unfold chE at h
    split at h
    · exact .mk' (cast_E (de_con pe_non fun _ _ => .non) (by funext env; rw [den]; try rfl)) rfl
    · cases h
  | .glo x, c, X, W, B, e, h => by
    unfold chE at h
    split at h
    · simp only [Bool.and_eq_true, decide_eq_true_eq] at h
      obtain ⟨⟨h1, h2⟩, h3⟩ := h
      subst h1
      obtain ⟨g1, g2, g3⟩ := B.gl h2
      obtain ⟨d, u, v, e1, e2, e3, e4⟩ := B.con _ h3
      refine .mk' (cast_E (de_con (pe_glob g1 e2 e3 g2) e4) ?_) rfl
      funext env
      rw [den]
      show conM (P.con.lookup _) = _
      rw [e1]
      rfl
    · cases h
  | .bin o a b, c, X, W, B, e, h => by
    unfold chE at h
    split at h
    · simp only [Bool.and_eq_true] at h
      obtain ⟨⟨h1, h2⟩, h3⟩ := h
      cases opIs_eq h1
      exact .mk' (cast_E (de_bin (opd_op o) (sE a B h2).1 (sE b B h3).1) (by funext env; rw [den]; try rfl)) rfl
    · cases h
  | .neg a, c, X, W, B, e, h => by
    unfold chE at h
    split at h
    · rename_i l pos
      have q : PE X (.UnaryOp .USub l pos) (tD X W (den (P.gd k) (.neg a))) := cast_E (de_neg (pos := pos) (sE a B h).1) (by funext env; rw [den]; try rfl)
      exact ⟨q, dt_truth q fun _ => rfl⟩
    · cases h
  | .cmp o a b, c, X, W, B, e, h => by
    unfold chE at h
    split at h
    · simp only [Bool.and_eq_true] at h
      obtain ⟨⟨⟨h1, h2⟩, h3⟩, h4⟩ := h
      cases cmIs_eq h1
      exact ⟨cast_E (de_cmp (opd_cm B.room.units o) (sE a B h2).1 (sE b B h3).1 (behind_no h4)) (by funext env; rw [den]; try rfl),
        cast_T (dt_cmp (cmF_bool o) (opd_cm B.room.units o) (sE a B h2).1 (sE b B h3).1 (behind_no h4)) (by funext env; rw [den]; try rfl)⟩
    · cases h
  | .chn o p a b d, c, X, W, B, e, h => by
    unfold chE at h
    split at h
    · simp only [Bool.and_eq_true] at h
      obtain ⟨⟨⟨⟨⟨h1, h2⟩, h3⟩, h4⟩, h5⟩, h6⟩ := h
      cases cmIs_eq h1
      cases cmIs_eq h2
      exact ⟨cast_E (de_chn (opd_cm B.room.units o) (opd_cm B.room.units p) (sE a B h3).1 (sE b B h4).1 (sE d B h5).1 (last_no h6)) (by funext env; rw [den]; try rfl),
        cast_T (dt_chn (cmF_bool p) (opd_cm B.room.units o) (opd_cm B.room.units p) (sE a B h3).1 (sE b B h4).1 (sE d B h5).1 (last_no h6)) (by funext env; rw [den]; try rfl)⟩
    · cases h
  | .bop b l, c, X, W, B, e, h => by
    unfold chE at h
    split at h
    · simp only [Bool.and_eq_true, decide_eq_true_eq] at h
      obtain ⟨⟨h1, h2⟩, h3⟩ := h
      rename_i op es pos
      have q := sB (pos := pos) l B h2 h3 h1
      exact ⟨cast_E q.1 (by funext env; rw [den]; try rfl), cast_T q.2.pt (by funext env; rw [den]; try rfl)⟩
    · cases h
  | .nt a, c, X, W, B, e, h => by
    unfold chE at h
    split at h
    · exact ⟨cast_E (de_nt (sE a B h).1) (by funext env; rw [den]; try rfl), cast_T (dt_nt (sE a B h).2) (by funext env; rw [den]; try rfl)⟩
    · cases h
  | .ife x a b, c, X, W, B, e, h => by
    unfold chE at h
    split at h
    · simp only [Bool.and_eq_true] at h
      obtain ⟨⟨h1, h2⟩, h3⟩ := h
      exact ⟨cast_E (de_ife (sE x B h1).2 (sE a B h2).1 (sE b B h3).1) (by funext env; rw [den]; try rfl), cast_T (dt_ife (sE x B h1).2 (sE a B h2).2 (sE b B h3).2) (by funext env; rw [den]; try rfl)⟩
    · cases h
  | .tup l, c, X, W, B, e, h => by
    unfold chE at h
    split at h
    · exact .mk' (cast_E (de_tup (sA l B h)) (by funext env; rw [den]; try rfl)) rfl
    · cases h
  | .lst l, c, X, W, B, e, h => by
    unfold chE at h
    split at h
    · exact .mk' (cast_E (de_lst (sA l B h)) (by funext env; rw [den]; try rfl)) rfl
    · cases h
  | .lstH l, c, X, W, B, e, h => by
    unfold chE at h
    split at h
    · exact .mk' (cast_E (de_lstH (sA l B h)) (by funext env; rw [den]; try rfl)) rfl
    · cases h
  | .ix a b, c, X, W, B, e, h => by
    unfold chE at h
    split at h
    · simp only [Bool.and_eq_true] at h
      obtain ⟨⟨h1, h2⟩, h3⟩ := h
      exact .mk' (cast_E (de_ix (by have := B.room.units; omega) (sE a B h1).1 (sE b B h2).1 (plain_ix h3)) (by funext env; rw [den]; try rfl)) rfl
    · cases h
  | .slc a lo hi, c, X, W, B, e, h => by
    unfold chE at h
    split at h
    · simp only [Bool.and_eq_true] at h
      obtain ⟨⟨h1, h2⟩, h3⟩ := h
      exact .mk' (cast_E (de_slc (sE a B h1).1 (sO lo B h2) (sO hi B h3)) (by funext env; rw [den]; try rfl)) rfl
    · cases h
  | .slcH a lo hi, c, X, W, B, e, h => by
    unfold chE at h
    split at h
    · simp only [Bool.and_eq_true] at h
      obtain ⟨⟨h1, h2⟩, h3⟩ := h
      exact .mk' (cast_E (de_slcH (sE a B h1).1 (sO lo B h2) (sO hi B h3)) (by funext env; rw [den]; try rfl)) rfl
    · cases h
  | .call f l, c, X, W, B, e, h => by
    unfold chE at h
    split at h
    · rename_i x p es pos
      simp only [Bool.and_eq_true, decide_eq_true_eq] at h
      obtain ⟨⟨⟨h1, h2⟩, h3⟩, h4⟩ := h
      subst h1
      obtain ⟨g1, g2, g3⟩ := B.gl h2
      obtain ⟨a, fd, ps, e1, F, e2, e3, e4⟩ := B.fns _ _ h3
      have hl := chA_len l h4
      cases es with
      | nil =>
        cases l with
        | cons _ _ => cases hl
        | nil =>
          have : ps = [] := List.eq_nil_of_length_eq_zero e1
          subst this
          exact .mk' (cast_E (de_call0 F B.room B.gu g1 e2 e3 e4 B.tk g2) (by funext env; rw [den, denA]; try rfl)) rfl
      | cons e es =>
        cases l with
        | nil => cases hl
        | cons y l =>
          have h5 := h4
          unfold chA at h5
          simp only [Bool.and_eq_true] at h5
          have F : FnG X.prog X.w X.K X.mg X.base k a fd ps (spD X.K X.mg ps.length (run P k x)) := by rw [e1]; exact F
          exact .mk' (cast_E (de_call F B.room B.gu g1 e2 e3 e4 B.tk (sA (.cons y l) B h4) (fun _ _ _ _ q => by rw [denA_len _ q]; exact e1.symm) g2 (star_cons h5.1.2) (back_any (chA_star l h5.2))) (by funext env; rw [den]; try rfl)) rfl
    · cases h
  | .callP f l, c, X, W, B, e, h => by
    unfold chE at h
    split at h
    · rename_i x p es pos
      simp only [Bool.and_eq_true, decide_eq_true_eq] at h
      obtain ⟨⟨⟨h1, h2⟩, h3⟩, h4⟩ := h
      subst h1
      obtain ⟨g1, g2, g3⟩ := B.gl h2
      obtain ⟨a, fd, ps, e1, F, e2, e3, e4⟩ := B.fns _ _ h3
      have hl := chA_len l h4
      cases es with
      | nil =>
        cases l with
        | cons _ _ => cases hl
        | nil =>
          have : ps = [] := List.eq_nil_of_length_eq_zero e1
          subst this
          exact .mk' (cast_E (de_callP0 F B.room B.gu g1 e2 e3 e4 B.tk g2) (by funext env; rw [den, denA]; try rfl)) rfl
      | cons e es =>
        cases l with
        | nil => cases hl
        | cons y l =>
          have h5 := h4
          unfold chA at h5
          simp only [Bool.and_eq_true] at h5
          have F : FnG X.prog X.w X.K X.mg X.base k a fd ps (spD X.K X.mg ps.length (run P k x)) := by rw [e1]; exact F
          exact .mk' (cast_E (de_callP F B.room B.gu g1 e2 e3 e4 B.tk (sA (.cons y l) B h4) (fun _ _ _ _ q => by rw [denA_len _ q]; exact e1.symm) g2 (star_cons h5.1.2) (back_any (chA_star l h5.2))) (by funext env; rw [den]; try rfl)) rfl
    · cases h
  | .blt f l, c, X, W, B, e, h => by
    unfold chE at h
    split at h
    · rename_i x p es pos
      simp only [Bool.and_eq_true, decide_eq_true_eq] at h
      obtain ⟨⟨⟨⟨h1, h2⟩, h3⟩, h4⟩, h5⟩ := h
      subst h1
      obtain ⟨g1, g2, g3⟩ := B.gl h2
      have hl := chA_len l h4
      cases l with
      | nil => exact absurd rfl h5
      | cons y l =>
        cases es with
        | nil => cases hl
        | cons e es =>
          have h6 := h4
          unfold chA at h6
          simp only [Bool.and_eq_true] at h6
          exact .mk' (cast_E (de_blt f B.calm B.gu B.room.units g1 (B.free _ h3) (sA (.cons y l) B h4) g3 g2 (star_cons h6.1.2) (back_any (chA_star l h6.2))) (by funext env; rw [den]; try rfl)) rfl
    · cases h
  | .listH a, c, X, W, B, e, h => by
    unfold chE at h
    split at h
    · simp only [Bool.and_eq_true, decide_eq_true_eq] at h
      obtain ⟨⟨⟨⟨h1, h2⟩, h3⟩, h4⟩, h5⟩ := h
      subst h1
      obtain ⟨g1, g2, g3⟩ := B.gl h2
      exact .mk' (cast_E (de_listH g1 (B.free _ h3) (da_cons (sE a B h4).1 da_nil (star_cons h5)) (star_cons h5) rfl) (by funext env; rw [den]; try rfl)) rfl
    · cases h
  | .isi a t, c, X, W, B, e, h => by
    unfold chE at h
    split at h
    · simp only [Bool.and_eq_true, decide_eq_true_eq] at h
      obtain ⟨⟨⟨⟨⟨⟨⟨h1, h2⟩, h3⟩, h4⟩, h5⟩, h6⟩, h7⟩, h8⟩ := h
      subst h1
      subst h4
      obtain ⟨g1, g2, g3⟩ := B.gl h2
      obtain ⟨k1, k2, k3⟩ := B.gl h5
      exact .mk' (cast_E (de_isi g1 (B.free _ h3) k1 (B.free _ h6) (boot_ty t) k3 k2 (sE a B h7).1 (star_cons h8) rfl rfl) (by funext env; rw [den]; try rfl)) rfl
    · cases h
  | .lc heap elt tg it cs own, c, X, W, B, e, h => by
    unfold chE at h
    split at h
    · rename_i l g iter ifs s pos
      simp only [Bool.and_eq_true] at h
      obtain ⟨⟨⟨⟨⟨h1, h2⟩, h3⟩, h4⟩, h5⟩, h6⟩ := h
      refine .mk' (cast_E (de_lc (heap := heap) B.calm B.nd (ns := tg.slots) (own := own) (f := denG (P.gd k) tg) (dt := fun e => denC (P.gd k) cs e) (de := fun e => den (P.gd k) elt e) (dI := denI (P.gd k) it) ?_ (sI it B h2).1 ?_ (fun s' H C cl fp => sG tg (B.blk s s' H C cl fp) h3) (fun s' H C cl fp => sC cs (B.blk s s' H C cl fp) h4) (fun s' H C cl fp => (sE elt (B.blk s s' H C cl fp) h5).1) (sI it B h2).2) (by funext env; rw [den]; try rfl)) rfl
      · intro n hn
        exact of_decide_eq_true (List.all_eq_true.mp h6 n hn)
      · rw [B.N, B.sc]
        exact blkOk_by h1
    · cases h
  | .app o a, c, X, W, B, e, h => by
    unfold chE at h
    split at h
    · simp only [Bool.and_eq_true, decide_eq_true_eq] at h
      obtain ⟨⟨⟨⟨⟨h1, h2⟩, h3⟩, h4⟩, h5⟩, h6⟩ := h
      subst h1
      refine .mk' (cast_E (de_app (sE o B h2).1 (sE a B h3).1 (base_no h4) h6 (star_cons h5) ?_) (by funext env; rw [den]; try rfl)) rfl
      rw [star_cons h5]
      rfl
    · cases h
  | .dsp ks l, c, X, W, B, e, h => by
    unfold chE at h
    split at h
    · rename_i keys es pos
      simp only [Bool.and_eq_true, decide_eq_true_eq] at h
      obtain ⟨⟨⟨⟨⟨h1, h2⟩, h3⟩, h4⟩, h5⟩, h6⟩ := h
      obtain ⟨hk1, hk2⟩ := strKeys_ok _ _ h1
      obtain ⟨trs, pp, imp⟩ := sP l B (pos := pos) ks keys es h1 h2 h3
      refine .mk' (cast_E (de_dsp pp hk2 ?_ ?_ ?_ h6 imp) (by funext env; rw [den]; try rfl)) rfl
      · rw [hk1, chA_len l h2, h3]
      · intro q
        rw [q] at hk1
        exact h4 (List.eq_nil_of_length_eq_zero hk1.symm)
      · rw [hk1]; exact h5
    · cases h
  | .mth0 m o, c, X, W, B, e, h => by
    unfold chE at h
    cases h
  | .mth1 m o a, c, X, W, B, e, h => by
    unfold chE at h
    split at h
    · simp only [Bool.and_eq_true, decide_eq_true_eq] at h
      obtain ⟨⟨⟨⟨⟨⟨h1, h0⟩, h2⟩, h3⟩, h4⟩, h5⟩, h6⟩ := h
      subst h1
      cases m
      case join => exact .mk' (cast_E (de_mth1 F.slot_str_join F.type_str_join mtd_join (sE o B h2).1 (sE a B h3).1 (star_cons h5) (base_no h4) h6) (by funext env; rw [den]; try rfl)) rfl
      case startswith => exact .mk' (cast_E (de_mth1 F.slot_str_startswith F.type_str_startswith mtd_start (sE o B h2).1 (sE a B h3).1 (star_cons h5) (base_no h4) h6) (by funext env; rw [den]; try rfl)) rfl
      case split => exact .mk' (cast_E (de_mth1 F.slot_str_split F.type_str_split mtd_split (sE o B h2).1 (sE a B h3).1 (star_cons h5) (base_no h4) h6) (by funext env; rw [den]; try rfl)) rfl
      case rstrip => cases h0
      case strip => cases h0
    · cases h
  | .frz a, c, X, W, B, e, h => by
    unfold chE at h
    simp only [Bool.and_eq_true] at h
    exact .mk' (cast_E (de_frz (sE a B h.1).1) (by funext env; rw [den]; try rfl)) h.2
  | .isx a d tab, c, X, W, B, e, h => by
    unfold chE at h
    split at h
    · simp only [Bool.and_eq_true, decide_eq_true_eq] at h
      obtain ⟨⟨⟨⟨⟨⟨⟨⟨h1, h2⟩, h3⟩, h4⟩, h5⟩, h6⟩, h7⟩, h8⟩, h9⟩ := h
      subst h1
      subst h4
      obtain ⟨g1, g2, g3⟩ := B.gl h2
      obtain ⟨k1, k2, k3⟩ := B.gl h5
      obtain ⟨f, D, e1, m1, n1, _⟩ := B.xk h6
      refine .mk' (cast_E (de_isx (D := D) g1 (B.free _ h3) k1 m1 k2 (fun c' hc' => ?_) (sE a B h8).1 (star_cons h9)) (by funext env; rw [den]; try rfl)) rfl
      obtain ⟨f', C, e2, m2, n2, T⟩ := B.xk (List.all_eq_true.mp h7 c' hc')
      exact ⟨C, n2, T.ex, (B.xp _ _ _ _ _ _ e2 e1 n2 n1).2⟩
    · cases h
  | .atx a f tab, c, X, W, B, e, h => by
    unfold chE at h
    split at h
    · simp only [Bool.and_eq_true, decide_eq_true_eq] at h
      obtain ⟨⟨⟨⟨h1, h2⟩, h3⟩, h4⟩, h5⟩ := h
      subst h1
      refine .mk' (cast_E (de_atx (fl := c.flds) h2 (fun c' hc' => ?_) (sE a B h4).1 (base_no h5)) (by funext env; rw [den]; try rfl)) rfl
      obtain ⟨f', C, e2, m2, n2, T⟩ := B.xk (List.all_eq_true.mp h3 c' hc')
      exact ⟨C, n2, T.ex, T.no⟩
    · cases h
  | .isN neg a, c, X, W, B, e, h => by
    unfold chE at h
    split at h
    · simp only [Bool.and_eq_true, decide_eq_true_eq] at h
      obtain ⟨h1, h2⟩ := h
      subst h1
      refine ⟨cast_E (de_isN (sE a B h2).1) (by funext env; rw [den]; try rfl), cast_T (dt_of (d := fun env => bindM (den (P.gd k) a env) fun x => retM (.val (.bool (neg != isNoneV x)))) (pt_isN (sE a B h2).1) (fun _ _ _ q => isN_imp q) ?_) (by funext env; rw [den]; try rfl)⟩
      intro env h v h' e
      obtain ⟨x, h1, _, e⟩ := bindM_ok e
      cases e
      exact ⟨_, rfl⟩
    · cases h
  | .eqR ne a b, c, X, W, B, e, h => by
    unfold chE at h
    split at h
    · simp only [Bool.and_eq_true, decide_eq_true_eq] at h
      obtain ⟨⟨⟨h1, h2⟩, h3⟩, h4⟩ := h
      subst h1
      refine ⟨cast_E (de_eqR B.room.units (sE a B h2).1 (sE b B h3).1 (behind_no h4)) (by funext env; rw [den]; try rfl), cast_T (dt_of (d := fun env => bindM (den (P.gd k) a env) fun x => bindM (den (P.gd k) b env) fun y => twoR (eqF ne) x y) (pt_eqR B.room.units (sE a B h2).1 (sE b B h3).1 (behind_no h4)) (fun _ _ _ q => eqR_imp q) ?_) (by funext env; rw [den]; try rfl)⟩
      intro env h v h' e
      obtain ⟨x, h1, _, e⟩ := bindM_ok e
      obtain ⟨y, h2, _, e⟩ := bindM_ok e
      exact twoR_bool e
    · cases h
  | .outc o f cs x, c, X, W, B, e, h => by
    unfold chE at h
    cases h
theorem sA {P : Pg} {k : Nat} : (l : Xs) → ∀ {c : Ck} {X : Cx} {W : WX}, Bd P k c X W → ∀ {es : List Expr}, chA c l es = true → PA X es (tA X W (denA (P.gd k) l))
  | .nil, c, X, W, B, es, h => by
    unfold chA at h
    split at h
    · have q : denA (P.gd k) .nil = fun _ => retM [] := by funext env; rw [denA]; try rfl
      rw [q]
      exact da_nil
    · cases h
  | .cons a l, c, X, W, B, es, h => by
    unfold chA at h
    split at h
    · simp only [Bool.and_eq_true] at h
      have q : denA (P.gd k) (.cons a l) = fun env => bindM (den (P.gd k) a env) fun x => bindM (denA (P.gd k) l env) fun xs => retM (x :: xs) := by funext env; rw [denA]; try rfl
      rw [q]
      exact da_cons (sE a B h.1.1).1 (sA l B h.2) (star_cons h.1.2)
    · cases h
theorem sB {P : Pg} {k : Nat} {b : Bool} {op : BoolOp} {pos : Pos} : (l : Xs) → ∀ {c : Ck} {X : Cx} {W : WX}, Bd P k c X W → ∀ {es : List Expr}, chA c l es = true → l.len ≠ 0 → bopIs b op = true →
    PE X (.BoolOp op es pos) (tD X W (denB (P.gd k) b l)) ∧ PW X (.BoolOp op es pos) (tTe X W (fun env => bindM (denB (P.gd k) b l env) truM))
  | .nil, c, X, W, B, es, h, h0, hb => absurd rfl h0
  | .cons a .nil, c, X, W, B, es, h, h0, hb => by
    unfold chA at h
    split at h
    · rename_i e r
      simp only [Bool.and_eq_true] at h
      have hr : r = [] := List.eq_nil_of_length_eq_zero (chA_len .nil h.2)
      subst hr
      have q : denB (P.gd k) b (.cons a .nil) = den (P.gd k) a := by funext env; rw [denB]
      rw [q]
      exact ⟨de_one (sE a B h.1.1).1, dw_one (sE a B h.1.1).2⟩
    · cases h
  | .cons a (.cons a2 l), c, X, W, B, es, h, h0, hb => by
    unfold chA at h
    split at h
    · rename_i e r
      simp only [Bool.and_eq_true] at h
      have q : denB (P.gd k) b (.cons a (.cons a2 l)) = fun env => bindM (den (P.gd k) a env) fun x => bindM (truM x) fun t => if t = b then denB (P.gd k) b (.cons a2 l) env else retM x := by funext env; rw [denB]; intro q; cases q
      rw [q]
      have ih := sB (pos := pos) (.cons a2 l) B h.2 (by show l.len + 1 ≠ 0; omega) hb
      cases r with
      | nil => exact absurd (chA_len _ h.2) (by show (0 : Nat) ≠ l.len + 1; omega)
      | cons e2 r =>
        cases b with
        | true =>
          cases op with
          | And => exact ⟨de_and (sE a B h.1.1).1 ih.1, dw_and (sE a B h.1.1).2 ih.2⟩
          | Or => cases hb
        | false =>
          cases op with
          | Or => exact ⟨de_or (sE a B h.1.1).1 ih.1, dw_or (sE a B h.1.1).2 ih.2⟩
          | And => cases hb
    · cases h
theorem sC {P : Pg} {k : Nat} : (l : Xs) → ∀ {c : Ck} {X : Cx} {W : WX}, Bd P k c X W → ∀ {es : List Expr}, chC c l es = true → PTs X es (tTe X W (fun e => denC (P.gd k) l e))
  | .nil, c, X, W, B, es, h => by
    unfold chC at h
    split at h
    · refine ⟨fun pins s σ H Q I q => pts_nil.run pins s σ H Q I ?_⟩
      obtain ⟨z, env, rfl, g, re, fin⟩ := q
      have e : denC (P.gd k) .nil env = retM true := by rw [denC]
      dsimp only at fin
      rw [e] at fin
      exact Fin.ret g fin _ rfl
    · cases h
  | .cons a .nil, c, X, W, B, es, h => by
    unfold chC at h
    split at h
    · have q : (fun e => denC (P.gd k) (.cons a .nil) e) = fun e => bindM (den (P.gd k) a e) truM := by funext env; rw [denC]; try rfl
      rw [q]
      exact pts_one (sE a B h).2
    · cases h
  | .cons _ (.cons _ _), c, X, W, B, es, h => by
    unfold chC at h
    cases h
theorem sO {P : Pg} {k : Nat} : (o : Oe) → ∀ {c : Ck} {X : Cx} {W : WX}, Bd P k c X W → ∀ {e : Option Expr}, chO c o e = true → PO X e (tOe X W (denO (P.gd k) o))
  | .no, c, X, W, B, e, h => by
    unfold chO at h
    split at h
    · have q : denO (P.gd k) .no = fun _ => retM none := by funext env; rw [denO]; try rfl
      rw [q]
      exact do_no
    · cases h
  | .so a, c, X, W, B, e, h => by
    unfold chO at h
    split at h
    · have q : denO (P.gd k) (.so a) = fun env => bindM (den (P.gd k) a env) fun x => bindM (intOf x) fun i => retM (some i) := by funext env; rw [denO]; try rfl
      rw [q]
      exact do_so (sE a B h).1
    · cases h
theorem sI {P : Pg} {k : Nat} : (it : It') → ∀ {c : Ck} {X : Cx} {W : WX}, Bd P k c X W → ∀ {tg e : Expr}, chI c it tg e = true → PI X tg e (tI X W (denI (P.gd k) it)) ∧ ∀ x, foldedSetIterable e X.env x = pure x
  | .ex a, c, X, W, B, tg, e, h => by
    unfold chI at h
    simp only [Bool.and_eq_true] at h
    have q : denI (P.gd k) (.ex a) = fun env => bindM (den (P.gd k) a env) fun x => readM (itemsV x) := by funext env; rw [denI]; try rfl
    rw [q]
    exact ⟨di_ex (sE a B h.1).1, fold_no h.2⟩
  | .rng1 a, c, X, W, B, tg, e, h => by
    unfold chI at h
    split at h
    · simp only [Bool.and_eq_true, decide_eq_true_eq] at h
      obtain ⟨⟨⟨⟨h1, h2⟩, h3⟩, h4⟩, h5⟩ := h
      subst h1
      have q : denI (P.gd k) (.rng1 a) = fun env => bindM (den (P.gd k) a env) fun x => bindM (intOf x) fun j => if -(2 ^ 62) ≤ j ∧ j < 2 ^ 62 then retM (rngL 0 j.toNat) else failM := by funext env; rw [denI]; try rfl
      rw [q]
      exact ⟨di_rng1 (B.gl h2).1 (B.free _ h3) (sE a B h4).1 (star_cons h5), fold_no rfl⟩
    · cases h
  | .rng2 a b, c, X, W, B, tg, e, h => by
    unfold chI at h
    split at h
    · simp only [Bool.and_eq_true, decide_eq_true_eq] at h
      obtain ⟨⟨⟨⟨⟨⟨h1, h2⟩, h3⟩, h4⟩, h5⟩, h6⟩, h7⟩ := h
      subst h1
      have q : denI (P.gd k) (.rng2 a b) = fun env => bindM (den (P.gd k) a env) fun x => bindM (den (P.gd k) b env) fun y => bindM (intOf x) fun i => bindM (intOf y) fun j =>
        if -(2 ^ 62) ≤ i ∧ i < 2 ^ 62 ∧ -(2 ^ 62) ≤ j ∧ j < 2 ^ 62 then retM (rngL i (j - i).toNat) else failM := by funext env; rw [denI]; try rfl
      rw [q]
      exact ⟨di_rng2 (B.gl h2).1 (B.free _ h3) (sE a B h4).1 (sE b B h5).1 (by rw [star_cons h6, star_cons h7]; rfl) (star_cons h7), fold_no rfl⟩
    · cases h
  | .enu a, c, X, W, B, tg, e, h => by
    unfold chI at h
    split at h
    · simp only [Bool.and_eq_true, decide_eq_true_eq] at h
      obtain ⟨⟨⟨⟨h1, h2⟩, h3⟩, h4⟩, h5⟩ := h
      subst h1
      have q : denI (P.gd k) (.enu a) = fun env => bindM (den (P.gd k) a env) fun x => bindM (dataOf x) fun d => readM fun _ => (seqD d).map (pairI 0) := by funext env; rw [denI]; try rfl
      rw [q]
      exact ⟨di_enu (B.gl h2).1 (B.free _ h3) (sE a B h4).1 (star_cons h5), fold_no rfl⟩
    · cases h
  | .zip a b, c, X, W, B, tg, e, h => by
    unfold chI at h
    split at h
    · simp only [Bool.and_eq_true, decide_eq_true_eq] at h
      obtain ⟨⟨⟨⟨⟨⟨h1, h2⟩, h3⟩, h4⟩, h5⟩, h6⟩, h7⟩ := h
      subst h1
      refine ⟨PI.imp (di_zip (B.gl h2).1 (B.free _ h3) (sE a B h4).1 (sE b B h5).1 (star_cons h6) (star_cons h7) (back_any (by rw [star_cons h7]; rfl))) fun σ H R t => ?_, fold_no rfl⟩
      obtain ⟨z, env, e1, g, re, fin⟩ := t
      refine ⟨z, env, e1, g, re, ?_⟩
      rw [denI] at fin
      exact fin
    · cases h
theorem sG {P : Pg} {k : Nat} : (t : Tg) → ∀ {c : Ck} {X : Cx} {W : WX}, Bd P k c X W → ∀ {e : Expr}, chG c t e = true → PG X e (tGd X.K t.slots (denG (P.gd k) t))
  | .nm i, c, X, W, B, e, h => by
    unfold chG at h
    split at h
    · simp only [Bool.and_eq_true, decide_eq_true_eq] at h
      obtain ⟨l1, l2⟩ := B.loc h.2
      have q : denG (P.gd k) (.nm i) = fun v env => retM (env.set i (some v)) := by funext v env; rw [denG]; try rfl
      rw [q]
      exact dg_nm B.nd (by rw [B.N]; exact h.1) l1 l2
    · cases h
  | .tup l, c, X, W, B, e, h => by
    unfold chG at h
    split at h
    · obtain ⟨e1, e2⟩ := chGs_each (env := X.env) l h
      have q : denG (P.gd k) (.tup l) = fun v env => match v with | .val (.tuple ds) => denGs (P.gd k) l ds env | _ => failM := by
        funext v env
        refine Eq.trans (denG.eq_def _ _ _ _) ?_
        cases v with
        | ref _ => rfl
        | exn _ _ => rfl
        | val d => cases d <;> rfl
      rw [q]
      exact dg_tup B.calm (sGs l B h) e1 e2 fun ds env h r q => denGs_len l q
    · cases h
  | .sub o i, c, X, W, B, e, h => by
    unfold chG at h
    split at h
    · simp only [Bool.and_eq_true] at h
      obtain ⟨⟨h1, h2⟩, h3⟩ := h
      have q : denG (P.gd k) (.sub o i) = fun v env => bindM (den (P.gd k) o env) fun x => bindM (den (P.gd k) i env) fun y => bindM (setV x y v) fun _ => retM env := by funext v env; rw [denG]; try rfl
      rw [q]
      exact dg_sub (W := W) (by have := B.room.units; omega) (sE o B h1).1 (sE i B h2).1 (assign_sub h3)
    · cases h
theorem sGs {P : Pg} {k : Nat} : (l : Ts) → ∀ {c : Ck} {X : Cx} {W : WX}, Bd P k c X W → ∀ {es : List Expr}, chGs c l es = true → PGs X es (tGs X.K l.slots (denGs (P.gd k) l))
  | .nil, c, X, W, B, es, h => by
    unfold chGs at h
    split at h
    · have q : denGs (P.gd k) .nil = fun ds env => match ds with | [] => retM env | _ :: _ => failM := by funext ds env; rw [denGs.eq_def]; try rfl
      rw [q]
      exact dgs_nil
    · cases h
  | .cons t l, c, X, W, B, es, h => by
    unfold chGs at h
    split at h
    · simp only [Bool.and_eq_true] at h
      have q : denGs (P.gd k) (.cons t l) = fun ds env => match ds with | [] => failM | d :: r => bindM (sureM (denG (P.gd k) t (.val d) env)) fun env2 => denGs (P.gd k) l r env2 := by funext ds env; rw [denGs.eq_def]; try rfl
      rw [q]
      exact dgs_cons (PG.sure (sG t B h.1.1)) (sGs l B h.2) (by rw [assign_cons h.1.2]; rfl)
    · cases h
theorem sP {P : Pg} {k : Nat} : (l : Xs) → ∀ {c : Ck} {X : Cx} {W : WX}, Bd P k c X W → ∀ {pos : Pos} (ks : List Str) (keys : List (Option Expr)) (es : List Expr), strKeys ks keys = true → chA c l es = true → l.len = ks.length →
    ∃ trs, PPs X pos keys es trs ∧ ∀ σ H Q, tA X W (denA (P.gd k) l) σ H (fun vs H' => Q ((ks.map V.str).zip vs) H') → tPairs trs σ H Q
  | .nil, c, X, W, B, pos, ks, keys, es, h1, h2, h3 => by
    have e1 : ks = [] := List.eq_nil_of_length_eq_zero h3.symm
    subst e1
    have e2 : keys = [] := List.eq_nil_of_length_eq_zero (strKeys_ok _ _ h1).1
    subst e2
    have e3 : es = [] := List.eq_nil_of_length_eq_zero (chA_len _ h2)
    subst e3
    refine ⟨[], pps_nil, fun σ H Q t => ?_⟩
    obtain ⟨z, env, rfl, g, re, fin⟩ := t
    have e : denA (P.gd k) .nil env = retM [] := by rw [denA]
    rw [e] at fin
    exact Fin.ret g fin [] .nil
  | .cons a l, c, X, W, B, pos, ks, keys, es, h1, h2, h3 => by
    cases ks with
    | nil => exact absurd h3 (by show l.len + 1 ≠ 0; omega)
    | cons x ks =>
      unfold strKeys at h1
      split at h1
      · simp only [Bool.and_eq_true, decide_eq_true_eq] at h1
        obtain ⟨rfl, h1⟩ := h1
        unfold chA at h2
        split at h2
        · simp only [Bool.and_eq_true] at h2
          obtain ⟨trs, pp, imp⟩ := sP l B (pos := pos) ks _ _ h1 h2.2 (Nat.succ.inj h3)
          refine ⟨_, pps_cons pe_str (sE a B h2.1.1).1 pp, fun σ H Q t => ?_⟩
          have q : denA (P.gd k) (.cons a l) = fun env => bindM (den (P.gd k) a env) fun x => bindM (denA (P.gd k) l env) fun xs => retM (x :: xs) := by funext env; rw [denA]
          rw [q] at t
          show tD X W (den (P.gd k) a) σ H fun y H2 => tPairs trs σ H2 fun ps H3 => Q ((.str _, y) :: ps) H3
          refine tM.bind t fun z1 env y vy g1 re ry fin => imp _ _ _ ?_
          refine ⟨z1, env, rfl, g1, re, (Fin.bind g1 fin).imp (fun xs z2 g2 x2 fin2 vs rx => ?_) fun _ _ _ _ _ q => q⟩
          exact Fin.ret g2 fin2 (vy :: vs) (.cons (ry.ext g1 x2) rx)
        · cases h2
      · cases h1
end
end L2.Cap

set_option maxRecDepth 100000
set_option maxHeartbeats 2000000
namespace L2.Cap
open PySem PySem.Spec PyProof.Rows
/-- a, b = .. that is stored as a plain tuple -/
def swapNone : Expr → Expr → Bool
  | g, .Tuple vs _ _ => notTup g || vs.all (foldedForSure 8)
  | _, _ => true
theorem swap_none {g v : Expr} {env : Env} (h : swapNone g v = true) : swappedStores [g] v env = pure none := by
  by_cases hv : ∃ vs k p, v = .Tuple vs k p
  · obtain ⟨vs, k, p, rfl⟩ := hv
    unfold swapNone at h
    rw [Bool.or_eq_true] at h
    by_cases hg : notTup g = true
    · cases g <;> first | rfl | cases hg
    · have hf : vs.all (foldedForSure 8) = true := h.resolve_left hg
      unfold swappedStores
      cases g <;> first | rfl | skip
      all_goals
        dsimp only
        (repeat' split) <;> first | rfl | contradiction
  · unfold swappedStores
    cases g <;> first | rfl | (cases v <;> first | rfl | exact absurd ⟨_, _, _, rfl⟩ hv)
theorem swaps_no {v : Expr} {t : Option Expr} {l : Nat} {env : Env} (h : notComp v = true) : swapsWith v t l env = pure false := by
  cases v <;> first | rfl | cases h
def parNames (c : Ck) (line : Nat) : List Nat → List Expr → List Str → Bool
  | [], [], [] => true
  | i :: is, .Name x p :: es, y :: ys => decide (x = y) && decide (c.N[i]? = some x) && c.lcl x && (p.line == line) && parNames c line is es ys
  | _, _, _ => false
/-- name = [..] in one stroke -/
def swTrue (c : Ck) : Expr → Expr → Bool
  | .Name y py, .ListComp _ _ s pos => c.lcl y && (py.line == pos.line) && !(s.names.any fun (n, k) => n == y && (k == .local || k == .cell))
  | _, _ => false
def swFalse (c : Ck) : Expr → Expr → Bool
  | .Name y py, .ListComp _ _ s pos => !(decide (c.sc.names.lookup y = some .local) && (py.line == pos.line) && !(s.names.any fun (n, k) => n == y && (k == .local || k == .cell)))
  | .Tuple _ _ _, .ListComp _ _ _ _ => true
  | .Subscript _ _ _, .ListComp _ _ _ _ => true
  | _, v => notComp v
def isNm : Tg → Option Nat
  | .nm i => some i
  | _ => none
/-! ### the clauses of a try -/
def chSx0 (c : Ck) (n : Option Str) : Sx0 → Expr → Bool
  | .con d, e => (match d, e with
    | .none, .Constant .none _ _ => true
    | .bool b, .Constant (.bool b') _ _ => decide (b' = b)
    | .int i, .Constant (.int i') _ _ => decide (i' = i)
    | .str x, .Constant (.str x') _ _ => decide (x' = x)
    | _, _ => false)
  | .fld f, e => (match e with
    | .Attribute (.Name x _) f' _ => decide (f' = f) && decide (n = some x) && decide (f ∈ c.flds)
    | _ => false)
def chSx (c : Ck) (n : Option Str) : Sx → Expr → Bool
  | .one x, e => chSx0 c n x e
  | .err, e => (match e with
    | .Name x _ => decide (n = some x)
    | _ => false)
  | .tup x y, e => (match e with
    | .Tuple [a, b] _ _ => chSx0 c n x a && chSx0 c n y b
    | _ => false)
  | .lst x, e => (match e with
    | .List [a] _ => chSx0 c n x a
    | _ => false)
def Sx.isErr : Sx → Bool
  | .err => true
  | _ => false
def chAc (c : Ck) (n : Option Str) (i : Option Nat) : Ac → Stmt → Bool
  | .asg j x, s => (match s with
    | .Assign [.Name y _] e _ => decide (c.N[j]? = some y) && c.loc y && decide (i ≠ some j) && chSx c n x e
    | _ => false)
  | .ret x, s => (match s with
    | .Return (some e) _ => chSx c n x e && !x.isErr
    | _ => false)
def chNs (c : Ck) : List Str → List Expr → Bool
  | [], es => (match es with
    | [] => true
    | _ => false)
  | x :: xs, es => (match es with
    | .Name y _ :: r => decide (y = x) && c.gl x && c.kn x && chNs c xs r
    | _ => false)
def chTe (c : Ck) (xs : List Str) : Expr → Bool
  | .Name y _ => decide (xs = [y]) && c.gl y && c.kn y
  | .Tuple es _ _ => chNs c xs es && decide (es.length ≤ 1000)
  | _ => false
def chNm (c : Ck) : Option Str → Option Nat → Bool
  | none, none => true
  | some x, some j => decide (c.N[j]? = some x) && c.lcl x && !(x == ("__debug__" : Str)) && !(x == ("__classdict__" : Str))
  | _, _ => false
def chHs (c : Ck) : List Hd → List ExceptHandler → Bool
  | [], l => (match l with
    | [] => true
    | _ => false)
  | hd :: r, l => (match l with
    | .ExceptHandler (some t) n [b] _ :: l2 => chTe c hd.cls t && chNm c n hd.nm && chAc c n hd.nm hd.act b && chHs c r l2
    | _ => false)
mutual
def chS (c : Ck) : Sm → Stmt → Bool
  | .asg t e, s => (match s with
    | .Assign [g] v _ => chG c t g && chE c e v && notStar g && swapNone g v && (swFalse c g v || (swTrue c g v && match t, e with
      | .nm _, .lc _ _ _ _ _ _ => true
      | _, _ => false))
    | _ => false)
  | .par ts l, s => (match s with
    | .Assign [.Tuple [.Name x px, .Name y py] _ _] (.Tuple [a, b] k p) _ => (match ts with
      | [i, j] => decide (c.N[i]? = some x) && decide (c.N[j]? = some y) && decide (i ≠ j) && decide (x ≠ y) && c.lcl x && c.lcl y && (py.line == px.line) && chA c l [a, b] && !([a, b].all (foldedForSure 8)) && !([a, b].all (constantsAlone 8))
      | _ => false)
    | .Assign [.Tuple [.Name x px, .Name y py, .Name w pw] _ _] (.Tuple [a, b, d] k p) _ => (match ts with
      | [i, j, n] => decide (c.N[i]? = some x) && decide (c.N[j]? = some y) && decide (c.N[n]? = some w) && decide (i ≠ j) && decide (i ≠ n) && decide (j ≠ n) && decide (x ≠ y) && decide (x ≠ w) && decide (y ≠ w) && c.lcl x && c.lcl y && c.lcl w && (py.line == px.line) && (pw.line == px.line) && chA c l [a, b, d] && !([a, b, d].all (foldedForSure 8)) && !([a, b, d].all (constantsAlone 8))
      | _ => false)
    | _ => false)
  | .aug i o e, s => (match s with
    | .AugAssign (.Name x _) op v _ => decide (c.N[i]? = some x) && c.loc x && opIs o op && chE c e v
    | _ => false)
  | .expr e, s => (match s with
    | .Expr v _ => chE c e v && notComp v
    | _ => false)
  | .ife x a b, s => (match s with
    | .If t l r _ => chE c x t && chSs c a l && chSs c b r
    | _ => false)
  | .loop t it b, s => (match s with
    | .For g iter l [] _ => chI c it g iter && chG c t g && chSs c b l
    | _ => false)
  | .whl x b, s => (match s with
    | .While t l [] _ => chE c x t && chSs c b l
    | _ => false)
  | .ret e, s => (match s with
    | .Return (some v) _ => chE c e v
    | _ => false)
  | .ret0, s => (match s with
    | .Return none _ => true
    | _ => false)
  | .brk, s => (match s with
    | .Break _ => true
    | _ => false)
  | .cnt, s => (match s with
    | .Continue _ => true
    | _ => false)
  | .pas, s => (match s with
    | .Pass _ => true
    | _ => false)
  | .rai cn f e, s => (match s with
    | .Raise (some (.Call (.Name x _) [l] [] _)) none _ => decide (x = cn) && c.gl x && decide (c.cls.lookup cn = some f) && chE c e l && notStar l
    | _ => false)
  | .tryx b hs tab, s => (match s with
    | .Try l (h :: hds) [] [] _ => chSs c b l && chHs c hs (h :: hds) && tab.all c.kn
    | _ => false)
def chSs (c : Ck) : Ss → List Stmt → Bool
  | .nil, l => (match l with
    | [] => true
    | _ => false)
  | .cons a b, l => (match l with
    | s :: r => chS c a s && chSs c b r
    | _ => false)
end
section
variable {P : Pg} {k : Nat} {c : Ck} {X : Cx} {W : WX}
theorem cast_S {X : Cx} {W : WX} {s : Stmt} {d d' : DenS} (h : PS X s (tS X W d)) (q : d' = d) : PS X s (tS X W d') := by rw [q]; exact h
theorem sx0_ch {c : Ck} {n : Option Str} : ∀ {x : Sx0} {e : Expr}, chSx0 c n x e = true → Sx0Ok n c.flds e x
  | .con d, e, h => by
    dsimp only [chSx0] at h
    split at h
    · exact .non
    · cases of_decide_eq_true h; exact .bl
    · cases of_decide_eq_true h; exact .int
    · cases of_decide_eq_true h; exact .str
    · cases h
  | .fld f, e, h => by
    dsimp only [chSx0] at h
    split at h
    · simp only [Bool.and_eq_true, decide_eq_true_eq] at h
      obtain ⟨⟨h1, h2⟩, h3⟩ := h
      subst h1
      exact .fld h2 h3
    · cases h
theorem sx_ch {c : Ck} {n : Option Str} : ∀ {x : Sx} {e : Expr}, chSx c n x e = true → SxOk n c.flds e x
  | .one x, e, h => .one (sx0_ch (by unfold chSx at h; exact h))
  | .err, e, h => by
    dsimp only [chSx] at h
    split at h
    · exact .err (of_decide_eq_true h)
    · cases h
  | .tup x y, e, h => by
    dsimp only [chSx] at h
    split at h
    · rw [Bool.and_eq_true] at h
      exact .tup (sx0_ch h.1) (sx0_ch h.2)
    · cases h
  | .lst x, e, h => by
    dsimp only [chSx] at h
    split at h
    · exact .lst (sx0_ch h)
    · cases h
theorem names_ch (B : Bd P k c X W) : ∀ {xs : List Str} {es : List Expr}, chNs c xs es = true → NamesOk X (fun x => c.kn x = true) es xs
  | [], es, h => by
    unfold chNs at h
    split at h
    · exact .nil
    · cases h
  | x :: xs, es, h => by
    unfold chNs at h
    split at h
    · simp only [Bool.and_eq_true, decide_eq_true_eq] at h
      obtain ⟨⟨⟨h1, h2⟩, h3⟩, h4⟩ := h
      subst h1
      obtain ⟨g1, g2, g3⟩ := B.gl h2
      obtain ⟨f, C, e1, m1, n1, _⟩ := B.xk h3
      exact .cons g1 g2 m1 h3 (names_ch B h4)
    · cases h
theorem test_ch (B : Bd P k c X W) {xs : List Str} {t : Expr} (h : chTe c xs t = true) : TestOk X (fun x => c.kn x = true) t xs := by
  unfold chTe at h
  split at h
  · simp only [Bool.and_eq_true, decide_eq_true_eq] at h
    obtain ⟨⟨h1, h2⟩, h3⟩ := h
    subst h1
    obtain ⟨g1, g2, g3⟩ := B.gl h2
    obtain ⟨f, C, e1, m1, n1, _⟩ := B.xk h3
    exact .one g1 g2 m1 h3
  · simp only [Bool.and_eq_true, decide_eq_true_eq] at h
    exact .tup (names_ch B h.1) h.2
  · cases h
theorem nm_ch (B : Bd P k c X W) {n : Option Str} {i : Option Nat} (h : chNm c n i = true) : NmOk X n i := by
  unfold chNm at h
  split at h
  · trivial
  · simp only [Bool.and_eq_true, decide_eq_true_eq, Bool.not_eq_true'] at h
    obtain ⟨⟨⟨h1, h2⟩, h3⟩, h4⟩ := h
    exact ⟨by rw [B.N]; exact h1, B.lcl h2, h3, h4⟩
  · cases h
theorem ac_ch (B : Bd P k c X W) {n : Option Str} {i : Option Nat} : ∀ {a : Ac} {s : Stmt}, chAc c n i a s = true → SuOk X n i c.flds s a
  | .asg j x, s, h => by
    dsimp only [chAc] at h
    split at h
    · simp only [Bool.and_eq_true, decide_eq_true_eq] at h
      obtain ⟨⟨⟨h1, h2⟩, h3⟩, h4⟩ := h
      obtain ⟨l1, l2⟩ := B.loc h2
      exact .asg (by rw [B.N]; exact h1) l1 l2 h3 (sx_ch h4)
    · cases h
  | .ret x, s, h => by
    dsimp only [chAc] at h
    split at h
    · simp only [Bool.and_eq_true, Bool.not_eq_true'] at h
      exact .ret (sx_ch h.1) (fun q => by rw [q] at h; cases h.2)
    · cases h
theorem hds_ch (B : Bd P k c X W) : ∀ {hs : List Hd} {l : List ExceptHandler}, chHs c hs l = true → HdOk X (fun x => c.kn x = true) c.flds l hs
  | [], l, h => by
    unfold chHs at h
    split at h
    · exact .nil
    · cases h
  | hd :: r, l, h => by
    unfold chHs at h
    split at h
    · simp only [Bool.and_eq_true] at h
      obtain ⟨⟨⟨h1, h2⟩, h3⟩, h4⟩ := h
      exact .cons (test_ch B h1) (nm_ch B h2) (ac_ch B h3) (hds_ch B h4)
    · cases h
/-- a def's own frame -/
structure Fnl (X : Cx) : Prop where
  st : X.stack = X.env :: X.outer
  fr : X.env.frame = some X.env.locals
  ex : X.ex = []
theorem Bd.tr (B : Bd P k c X W) {W' : WX} {pn : List (Addr × Obj)} {xe : Value → Shared → Prop} (t : Takes (X.tr pn xe) W') : Bd P k c (X.tr pn xe) W' :=
  ⟨B.N, B.sc, B.fn, B.nd, B.calm, B.room, B.gu, t, B.con, B.fns, B.free, B.xc, B.xp⟩
theorem never_S {s : Stmt} {d : DenS} (h : ∀ env h, d env h = none) : PS X s (tS X W d) := by
  refine ⟨fun pins s σ H D I q => ?_⟩
  obtain ⟨z, env, rfl, g, re, fin⟩ := q
  rw [h] at fin
  exact fin.elim
theorem block_fn (kf : X.env.scope.kind = .function) : X.env.blockKind = .function := by
  unfold Env.blockKind
  rw [kf]
  rfl
theorem swap2 {x y : Str} {px py pt : Pos} {kt k2 : Nat} {pt2 : Pos} {a b : Expr} (kf : X.env.scope.kind = .function) (hx : X.env.scope.names.lookup x = some .local) (hy : X.env.scope.names.lookup y = some .local) (hxy : x ≠ y) (hl : (py.line == px.line) = true)
    (na : notStar a = true) (nb : notStar b = true) (h1 : [a, b].all (foldedForSure 8) = false) (h2 : [a, b].all (constantsAlone 8) = false) :
    swappedStores [.Tuple [.Name x px, .Name y py] kt pt] (.Tuple [a, b] k2 pt2) X.env = pure (some [x, y]) := by
  have kx : X.env.kindOf x = some .local := hx
  have ky : X.env.kindOf y = some .local := hy
  unfold swappedStores
  dsimp only
  rw [block_fn kf]
  split
  · rename_i h
    cases h
  · split
    · rename_i h
      simp only [List.any_cons, List.any_nil, Bool.or_false, Bool.or_eq_true] at h
      rcases h with h | h
      · cases a <;> first | (cases h; done) | (cases na; done)
      · cases b <;> first | (cases h; done) | (cases nb; done)
    · simp only [List.filterMap, kx, ky, hl, List.head?, Option.map, Option.getD, Expr.pos, beq_self_eq_true, Bool.and_self, Bool.true_and, if_true]
      rw [h1, h2]
      have ed : [x, y].eraseDups = [x, y] := by
        have q1 : (x == y) = false := by simpa using hxy
        have q2 : (y == x) = false := by simpa using (Ne.symm hxy)
        simp [List.eraseDups_cons, q1, q2, hxy, hxy.symm]
      rw [ed]
      rfl
theorem swap3 {x y w : Str} {px py pw pt : Pos} {kt k2 : Nat} {pt2 : Pos} {a b d : Expr} (kf : X.env.scope.kind = .function) (hx : X.env.scope.names.lookup x = some .local) (hy : X.env.scope.names.lookup y = some .local) (hw : X.env.scope.names.lookup w = some .local) (hxy : x ≠ y) (hxw : x ≠ w) (hyw : y ≠ w) (hl : (py.line == px.line) = true) (hl2 : (pw.line == px.line) = true)
    (na : notStar a = true) (nb : notStar b = true) (nd : notStar d = true) (h1 : [a, b, d].all (foldedForSure 8) = false) (h2 : [a, b, d].all (constantsAlone 8) = false) :
    swappedStores [.Tuple [.Name x px, .Name y py, .Name w pw] kt pt] (.Tuple [a, b, d] k2 pt2) X.env = pure (some [x, y, w]) := by
  have kx : X.env.kindOf x = some .local := hx
  have ky : X.env.kindOf y = some .local := hy
  have kw : X.env.kindOf w = some .local := hw
  unfold swappedStores
  dsimp only
  rw [block_fn kf]
  split
  · rename_i h
    cases h
  · split
    · rename_i h
      simp only [List.any_cons, List.any_nil, Bool.or_false, Bool.or_eq_true] at h
      rcases h with h | h | h
      · cases a <;> first | (cases h; done) | (cases na; done)
      · cases b <;> first | (cases h; done) | (cases nb; done)
      · cases d <;> first | (cases h; done) | (cases nd; done)
    · simp only [List.filterMap, kx, ky, kw, hl, hl2, List.head?, Option.map, Option.getD, Expr.pos, beq_self_eq_true, Bool.and_self, Bool.true_and, if_true]
      rw [h1, h2]
      have ed : [x, y, w].eraseDups = [x, y, w] := by
        have q1 : (x == y) = false := by simpa using hxy
        have q2 : (y == x) = false := by simpa using (Ne.symm hxy)
        simp [List.eraseDups_cons, q1, q2, hxy, hxy.symm, hxw, hxw.symm, hyw, hyw.symm]
      rw [ed]
      rfl
theorem swaps_true (kf : X.env.scope.kind = .function) (B : Bd P k c X W) {g v : Expr} {l : Nat} (h : swTrue c g v = true) : ∃ y py e gs s p, g = .Name y py ∧ v = .ListComp e gs s p ∧ X.env.scope.names.lookup y = some .local ∧ swapsWith v (some g) l X.env = pure true := by
  unfold swTrue at h
  split at h
  · simp only [Bool.and_eq_true, Bool.not_eq_true'] at h
    have hy := B.lcl h.1.1
    exact ⟨_, _, _, _, _, _, rfl, rfl, hy, sw_true kf hy h.1.2 h.2⟩
  · cases h
theorem swaps_false (B : Bd P k c X W) {g v : Expr} {l : Nat} (h : swFalse c g v = true) : swapsWithSole [g] v l X.env = pure false := by
  show swapsWith v (some g) l X.env = pure false
  unfold swFalse at h
  split at h
  · rename_i y py el gs s pos
    unfold swapsWith
    dsimp only
    have e : (X.env.blockKind == .function && X.env.kindOf y == some .local && py.line == (Expr.ListComp el gs s pos).pos.line && !(s.names.any fun (n, k) => n == y && (k == .local || k == .cell))) = false := by
      have q : X.env.kindOf y = c.sc.names.lookup y := by unfold Env.kindOf; rw [B.sc]
      rw [q]
      rw [Bool.not_eq_true'] at h
      by_cases h1 : c.sc.names.lookup y = some .local
      · rw [h1] at h ⊢
        simp only [decide_true, Bool.true_and] at h
        have h2 : (py.line == pos.line && !(s.names.any fun (n, k) => n == y && (k == .local || k == .cell))) = false := h
        simp only [Bool.and_assoc]
        show (_ && (_ && (py.line == pos.line && _))) = false
        rw [h2]
        simp
      · have h2 : (c.sc.names.lookup y == some .local) = false := by simpa using h1
        rw [h2]
        simp
    rw [e]
  · rfl
  · rfl
  · exact swaps_no h
mutual
theorem sS : (m : Sm) → ∀ {X : Cx} {W : WX} (kf : X.env.scope.kind = .function) (hp : PassesOwn (model X.prog X.w) X.A X.env X.xe) (fn : Fnl X) (B : Bd P k c X W) {s : Stmt}, chS c m s = true → PS X s (tS X W (denS (P.gd k) m))
  | .asg t e, X, W, kf, hp, fn, B, s, h => by
    unfold chS at h
    split at h
    · simp only [Bool.and_eq_true] at h
      obtain ⟨⟨⟨⟨h1, h2⟩, h3⟩, h4⟩, h5⟩ := h
      rw [Bool.or_eq_true] at h5
      rename_i g v pos
      by_cases h6 : swFalse c g v = true
      · exact cast_S (ds_asg (sE e B h2).1 (sG t B h1) (swaps_false B h6) (swap_none h4) (by rw [assign_cons h3]; rfl)) (by funext env; rw [denS])
      · have h7 := h5.resolve_left h6
        rw [Bool.and_eq_true] at h7
        obtain ⟨h7, h8⟩ := h7
        split at h8
        · rename_i i heap elt tg it cs own
          obtain ⟨y, py, e', gs, sc0, p, rfl, rfl, hy, hw⟩ := swaps_true (l := pos.line) kf B h7
          unfold chE at h2
          split at h2
          · rename_i l g' iter ifs s pos' heq
            cases heq
            simp only [Bool.and_eq_true] at h2
            obtain ⟨⟨⟨⟨⟨q1, q2⟩, q3⟩, q4⟩, q5⟩, q6⟩ := h2
            unfold chG at h1
            simp only [Bool.and_eq_true, decide_eq_true_eq] at h1
            refine cast_S (ds_setLc (heap := heap) (i := i) B.calm B.nd (ns := tg.slots) (own := own) (f := denG (P.gd k) tg) (dt := fun e => denC (P.gd k) cs e) (de := fun e => den (P.gd k) elt e) (dI := denI (P.gd k) it) ?_ (by rw [B.N]; exact h1.1) hy hw (sI it B q2).1 ?_ (fun s' H C cl fp => sG tg (B.blk sc0 s' H C cl fp) q3) (fun s' H C cl fp => sC cs (B.blk sc0 s' H C cl fp) q4) (fun s' H C cl fp => (sE elt (B.blk sc0 s' H C cl fp) q5).1) (sI it B q2).2) ?_
            · intro n hn
              exact of_decide_eq_true (List.all_eq_true.mp q6 n hn)
            · rw [B.N, B.sc]
              exact blkOk_by q1
            · funext env
              rw [denS, den]
              have q : denG (P.gd k) (.nm i) = fun v env => retM (env.set i (some v)) := by funext v env; rw [denG]
              rw [q]
              rfl
          · cases h2
        · cases h8
    · cases h
  | .par ts l, X, W, kf, hp, fn, B, s, h => by
    unfold chS at h
    split at h
    · split at h
      · simp only [Bool.and_eq_true, decide_eq_true_eq, Bool.not_eq_true'] at h
        obtain ⟨⟨⟨⟨⟨⟨⟨⟨⟨h1, h2⟩, h3⟩, h4⟩, h5⟩, h6⟩, h7⟩, h8⟩, h9⟩, h10⟩ := h
        have hst := h8
        have hA := sA l B h8
        cases l with
        | nil => unfold chA at hst; cases hst
        | cons a1 l =>
          unfold chA at hst
          simp only [Bool.and_eq_true] at hst
          cases l with
          | nil => have := hst.2; unfold chA at this; cases this
          | cons a2 l =>
            have hst2 := hst.2
            unfold chA at hst2
            simp only [Bool.and_eq_true] at hst2
            exact cast_S (ds_par2 B.calm B.nd (by rw [B.N]; exact h1) (by rw [B.N]; exact h2) h3 (B.lcl h5) (B.lcl h6) hA (swap2 kf (B.lcl h5) (B.lcl h6) h4 h7 hst.1.2 hst2.1.2 h9 h10) rfl) (by funext env; rw [denS]; try rfl)
      · cases h
    · split at h
      · simp only [Bool.and_eq_true, decide_eq_true_eq, Bool.not_eq_true'] at h
        obtain ⟨⟨⟨⟨⟨⟨⟨⟨⟨⟨⟨⟨⟨⟨⟨⟨h1, h2⟩, h3⟩, h4⟩, h5⟩, h6⟩, h7⟩, h8⟩, h9⟩, h10⟩, h11⟩, h12⟩, h13⟩, h14⟩, h15⟩, h16⟩, h17⟩ := h
        have hst := h15
        have hA := sA l B h15
        cases l with
        | nil => unfold chA at hst; cases hst
        | cons a1 l =>
          unfold chA at hst
          simp only [Bool.and_eq_true] at hst
          cases l with
          | nil => have := hst.2; unfold chA at this; cases this
          | cons a2 l =>
            have hst2 := hst.2
            unfold chA at hst2
            simp only [Bool.and_eq_true] at hst2
            cases l with
            | nil => have := hst2.2; unfold chA at this; cases this
            | cons a3 l =>
              have hst3 := hst2.2
              unfold chA at hst3
              simp only [Bool.and_eq_true] at hst3
              exact cast_S (ds_par3 B.calm B.nd (by rw [B.N]; exact h1) (by rw [B.N]; exact h2) (by rw [B.N]; exact h3) h4 h5 h6 (B.lcl h10) (B.lcl h11) (B.lcl h12) hA (swap3 kf (B.lcl h10) (B.lcl h11) (B.lcl h12) h7 h8 h9 h13 h14 hst.1.2 hst2.1.2 hst3.1.2 h16 h17) rfl) (by funext env; rw [denS]; try rfl)
      · cases h
    · cases h
  | .aug i o e, X, W, kf, hp, fn, B, s, h => by
    unfold chS at h
    split at h
    · simp only [Bool.and_eq_true, decide_eq_true_eq] at h
      obtain ⟨⟨⟨h1, h2⟩, h3⟩, h4⟩ := h
      cases opIs_eq h3
      obtain ⟨l1, l2⟩ := B.loc h2
      exact cast_S (ds_aug (o := o) B.nd (by rw [B.N]; exact h1) l1 (sE e B h4).1 l2) (by funext env; rw [denS])
    · cases h
  | .expr e, X, W, kf, hp, fn, B, s, h => by
    unfold chS at h
    split at h
    · simp only [Bool.and_eq_true] at h
      exact cast_S (ds_expr (sE e B h.1).1 (swaps_no h.2)) (by funext env; rw [denS])
    · cases h
  | .ife x a b, X, W, kf, hp, fn, B, s, h => by
    unfold chS at h
    split at h
    · simp only [Bool.and_eq_true] at h
      exact cast_S (ds_if (sE x B h.1.1).2 (sSs a kf hp fn B h.1.2) (sSs b kf hp fn B h.2)) (by funext env; rw [denS])
    · cases h
  | .loop t it b, X, W, kf, hp, fn, B, s, h => by
    unfold chS at h
    split at h
    · simp only [Bool.and_eq_true] at h
      exact cast_S (ds_for hp B.calm (sI it B h.1.1).1 (sG t B h.1.2) (sSs b kf hp fn B h.2) (sI it B h.1.1).2) (by funext env; rw [denS])
    · cases h
  | .whl x b, X, W, kf, hp, fn, B, s, h => by
    unfold chS at h
    split at h
    · simp only [Bool.and_eq_true] at h
      exact cast_S (ds_while (n := fuelW) hp (sE x B h.1).2 (sSs b kf hp fn B h.2)) (by funext env; rw [denS])
    · cases h
  | .ret e, X, W, kf, hp, fn, B, s, h => by
    unfold chS at h
    split at h
    · exact cast_S (ds_ret (sE e B h).1) (by funext env; rw [denS])
    · cases h
  | .ret0, X, W, kf, hp, fn, B, s, h => by
    unfold chS at h
    split at h
    · exact cast_S ds_ret0 (by funext env; rw [denS])
    · cases h
  | .brk, X, W, kf, hp, fn, B, s, h => by
    unfold chS at h
    split at h
    · exact cast_S ds_brk (by funext env; rw [denS])
    · cases h
  | .cnt, X, W, kf, hp, fn, B, s, h => by
    unfold chS at h
    split at h
    · exact cast_S ds_cnt (by funext env; rw [denS])
    · cases h
  | .pas, X, W, kf, hp, fn, B, s, h => by
    unfold chS at h
    split at h
    · exact cast_S ds_pas (by funext env; rw [denS])
    · cases h
  | .rai cn f e, X, W, kf, hp, fn, B, s, h => by
    unfold chS at h
    split at h
    · simp only [Bool.and_eq_true, decide_eq_true_eq] at h
      obtain ⟨⟨⟨⟨h1, h2⟩, h3⟩, h4⟩, h5⟩ := h
      subst h1
      obtain ⟨g1, g2, g3⟩ := B.gl h2
      obtain ⟨C, m1, n1, T⟩ := B.xc _ _ h3
      exact cast_S (ds_rai B.calm B.tk T B.room g1 m1 (sE e B h4).1 g2 (star_cons h5)) (by funext env; rw [denS])
    · cases h
  | .tryx b hs tab, X, W, kf, hp, fn, B, s, h => by
    unfold chS at h
    split at h
    · simp only [Bool.and_eq_true] at h
      obtain ⟨⟨h1, h2⟩, h3⟩ := h
      refine cast_S (ds_try fn.st fn.fr fn.ex B.nd B.tk (fun W' pn xe t p => sSs b (X := X.tr pn xe) kf p ⟨fn.st, fn.fr, fn.ex⟩ (B.tr t) h1) (hds_ch B h2) fun c' hc' => ?_) (by funext env; rw [denS])
      obtain ⟨f1, C1, e1, m1, n1, T1⟩ := B.xk (List.all_eq_true.mp h3 c' hc')
      refine ⟨C1, f1, m1, n1, T1, fun x D hx mD => ?_⟩
      obtain ⟨f2, C2, e2, m2, n2, T2⟩ := B.xk hx
      rw [m2] at mD
      cases mD
      exact (B.xp _ _ _ _ _ _ e1 e2 n1 n2).1
    · cases h
theorem sSs : (m : Ss) → ∀ {X : Cx} {W : WX} (kf : X.env.scope.kind = .function) (hp : PassesOwn (model X.prog X.w) X.A X.env X.xe) (fn : Fnl X) (B : Bd P k c X W) {s : List Stmt}, chSs c m s = true → PSs X s (tS X W (fun e => denSs (P.gd k) m e))
  | .nil, X, W, kf, hp, fn, B, s, h => by
    unfold chSs at h
    split at h
    · have q : (fun e => denSs (P.gd k) .nil e) = fun env h => some (.next env, h) := by funext env; rw [denSs]
      rw [q]
      exact dss_nil
    · cases h
  | .cons a b, X, W, kf, hp, fn, B, s, h => by
    unfold chSs at h
    split at h
    · simp only [Bool.and_eq_true] at h
      have q : (fun e => denSs (P.gd k) (.cons a b) e) = fun env h => match denS (P.gd k) a env h with
        | some (.next e, h') => denSs (P.gd k) b e h'
        | r => r := by funext env; rw [denSs]; try rfl
      rw [q]
      exact dss_cons (sS a kf hp fn B h.1) (sSs b kf hp fn B h.2)
    · cases h
end
end
end L2.Cap

set_option maxRecDepth 100000
set_option maxHeartbeats 4000000
namespace L2.Cap
open PySem PySem.Spec PySem.W PySem.Calls PyProof.Rows
/-! ### an own exception class, as the module's top has left it -/
inductive Bs | ve | oe | le
  deriving DecidableEq
def Bs.nm : Bs → String
  | .ve => "ValueError"
  | .oe => "OverflowError"
  | .le => "LookupError"
def Bs.new : Bs → String
  | .ve => "ValueError.__new__"
  | .oe => "OverflowError.__new__"
  | .le => "LookupError.__new__"
def Bs.ini : Bs → String
  | .ve => "ValueError.__init__"
  | .oe => "OverflowError.__init__"
  | .le => "LookupError.__init__"
def Bs.mro : Bs → List Value
  | .ve => [.type "ValueError", .type "Exception", .type "BaseException", .type "object"]
  | .oe => [.type "OverflowError", .type "ArithmeticError", .type "Exception", .type "BaseException", .type "object"]
  | .le => [.type "LookupError", .type "Exception", .type "BaseException", .type "object"]
theorem Bs.base : ∀ b : Bs, ExcBaseFacts b.nm b.new b.ini b.mro
  | .ve => F.excBase_ValueError
  | .oe => F.excBase_OverflowError
  | .le => F.excBase_LookupError
theorem Bs.kxs : ∀ b : Bs, KxsFacts b.nm b.ini
  | .ve => kxs_ValueError
  | .oe => kxs_OverflowError
  | .le => kxs_LookupError
theorem Bs.store : ∀ b : Bs, StoreFacts b.nm b.mro "object.__setattr__" "object"
  | .ve => F.store_ValueError
  | .oe => F.store_OverflowError
  | .le => F.store_LookupError
structure XI where
  nm : Str
  bs : Bs
  fld : Option Str
def bodyB (fld : Option Str) (y : Str) : List Stmt → Bool
  | [.Expr (.Call (.Attribute (.Call (.Name s _) [] [] _) i p2) [.Constant (.str _) _ _] [] p3) _, .Assign [.Attribute (.Name sl _) f _] (.Name y' _) _] =>
    decide (s = "super") && decide (i = "__init__") && decide (sl = "self") && decide (y' = y) && decide (fld = some f) && (p2.endLine == p3.line)
  | [.Expr (.Call (.Attribute (.Call (.Name s _) [] [] _) i p2) [.Name y' _] [] p3) _] => decide (s = "super") && decide (i = "__init__") && decide (y' = y) && decide (fld = none) && (p2.endLine == p3.line)
  | _ => false
def scB (sc : Scope) (y : Str) : Bool := (match sc.kind with | .function => true | _ => false) && !sc.isCoroutine && !sc.isGenerator && sc.names.all (fun x => !decide (x.2 = .cell)) && decide (sc.names.lookup ("self" : Str) = some .local) && decide (sc.names.lookup y = some .local) &&
  decide (sc.names.lookup ("super" : Str) = some .globalImplicit) && decide (sc.names.lookup ("__class__" : Str) = some .free)
def xNames : List Str := ["number", "value", "place", "part", "line", "most", "text"]
def xshB (fld : Option Str) : Arguments → Scope → List Stmt → Bool
  | ⟨[], [⟨s, none, _⟩, ⟨y, none, _⟩], none, [], [], none, []⟩, sc, body => decide (s = "self") && decide (y ∈ xNames) && scB sc y && bodyB fld y body
  | _, _, _ => false
def fileB (K : Frag) (cda : Addr) (file : Str) : Bool := match K.lookup cda with
  | some ⟨_, _, .fields vs, _⟩ => (match (vs[2]? : Option Value) with
    | some (.str fl _) => file == fl
    | _ => false)
  | _ => false
def cellB (K : Frag) (cc C : Addr) : Bool := match K.lookup cc with
  | some ⟨_, _, .cell (some (.ref D)), _⟩ => decide (D = C)
  | _ => false
def xfnB (K : Frag) (C : Addr) (file : Str) (fld : Option Str) : FuncData → Bool
  | ⟨_, qual, params, .stmts body, scope, gl, [(cn, cc)], .none, _, _, _, _, .ref cda, _, bl⟩ => decide (gl = mainGlobals) && decide (bl = builtinsNs) && decide (cn = "__class__") && codeIn K (.ref cda) qual && fileB K cda file && cellB K cc C && xshB fld params scope body
  | _ => false
def xinB (K : Frag) (C : Addr) (file : Str) (fld : Option Str) : Bool := match findIn K (.ref C) "__init__" with
  | some (some (.ref fI)) => decide (typeIn K (.ref fI) = some (.type "function")) && (match K.lookup fI with
    | some ⟨_, _, .func fd, _⟩ => xfnB K C file fld fd
    | _ => false)
  | _ => false
def xclB (K : Frag) (file : Str) (fl : List Str) (x : XI) : Bool :=
  decide (nsIn K mainGlobals x.nm = some (some (.ref (He.ga K x.nm)))) && excInitIn K (He.ga K x.nm) x.bs.mro x.bs.new && excOver K (He.ga K x.nm) x.bs.mro && xinB K (He.ga K x.nm) file x.fld &&
  decide (nsIn K mainGlobals "super" = some none) && decide (ks_superIn K (He.ga K x.nm) (He.ga K x.nm) "__init__" = some (some (.builtin x.bs.ini))) && decide (mroIn K (He.ga K x.nm) (.ref (He.ga K x.nm)) = some true) &&
  decide (subIn K (.ref (He.ga K x.nm)) (.type x.bs.nm) = some true) && decide (nsIn K cStatics "thirdparty.any" = some none) && decide (findIn K (.ref (He.ga K x.nm)) "__setattr__" = some (some (.builtin "object.__setattr__"))) &&
  hasDictIn K (He.ga K x.nm) && keepIn K (.ref (He.ga K x.nm)) && decide (subIn K (.ref (He.ga K x.nm)) (.type "BaseException") = some true) && decide (typeIn K (.ref (He.ga K x.nm)) = some (.type "type")) &&
  decide (findIn K (.ref (He.ga K x.nm)) "__getattribute__" = some (some (.builtin "BaseException.__getattribute__"))) && decide (findIn K (.ref (He.ga K x.nm)) "__getattr__" = some none) && decide (findIn K (.ref (He.ga K x.nm)) "__class__" = some (some (.builtin "object.__class__"))) &&
  decide (specialIn K (.builtin "object.__class__") "__get__" = some (some (.builtin "getset_descriptor.__get__"))) && decide (takesIn K (.builtin "object.__class__") = some true) && decide (mroIn K (He.ga K x.nm) (.type "object") = some true) &&
  fl.all (fun f => decide (findIn K (.ref (He.ga K x.nm)) f = some none)) && (match x.fld with | some f => decide (f ∈ fl) | none => true)
def xprB (K : Frag) (xs : List XI) : Bool := xs.all fun a => xs.all fun b => decide (exmOne K (.ref (He.ga K a.nm)) (.ref (He.ga K b.nm)) = some (decide (a.nm = b.nm))) && decide (kitOne K (.ref (He.ga K a.nm)) (.ref (He.ga K b.nm)) = some (decide (a.nm = b.nm)))
theorem xcl_ok {prog : Program} {K : Frag} {file : Str} {fl : List Str} {x : XI} (hf : (prog.main.file : Str) = file) (htop : (prog.main.scope.names.lookup ("super" : Str)).isSome = false) (h : xclB K file fl x = true) :
    nsIn K mainGlobals x.nm = some (some (.ref (He.ga K x.nm))) ∧ XOk prog K (He.ga K x.nm) x.fld fl := by
  unfold xclB at h
  simp only [Bool.and_eq_true, decide_eq_true_eq] at h
  obtain ⟨⟨⟨⟨⟨⟨⟨⟨⟨⟨⟨⟨⟨⟨⟨⟨⟨⟨⟨⟨⟨a1, a2⟩, a3⟩, a4⟩, a5⟩, a6⟩, a7⟩, a8⟩, a9⟩, a10⟩, a11⟩, a12⟩, a13⟩, a14⟩, a15⟩, a16⟩, a17⟩, a18⟩, a19⟩, a20⟩, a21⟩, a22⟩ := h
  have no : ∀ fn, fn ∈ fl → findIn K (.ref (He.ga K x.nm)) fn = some none := fun fn hfn => of_decide_eq_true (List.all_eq_true.mp a21 fn hfn)
  generalize He.ga K x.nm = C at a1 a2 a3 a4 a6 a7 a8 a10 a11 a12 a13 a14 a15 a16 a17 a20 no ⊢
  refine ⟨a1, ?_, a12, a14, ⟨a15, a16, a13, a11, a17, a18, a19, a20⟩, no⟩
  unfold xinB at a4
  split at a4
  · rename_i fI hfI
    simp only [Bool.and_eq_true, decide_eq_true_eq] at a4
    obtain ⟨b1, b2⟩ := a4
    split at b2
    · rename_i oc od fd osl hlk
      unfold xfnB at b2
      split at b2
      · rename_i nm qual params body scope gl cn cc kV doc pm an cda ct bl
        simp only [Bool.and_eq_true, decide_eq_true_eq] at b2
        obtain ⟨⟨⟨⟨⟨⟨c1, c2⟩, c3⟩, c4⟩, c5⟩, c6⟩, c7⟩ := b2
        subst c1 c2 c3
        unfold fileB at c5
        split at c5
        · rename_i ccl cdd vs ccs hcode
          split at c5
          · rename_i fl' tf hvs
            unfold cellB at c6
            split at c6
            · rename_i cl cld D csl hcell
              cases of_decide_eq_true c6
              have T : XCl prog K C x.bs.nm x.bs.new x.bs.ini x.bs.mro fI cc cda qual params body scope := ⟨a2, a3, hfI, b1, ⟨oc, od, osl, nm, kV, doc, pm, an, ct, hlk⟩, c4, ⟨ccl, cdd, vs, ccs, fl', tf, hcode, hvs, by rw [hf]; exact c5⟩, ⟨cl, cld, csl, hcell⟩, a5, a6, a7, a8, a9, a10, a11, a12, a13, a14⟩
              unfold xshB at c7
              split at c7
              · rename_i s q1 y q2
                simp only [Bool.and_eq_true, decide_eq_true_eq, Bool.not_eq_true'] at c7
                obtain ⟨⟨⟨d1, dy⟩, d4⟩, d5⟩ := c7
                subst d1
                have d2 : y ≠ "self" := fun q => by rw [q] at dy; exact absurd dy (by decide)
                have d3 : (y == ("__debug__" : Str)) = false := by
                  refine Bool.eq_false_iff.mpr fun q => ?_
                  rw [beq_iff_eq.mp q] at dy
                  exact absurd dy (by decide)
                unfold scB at d4
                simp only [Bool.and_eq_true, decide_eq_true_eq, Bool.not_eq_true'] at d4
                obtain ⟨⟨⟨⟨⟨⟨⟨e1, e2⟩, e3⟩, e4⟩, e5⟩, e6⟩, e7⟩, e8⟩ := d4
                have hk : scope.kind = .function := by
                  split at e1
                  · assumption
                  · cases e1
                have hcl : ∀ z ∈ scope.names, z.2 ≠ .cell := fun z hz => by
                  have q := List.all_eq_true.mp e4 z hz
                  simpa using q
                unfold bodyB at d5
                split at d5
                · simp only [Bool.and_eq_true, decide_eq_true_eq] at d5
                  obtain ⟨⟨⟨⟨⟨f1, f2⟩, f3⟩, f4⟩, f5⟩, f6⟩ := d5
                  subst f1 f2 f3 f4
                  rw [f5] at a22 ⊢
                  intro w A R h g d t os mg mb v X hg hb hbb hlim hroom hq
                  exact make_A x.bs.base x.bs.kxs x.bs.store f6 T X hg hb hbb htop hlim hroom (fun _ _ _ _ _ _ _ _ => by simp only [xNames, List.mem_cons, List.not_mem_nil, or_false] at dy; rcases dy with rfl | rfl | rfl | rfl | rfl | rfl | rfl <;> rfl) rfl rfl d2 d3 hcl e5 e6 e2 e3 hk e7 e8 (no _ (of_decide_eq_true a22))
                    fun h' t' a t1 dx k sz sd ne hget hn => hq h' t' a t1 (some dx) k sz hget ⟨sd, ne, hn⟩
                · simp only [Bool.and_eq_true, decide_eq_true_eq] at d5
                  obtain ⟨⟨⟨⟨f1, f2⟩, f3⟩, f4⟩, f5⟩ := d5
                  subst f1 f2 f3
                  rw [f4]
                  intro w A R h g d t os mg mb v X hg hb hbb hlim hroom hq
                  exact make_B x.bs.base x.bs.kxs f5 T X hg hb hbb htop hlim hroom (fun _ _ _ _ _ _ _ _ => by simp only [xNames, List.mem_cons, List.not_mem_nil, or_false] at dy; rcases dy with rfl | rfl | rfl | rfl | rfl | rfl | rfl <;> rfl) rfl rfl d2 d3 hcl e5 e6 e2 e3 hk e7 e8
                    fun h' t' a t1 k sz hget => hq h' t' a t1 none k sz hget True.intro
                · cases d5
              · cases c7
            · cases c6
          · cases c5
        · cases c5
      · cases b2
    · cases b2
  · cases a4
end L2.Cap

set_option maxRecDepth 100000
set_option maxHeartbeats 2000000
namespace L2.Cap
open PySem PySem.Spec PyProof.Rows
/-! ### a def by its table row -/
theorem FnG.ofD {P : Program} {w : World} {K : PySem.W.Frag} {mg : Str → Option Value} {base : Heap} {x qual : Str} {params : Arguments} {bd : List Stmt} {scope : Scope} {f : Addr} {fd : FuncData} {N ps : List Str} {k : Nat} {sp : Sp} (F : FunD K x qual params bd scope [] [] f fd)
    (S : FnScope N ps scope) (len : ∀ vs H Q E, sp vs H Q E → vs.length = ps.length)
    (body : ∀ (cdv : Value) (A : Around) (outer : List Env) (s : Shared) (H : Hp) (vs : List V) (Q : VK) (E : XK), Room k (A.deeper (envOfC qual scope s.heap.objs.size f cdv)) → A.guards = some [] → sp vs H Q E →
      ∃ t, PSs (cxOf (L2.CX P w) P w K mg base N qual scope f cdv A outer s H E) bd t ∧ t { nx := fun _ H' => Q .non H', rt := Q } (start N vs) H) :
    FnG P w K mg base (k + 1) f fd ps sp := by
  obtain ⟨oc, od, dV, kV, doc, pm, an, cdv, ct, osl, rfl, lk, hcd, _, _⟩ := F.ex
  refine ⟨len, fun A outer s H args us vs Q E room gu e0 bind rel promise => ?_⟩
  have nvs := len _ _ _ _ promise
  have inK : K.In s.heap := PySem.W.Frag.In.keeps e0.mod.kin fun b o e => (e0.bs b o e).1
  have free : s.heap.NoLimit := Heap.NoLimit.keeps e0.mod.nolimit fun b o e => (e0.bs b o e).1
  refine codeAny_call_function room.depth (inK _ _ lk) rfl S.co S.gen rfl (PySem.W.codeRec_of inK hcd) (bind _ _ _ _ ?_)
  refine wpAny_newFunctionEnv_cells S.kind (fun y hy => ?_) fun env he s1 at1 => ?_
  · rcases S.par y.1 (List.of_mem_zip (show (y.1, y.2) ∈ ps.zip us from hy)).1 with q | q
    · exact Or.inl q
    · exact Or.inr ⟨q, PySem.W.cellsFrom_some _ _ _ (Or.inl q)⟩
  subst he
  refine ⟨Heap.NoLimit.keeps free at1.toInCall.keep, codeAny_func ?_⟩
  obtain ⟨t, derived, reading⟩ := body cdv A outer s H vs Q E (room.deeper _) gu promise
  have I0 := inv_start (CX := L2.CX P w) (P := P) (w := w) (E := E) (N := N) S room.hd e0 nvs rel at1
  refine wpAny_mono (derived.run [] s1 (start N vs) H _ I0 reading) (fun fl s' there => ?_) fun _ _ q => q
  cases fl with
  | ret u =>
    obtain ⟨v, _, H', J, rv, q⟩ := there
    exact ⟨v, H', J.os, J.bare, J.base, J.hok, rv, q⟩
  | next =>
    obtain ⟨_, H', J, q⟩ := there
    exact ⟨V.non, H', J.os, J.bare, J.base, J.hok, rfl, q⟩
  | brk => obtain ⟨_, _, _, q⟩ := there; exact q.elim
  | cont => obtain ⟨_, _, _, q⟩ := there; exact q.elim
/-- a row: the def, its parameters, its slots -/
structure Ent where
  nm : Str
  ps : List Str
  N : List Str
  params : Arguments
  bd : List Stmt
  sc : Scope
def fscB (N ps : List Str) (sc : Scope) : Bool := (match sc.kind with | .function => true | _ => false) && !sc.isCoroutine && !sc.isGenerator && decide N.Nodup && decide (N.take ps.length = ps) &&
  (ps.all fun x => match sc.names.lookup x with | some .local => true | some .cell => true | _ => false) && (sc.names.all fun y => match y.2 with | .free => false | _ => true)
theorem fscB_ok {N ps : List Str} {sc : Scope} (h : fscB N ps sc = true) : FnScope N ps sc := by
  unfold fscB at h
  simp only [Bool.and_eq_true, decide_eq_true_eq, Bool.not_eq_true', List.all_eq_true] at h
  obtain ⟨⟨⟨⟨⟨⟨h1, h2⟩, h3⟩, h4⟩, h5⟩, h6⟩, h7⟩ := h
  refine ⟨?_, h2, h3, h4, h5, fun x hx => ?_, fun y hy => ?_⟩
  · split at h1
    · assumption
    · cases h1
  · have q := h6 x hx
    split at q
    · exact .inl (by assumption)
    · exact .inr (by assumption)
    · cases q
  · have q := h7 y hy
    intro e
    rw [e] at q
    cases q
def fnsOf (T : List Ent) : List (Str × Nat) := T.map fun e => (e.nm, e.ps.length)
def clsOf (xs : List XI) : List (Str × Option Str) := xs.map fun x => (x.nm, x.fld)
def fldsOf (xs : List XI) : List Str := (clsOf xs).filterMap (·.2)
def Ent.ck (T : List Ent) (con free : List Str) (xs : List XI) (e : Ent) : Ck := ⟨e.N, e.sc, none, con, fnsOf T, free, clsOf xs⟩
def Ent.ok (P : Pg) (T : List Ent) (con free : List Str) (xs : List XI) (e : Ent) : Bool := fscB e.N e.ps e.sc && decide (e.ps.length ≤ e.N.length) && match P.fns.lookup e.nm with
  | some d => decide (d.n = e.N.length) && chSs (e.ck T con free xs) d.body e.bd
  | none => false
theorem fns_mem : ∀ {T : List Ent} {f : Str} {n : Nat}, (fnsOf T).lookup f = some n → ∃ e ∈ T, e.nm = f ∧ e.ps.length = n
  | [], f, n, h => by cases h
  | e :: T, f, n, h => by
    unfold fnsOf at h
    rw [List.map_cons, List.lookup_cons] at h
    split at h
    · rename_i q
      exact ⟨e, List.mem_cons_self .., (by simpa using q : f = e.nm).symm, Option.some.inj h⟩
    · obtain ⟨e', h1, h2⟩ := fns_mem (T := T) h
      exact ⟨e', List.mem_cons_of_mem _ h1, h2⟩
theorem cls_mem : ∀ {xs : List XI} {c : Str} {f : Option Str}, (clsOf xs).lookup c = some f → ∃ x ∈ xs, x.nm = c ∧ x.fld = f
  | [], c, f, h => by cases h
  | x :: xs, c, f, h => by
    unfold clsOf at h
    rw [List.map_cons, List.lookup_cons] at h
    split at h
    · rename_i q
      exact ⟨x, List.mem_cons_self .., (by simpa using q : c = x.nm).symm, Option.some.inj h⟩
    · obtain ⟨x', h1, h2⟩ := cls_mem (xs := xs) h
      exact ⟨x', List.mem_cons_of_mem _ h1, h2⟩
structure Gr (P : Pg) (Pr : Program) (K : PySem.W.Frag) (mg : Str → Option Value) (T : List Ent) (cs fs : List Str) (xs : List XI) : Prop where
  xc : ∀ x, x ∈ xs → mg x.nm = some (.ref (He.ga K x.nm)) ∧ PySem.W.nsIn K mainGlobals x.nm = some (some (.ref (He.ga K x.nm))) ∧ XOk Pr K (He.ga K x.nm) x.fld (fldsOf xs)
  xp : xprB K xs = true
  row : ∀ e, e ∈ T → ∃ f fd, FunD K e.nm e.nm e.params e.bd e.sc [] [] f fd ∧ mg e.nm = some (.ref f) ∧ Binds K fd e.ps []
  con : ∀ x, x ∈ cs → ∃ d u v, P.con.lookup x = some d ∧ mg x = some u ∧ RelV v u ∧ ∀ F H, RepD K F H v d
  free : ∀ x, x ∈ fs → mg x = none
  ok : ∀ e, e ∈ T → e.ok P T cs fs xs = true
theorem rep_start {K : PySem.W.Frag} {z : Z} {vs : List V} {xs : List RV} {n m : Nat} (e : n = m) (r : RepVs K z vs xs) : RepE K z (xs.map some ++ List.replicate (n - xs.length) none) (vs.map some ++ List.replicate (m - vs.length) none) := by
  subst e
  have hl := Paired.length r
  refine ⟨by simp [hl], fun i x h => ?_⟩
  have key : ∀ {vs : List V} {xs : List RV}, RepVs K z vs xs → ∀ (i : Nat) (x : RV), xs[i]? = some x → ∃ v, vs[i]? = some v ∧ RepV K z v x := by
    intro vs xs r
    induction r with
    | nil => intro i x h; simp at h
    | cons a b ih =>
      intro i x h
      cases i with
      | zero => simp at h; subst h; exact ⟨_, rfl, a⟩
      | succ i => exact ih i x (by simpa using h)
  by_cases hi : i < xs.length
  · rw [List.getElem?_append_left (by rw [List.length_map]; exact hi), List.getElem?_map] at h
    cases q : xs[i]? with
    | none => rw [q] at h; cases h
    | some y =>
      rw [q] at h
      have e : y = x := by simpa using h
      subst e
      obtain ⟨v, h1, h2⟩ := key r i y q
      refine ⟨v, ?_, h2⟩
      rw [List.getElem?_append_left (by rw [List.length_map, hl]; exact hi), List.getElem?_map, h1]
      rfl
  · rw [List.getElem?_append_right (by rw [List.length_map]; omega)] at h
    have := List.mem_of_getElem? h
    rw [List.mem_replicate] at this
    cases this.2
/-- every row keeps its promise, k calls deep -/
theorem ok_all {P : Pg} {Pr : Program} {w : World} {K : PySem.W.Frag} {mg : Str → Option Value} {base : Heap} {T : List Ent} {con free : List Str} {xs : List XI} (G : Gr P Pr K mg T con free xs) :
    ∀ (k : Nat) (e : Ent), e ∈ T → ∀ f fd, FunD K e.nm e.nm e.params e.bd e.sc [] [] f fd → FnG Pr w K mg base k f fd e.ps (spD K mg e.ps.length (run P k e.nm))
  | 0, e, he, f, fd, F => ⟨fun vs H Q E h => h.1, fun A outer s H args us vs Q E _ _ _ _ _ h => by
    obtain ⟨_, z, xs, _, _, _, fin⟩ := h
    exact fin.elim⟩
  | k + 1, e, he, f, fd, F => by
    have ok := G.ok e he
    unfold Ent.ok at ok
    rw [Bool.and_eq_true, Bool.and_eq_true] at ok
    obtain ⟨⟨ok1, ok2⟩, ok3⟩ := ok
    cases hd : P.fns.lookup e.nm with
    | none => rw [hd] at ok3; cases ok3
    | some d =>
      rw [hd] at ok3
      simp only [Bool.and_eq_true, decide_eq_true_eq] at ok3
      refine FnG.ofD F (fscB_ok ok1) (fun vs H Q E h => h.1) fun cdv A outer s H vs Q E hr gu h => ?_
      have B : Bd P k (e.ck T con free xs) (cxOf (L2.CX Pr w) Pr w K mg base e.N e.nm e.sc f cdv A outer s H E) (fun cls dx _ H' => E cls dx H') :=
        { N := rfl
          sc := rfl
          fn := fun _ => rfl
          nd := (fscB_ok ok1).nd
          calm := rfl
          room := hr
          gu := gu
          tk := takes_of rfl rfl rfl rfl
          con := G.con
          fns := fun f n q => by
            obtain ⟨e', h1, rfl, rfl⟩ := fns_mem q
            obtain ⟨f', fd', F', m', b'⟩ := G.row e' h1
            exact ⟨f', fd', e'.ps, rfl, ok_all G k e' h1 f' fd' F', m', F'.kp, b'⟩
          free := G.free
          xc := fun cn f q => by
            obtain ⟨x, hx, rfl, rfl⟩ := cls_mem q
            obtain ⟨q1, q2, q3⟩ := G.xc x hx
            exact ⟨_, q1, q2, q3⟩
          xp := fun c1 f1 c2 f2 C1 C2 q1 q2 n1 n2 => by
            obtain ⟨x1, hx1, rfl, rfl⟩ := cls_mem q1
            obtain ⟨x2, hx2, rfl, rfl⟩ := cls_mem q2
            have m1 := (G.xc x1 hx1).2.1
            have m2 := (G.xc x2 hx2).2.1
            have m1 : PySem.W.nsIn K mainGlobals x1.nm = _ := m1
            have n1 : PySem.W.nsIn K mainGlobals x1.nm = _ := n1
            have n2 : PySem.W.nsIn K mainGlobals x2.nm = _ := n2
            rw [m1] at n1
            rw [m2] at n2
            cases n1
            cases n2
            have q := List.all_eq_true.mp (List.all_eq_true.mp G.xp x1 hx1) x2 hx2
            rw [Bool.and_eq_true] at q
            exact ⟨of_decide_eq_true q.1, of_decide_eq_true q.2⟩ }
      refine ⟨_, sSs d.body (fscB_ok ok1).kind (passes_of rfl) ⟨rfl, rfl, rfl⟩ B ok3.2, ?_⟩
      obtain ⟨hl, z, xs, rfl, g, rx, fin⟩ := h
      refine ⟨z, xs.map some ++ List.replicate (d.n - xs.length) none, rfl, g, rep_start ok3.1 rx, ?_⟩
      have er : run P (k + 1) e.nm xs = runF (P.gd k) d xs := by
        rw [run, hd]
        rfl
      rw [er] at fin
      unfold runF at fin
      show FinS K mg _ _ z (denSs (P.gd k) d.body (xs.map some ++ List.replicate (d.n - xs.length) none) z.h)
      revert fin
      cases denSs (P.gd k) d.body (xs.map some ++ List.replicate (d.n - xs.length) none) z.h with
      | none => exact fun q => q
      | some p =>
        obtain ⟨o, h'⟩ := p
        cases o with
        | next env => exact fun q z' σ' e1 g' x' _ => q z' e1 g' x' .non (.val .non)
        | brk env => exact fun q => q.elim
        | cont env => exact fun q => q.elim
        | ret v => exact fun q z' v' e1 g' x' r => q z' e1 g' x' v' r
        | exc cc fs env => exact fun q z' σ' cls dx e1 g' x' _ r => q z' e1 g' x' cls dx r
/-- the law's promise from the run of its meaning -/
theorem sp_law {P : Pg} {K : PySem.W.Frag} {mg : Str → Option Value} {k : Nat} {nm : Str} {H : Hp} {a : Addr} {ns : List Int} {h' : AH} (hO : Only H) (hS : SqL K H a (ns.map V.int)) (e : run P k nm [.ref 0] [.ro (ns.map .int)] = some (.ok (.val (.bool true)), h')) :
    spD K mg 1 (run P k nm) [.ref a] H (fun v _ => v = .bl true) fun _ _ _ => False := by
  have rl : RoL K H a (ns.map V.int) := by
    rcases hS with (q | q) | q
    · rcases hO a with o | ⟨_, _, o⟩
      · rw [q] at o; cases o
      · rw [q] at o; cases o
    · exact .inl q
    · exact .inr q
  have rd : ∀ ns : List Int, RepDs K (fun _ => False) H (ns.map V.int) (ns.map .int) := by
    intro ns
    induction ns with
    | nil => exact .nil
    | cons n ns ih => exact .cons (.int n) ih
  have nol : ∀ n, ¬ live [AO.ro (ns.map .int)] n := by
    rintro n ⟨o, e1, e2⟩
    cases n with
    | zero => cases e1; cases e2
    | succ n => simp at e1
  refine ⟨rfl, ⟨fun _ => False, fun _ => a, [.ro (ns.map .int)], H⟩, [.ref 0], rfl, ⟨fun n o e1 e2 => (nol n ⟨o, e1, e2⟩).elim, fun n ds e1 => ?_, fun n m l => (nol n l).elim, fun a f => f.elim⟩, .cons (.ref (z := ⟨fun _ => False, fun _ => a, [.ro (ns.map .int)], H⟩) (n := 0) (Nat.zero_lt_one)) .nil, ?_⟩
  · cases n with
    | zero =>
      have e1 : AO.ro (ns.map .int) = .ro ds := Option.some.inj e1
      cases e1
      exact .inl ⟨_, rl, rd ns⟩
    | succ n =>
      have e1 : ([AO.ro (ns.map .int)] : AH)[n + 1]? = some (.ro ds) := e1
      simp at e1
  · show Fin K _ (run P k nm [.ref 0] [.ro (ns.map .int)]) _ _
    rw [e]
    intro z' e1 g1 x1 b r
    exact r.bool
end L2.Cap

set_option maxRecDepth 100000
set_option maxHeartbeats 2000000
namespace L2.Cap
open PySem PySem.Spec PyProof.Rows
/-! ### the law's call, from where no repr is under way -/
section
variable {P : Program} {w : World} {K : PySem.W.Frag} {mg mb : Str → Option Value} {k : Nat} {fa a : Addr} {fd : FuncData} {x : Str} {sp : Sp} {s₁ : Shared} {vs : List Value} {ns : List Int}
/-- what is to be seen behind the law's call -/
abbrev Seen (s₁ : Shared) : Except Value Flow → Shared → Prop := fun r s' => r = .ok (.ret (.bool true)) ∧ OldK s₁.heap s'.heap ∧ s'.os = s₁.os ∧ AllBare s'.gens
theorem law_at (KX : K.In s₁.heap) (hns : s₁.heap.Ns mainGlobals mg) (hb : s₁.heap.Ns builtinsNs mb) (hbb : ∀ y : Str, y ≠ "__name__" → mb y = bootBuiltins y) (hlim : s₁.heap.NoLimit) (hg : s₁.gens = #[])
    (ha : s₁.heap.get? a = some { cls := .type "list", data := .seq vs.toArray }) (hr : Room k callerA)
    (F : ∀ base : Heap, FnG P w K mg base k fa fd [x] sp) (bd : ∀ (s : Shared) (u : Value), BindsTo s fd ⟨[u], []⟩ [(x, u)])
    (H : Hp) (only : Only H) (promise : sp [.ref a] H (fun v _ => v = .bl true) fun _ _ _ => False) (hok : HOk P w H s₁.heap) (hA : ∀ b, H b ≠ none → b = a) (hK : H a ≠ none → K.lookup a = none) :
    codeAny (model P w) callerA (.call (.ref fa) ⟨[.ref a], []⟩) (Seen s₁) s₁ := by
  have notDict : ∀ {b : Addr} {o : Obj} {es : Array DictEntry} {ep : Nat}, s₁.heap.get? b = some o → o.data = .dict es ep → H b = none := by
    intro b o es ep e d
    by_cases q : H b = none
    · exact q
    · cases hA b q
      rw [ha] at e
      cases e
      cases (show Data.seq vs.toArray _ = Data.dict es ep from d)
  have names : ∀ {b : Addr} {m : Str → Option Value}, s₁.heap.Ns b m → (hidT s₁.heap H).Ns b m := by
    rintro b m ⟨o, es, ep, e, d, r⟩
    exact ⟨o, es, ep, hidT_get e (notDict e d), d, r⟩
  have inB : K.In (hidT s₁.heap H) := by
    intro b o e
    refine hidT_get (KX b o e) ?_
    by_cases q : H b = none
    · exact q
    · cases hA b q
      rw [hK q] at e
      cases e
  have lim : (hidT s₁.heap H).NoLimit := by
    obtain ⟨mc, h1, h2⟩ := hlim
    exact ⟨mc, names h1, h2⟩
  have ground : Mod K mg (hidT s₁.heap H) := ⟨inB, names hns, ⟨mb, names hb, hbb⟩, lim⟩
  have nob : ∀ b : Addr, b ∉ ([] : List Addr) := fun b hb => by cases hb
  have start0 : Env0 P w K mg (hidT s₁.heap H) callerA [] s₁ H := ⟨rfl, ground, fun b o e => of_hidT e, Nat.le_of_eq (hidT_size _ _), trivial, fun b hb => (nob b hb).elim, hok, .of_eq hg⟩
  have ran := (F (hidT s₁.heap H)).run callerA [] s₁ H ⟨[.ref a], []⟩ [.ref a] [.ref a] _ _ hr rfl start0 (bd s₁ (.ref a)) (.cons rfl .nil) promise
  refine codeAny_mono ran fun r s' there => ?_
  match r, there with
  | .error e, there =>
    obtain ⟨_, _, _, _, _, _, _, _, _, _, _, _, no⟩ := there
    exact no.elim
  | .ok (.ret u), there =>
    obtain ⟨v, H', os, bare, un, hok', rv, q⟩ := there
    have q : v = .bl true := q
    subst q
    have rv : u = Value.bool true := rv
    subst rv
    refine ⟨rfl, OldK.of_keep fun b o e => ?_, os, bare⟩
    rcases only b with z | ⟨ob, xs, z⟩
    · exact un.keep b o e z (nob b) (nob b)
    · have e1 := (hok b _ z).1
      have e2 := (hok' b _ (un.frzs b ob _ z)).1
      rw [e] at e1
      have e3 := Option.some.inj e1
      rw [e3]
      exact e2
theorem law_callG (KX : K.In s₁.heap) (hns : s₁.heap.Ns mainGlobals mg) (hb : s₁.heap.Ns builtinsNs mb) (hbb : ∀ y : Str, y ≠ "__name__" → mb y = bootBuiltins y) (hlim : s₁.heap.NoLimit) (hg : s₁.gens = #[])
    (ha : s₁.heap.get? a = some { cls := .type "list", data := .seq vs.toArray }) (hi : IntsAre vs ns) (hl : ns.length ≤ sizeLine) (hr : Room k callerA)
    (F : ∀ base : Heap, FnG P w K mg base k fa fd [x] sp) (bd : ∀ (s : Shared) (u : Value), BindsTo s fd ⟨[u], []⟩ [(x, u)])
    (promise : ∀ H : Hp, Only H → SqL K H a (ns.map V.int) → sp [.ref a] H (fun v _ => v = .bl true) fun _ _ _ => False) :
    codeAny (model P w) callerA (.call (.ref fa) ⟨[.ref a], []⟩) (Seen s₁) s₁ := by
  have rv := vals_ints hi
  have at_ := fun H => law_at (w := w) KX hns hb hbb hlim hg ha hr F bd H
  by_cases hk : K.lookup a = none
  · have sel : ∀ b : Addr, b ≠ a → (fun b => if b = a then some (HO.frz { cls := .type "list", data := .seq vs.toArray } (.lst (ns.map V.int))) else none) b = none := fun b n => if_neg n
    refine at_ (fun b => if b = a then some (.frz { cls := .type "list", data := .seq vs.toArray } (.lst (ns.map V.int))) else none) (fun b => ?_) (promise _ (fun b => ?_) (.inl (.inr ⟨_, if_pos rfl⟩))) (fun b u z => ?_) (fun b z => Classical.byContradiction fun n => z (sel b n)) fun _ => hk
    · rcases Classical.em (b = a) with q | q
      · exact .inr ⟨_, _, if_pos q⟩
      · exact .inl (sel b q)
    · rcases Classical.em (b = a) with q | q
      · exact .inr ⟨_, _, if_pos q⟩
      · exact .inl (sel b q)
    · rcases Classical.em (b = a) with q | q
      · subst q
        have z : some _ = some u := (if_pos rfl).symm.trans z
        cases z
        exact ⟨ha, by rw [List.length_map]; exact hl, vs, _, rv, ha⟩
      · rw [sel b q] at z
        cases z
  · obtain ⟨o, ho⟩ := Option.ne_none_iff_exists'.mp hk
    have e := KX a o ho
    rw [ha] at e
    cases e
    exact at_ (fun _ => none) (fun _ => .inl rfl) (promise _ (fun _ => .inl rfl) (.inr ⟨_, vs.toArray, _, ho, rfl, rfl, rfl, by rw [List.size_toArray, hi.length]; exact hl, by simpa using rv⟩)) (fun b u z => by cases z) (fun b z => (z rfl).elim) fun z => (z rfl).elim
end
theorem walk_G {l : PySem.W.OpenLaw} {n k : Nat} {q : Program} {loose : List Str} {XP : (Str → Option Value) → Heap → Prop} {YP : World → Heap → Prop} {d : DefRec} {x : Str}
    (hn : l.most = some n) (hn2 : n ≤ sizeLine) (hdf : d.params.defaults = []) (hr : Room k callerA)
    (F : ∀ (w : World) (mg : Str → Option Value) (fa : Addr) (h : Heap), YP w h → h.Ns mainGlobals mg → mg d.name = some (.ref fa) →
      ∃ (K : PySem.W.Frag) (fd : FuncData) (sp : Sp), K.In h ∧ (∀ (s : Shared) (u : Value), BindsTo s fd ⟨[u], []⟩ [(x, u)]) ∧
        (∀ (H : Hp) (a : Addr) (ns : List Int), ns.length ≤ n → Only H → SqL K H a (ns.map V.int) → sp [.ref a] H (fun v _ => v = .bl true) fun _ _ _ => False) ∧ ∀ base : Heap, FnG l.prog w K mg base k fa fd [x] sp) :
    PySem.W.WalkO q loose XP YP l.row.toRowW d [] (fun f vs => PySem.call f vs) := by
  refine Att.attach_call hn hdf ?_
  intro w s₀ s₁ mg mb fa o pm cd doc a vs ns G Y ho hd hcd hmg hobj hints hlen hg
  obtain ⟨K, fd, sp, KX, bd, promise, hF⟩ := F w mg fa _ Y G.T.g hmg
  exact law_callG KX G.T.g G.T.b G.T.builtins G.T.nolimit hg hobj hints (Nat.le_trans hlen hn2) hr hF bd fun H hO hS => promise H a ns hlen hO hS

/-! ### what the top has written -/
/-- a value of the module is this data -/
def datB (K : PySem.W.Frag) : Nat → Value → PyData → Bool
  | _, .none, .none => true
  | _, .bool b, .bool c => decide (b = c)
  | _, .int i _, .int j => decide (i = j)
  | _, .str x _, .str y => decide (x = y)
  | n + 1, .ref a, .tuple ds => (match K.lookup a with
    | some ⟨.type c, _, .seq its _, _⟩ => decide (c = "tuple") && decide (its.size ≤ sizeLine) && decide (its.toList.length = ds.length) && (its.toList.zip ds).all fun p => datB K n p.1 p.2
    | _ => false)
  | _, _, _ => false
theorem datB_ok {K : PySem.W.Frag} : ∀ (n : Nat) {u : Value} {d : PyData}, datB K n u d = true → ∃ v, RelV v u ∧ ∀ F H, RepD K F H v d := by
  intro n
  induction n with
  | zero =>
    intro u d h
    unfold datB at h
    split at h
    · exact ⟨.non, rfl, fun _ _ => .non⟩
    · cases of_decide_eq_true h; exact ⟨.bl _, rfl, fun _ _ => .bl _⟩
    · cases of_decide_eq_true h; exact ⟨.int _, ⟨_, rfl⟩, fun _ _ => .int _⟩
    · cases of_decide_eq_true h; exact ⟨.str _, ⟨_, rfl⟩, fun _ _ => .str _⟩
    · contradiction
    · cases h
  | succ n ih =>
    intro u d h
    unfold datB at h
    split at h
    · exact ⟨.non, rfl, fun _ _ => .non⟩
    · cases of_decide_eq_true h; exact ⟨.bl _, rfl, fun _ _ => .bl _⟩
    · cases of_decide_eq_true h; exact ⟨.int _, ⟨_, rfl⟩, fun _ _ => .int _⟩
    · cases of_decide_eq_true h; exact ⟨.str _, ⟨_, rfl⟩, fun _ _ => .str _⟩
    · rename_i n' a ds e
      cases e
      split at h
      · rename_i c od its m osl lk
        simp only [Bool.and_eq_true, decide_eq_true_eq] at h
        obtain ⟨⟨⟨h1, h2⟩, h3⟩, h4⟩ := h
        subst h1
        have key : ∀ (us : List Value) (ds : List PyData), us.length = ds.length → ((us.zip ds).all fun p => datB K n p.1 p.2) = true → ∃ vs, Vals vs us ∧ ∀ F H, RepDs K F H vs ds := by
          intro us
          induction us with
          | nil =>
            intro ds hl _
            cases ds with
            | nil => exact ⟨[], .nil, fun _ _ => .nil⟩
            | cons _ _ => cases hl
          | cons u us ihu =>
            intro ds hl ha
            cases ds with
            | nil => cases hl
            | cons d ds =>
              rw [List.zip_cons_cons, List.all_cons, Bool.and_eq_true] at ha
              obtain ⟨v, r1, r2⟩ := ih ha.1
              obtain ⟨vs, r3, r4⟩ := ihu ds (Nat.succ.inj hl) ha.2
              exact ⟨v :: vs, .cons r1 r3, fun F H => .cons (r2 F H) (r4 F H)⟩
        obtain ⟨vs, r1, r2⟩ := key _ _ h3 h4
        exact ⟨.ref a, rfl, fun F H => .tup (.inr ⟨_, its, m, lk, rfl, rfl, h2, r1⟩) (r2 F H)⟩
      · cases h
    · cases h
def conB (cs : List (Str × PyData)) (K : PySem.W.Frag) : Bool := cs.all fun p => match PySem.W.nsIn K mainGlobals p.1 with
  | some (some u) => datB K 4 u p.2
  | _ => false
/-- what the classes' table asks -/
def xsB (file : Str) (xs : List XI) (K : PySem.W.Frag) : Bool := (xs.all fun x => xclB K file (fldsOf xs) x) && xprB K xs
abbrev AlC : Type := He.AlD × Bool
def obsC (fa : List He.Fa) (fn : List He.DefD) (cs : List (Str × PyData)) (file : Str) (xs : List XI) (K : PySem.W.Frag) : AlC := (He.obsD fa fn K, conB cs K && xsB file xs K)
def obsCG (n : Nat) (fa : List He.Fa) (fn : List He.DefD) (cs : List (Str × PyData)) (file : Str) (xs : List XI) (g : Addr → Option Obj) : AlC := obsC fa fn cs file xs (He.frG g (cStatics :: He.asD g n))
def hookC (n : Nat) (fa : List He.Fa) (fn : List He.DefD) (cs : List (Str × PyData)) (file : Str) (xs : List XI) : PySem.W.Hook where
  α := AlC
  obs := fun s => obsCG n fa fn cs file xs s.heap.get?
  val := fun _ => (He.valD fn, true)
  says := fun _ h => ∃ K : PySem.W.Frag, K.In h ∧ He.SaysD fa fn K ∧ (conB cs K && xsB file xs K) = true
  of := fun _ _ e => ⟨_, He.frG_in, congrArg (fun q : AlC => q.1) e, congrArg (fun q : AlC => q.2) e⟩
  keeps := fun _ _ _ ⟨K, hK, c⟩ k => ⟨K, PySem.W.Frag.In.keeps hK k, c⟩
theorem obsCG_eq {n : Nat} {fa : List He.Fa} {fn : List He.DefD} {cs : List (Str × PyData)} {file : Str} {xs : List XI} {g : Addr → Option Obj} {s : Shared} (h : ∀ a, g a = s.heap.get? a) : obsCG n fa fn cs file xs g = (hookC n fa fn cs file xs).obs s := by
  have e : g = s.heap.get? := funext h
  subst e
  rfl
def Ent.dd (e : Ent) : He.DefD := ⟨(e.nm, none), e.nm, e.nm, e.params, e.bd, e.sc, [], []⟩
def faOf (T : List Ent) (fs : List Str) : List He.Fa := (T.map fun e => He.Fa.glo e.nm) ++ fs.map He.Fa.free
/-- binding of plain parameters -/
def BindOk (e : Ent) : Prop := ∀ (kV doc pm : Value) (an : Option Addr) (cdv ct : Value) (us : List Value), us.length = e.ps.length → bindArgs (PySem.W.fnOf e.nm e.nm e.params e.bd e.sc .none kV doc pm an cdv ct) ⟨us, []⟩ = pure (e.ps.zip us)
theorem gr_of {P : Pg} {Pr : Program} {file : Str} {xs : List XI} {K : PySem.W.Frag} {h : Heap} {mg : Str → Option Value} {T : List Ent} {fs : List Str} (X : K.In h) (G : h.Ns mainGlobals mg) (c : He.SaysD (faOf T fs) (T.map Ent.dd) K) (cc0 : (conB P.con K && xsB file xs K) = true) (hfile : (Pr.main.file : Str) = file) (htop : (Pr.main.scope.names.lookup ("super" : Str)).isSome = false)
    (hb : ∀ e, e ∈ T → BindOk e) (hok : ∀ e, e ∈ T → e.ok P T (P.con.map (·.1)) fs xs = true) : Gr P Pr K mg T (P.con.map (·.1)) fs xs where
  xc := fun x hx => by
    have q := (Bool.and_eq_true_iff.mp (Bool.and_eq_true_iff.mp cc0).2).1
    obtain ⟨h1, h2⟩ := xcl_ok hfile htop (List.all_eq_true.mp q x hx)
    exact ⟨PySem.W.mg_of X G h1, h1, h2⟩
  xp := (Bool.and_eq_true_iff.mp (Bool.and_eq_true_iff.mp cc0).2).2
  row := fun e he => by
    have m : He.Fa.glo e.nm ∈ faOf T fs := List.mem_append_left _ (List.mem_map.mpr ⟨e, he, rfl⟩)
    obtain ⟨i, hi⟩ := List.mem_iff_getElem?.mp m
    obtain ⟨j, hj⟩ := List.mem_iff_getElem?.mp he
    obtain ⟨fd, F⟩ := c.def_ j (d := e.dd) (by rw [List.getElem?_map, hj]; rfl)
    exact ⟨_, fd, F, He.glo_ok X G (c.fact i hi), FunD.bindsN F (hb e he)⟩
  con := fun x hx => by
    obtain ⟨⟨x', d'⟩, hp, rfl⟩ := List.mem_map.mp hx
    have find : ∀ l : List (Str × PyData), (x', d') ∈ l → ∃ d, l.lookup x' = some d ∧ (x', d) ∈ l := by
      intro l
      induction l with
      | nil => intro h; cases h
      | cons q l ih =>
        intro h
        obtain ⟨y, dy⟩ := q
        by_cases e : x' = y
        · subst e
          exact ⟨dy, by rw [List.lookup_cons]; simp, List.mem_cons_self ..⟩
        · rcases List.mem_cons.mp h with h | h
          · cases h; exact absurd rfl e
          · obtain ⟨d, h1, h2⟩ := ih h
            refine ⟨d, ?_, List.mem_cons_of_mem _ h2⟩
            rw [List.lookup_cons, show (x' == y) = false by simpa using e]
            exact h1
    obtain ⟨d, h1, h2⟩ := find _ hp
    have q := List.all_eq_true.mp (Bool.and_eq_true_iff.mp cc0).1 _ h2
    split at q
    · rename_i u hu
      obtain ⟨v, r1, r2⟩ := datB_ok 4 q
      exact ⟨d, u, v, h1, PySem.W.mg_of X G hu, r1, r2⟩
    · cases q
  free := fun x hx => by
    have m : He.Fa.free x ∈ faOf T fs := List.mem_append_right _ (List.mem_map.mpr ⟨x, hx, rfl⟩)
    obtain ⟨i, hi⟩ := List.mem_iff_getElem?.mp m
    exact He.free_ok X G (c.fact i hi)
  ok := hok
end L2.Cap

set_option maxRecDepth 100000
set_option maxHeartbeats 1000000
namespace L2.Cap
open PySem
/-! ### to run a meaning by rewriting -/
abbrev Rs (A : Type) := Option (Out A × AH)
def thenM {A B : Type} (r : Rs A) (f : A → AH → Rs B) : Rs B := match r with
  | some (.ok a, h) => f a h
  | some (.exc c fs, h) => some (.exc c fs, h)
  | none => none
def thenS {A : Type} (r : Rs A) (env : EnvD) (f : A → AH → Option (OutS × AH)) : Option (OutS × AH) := match r with
  | some (.ok a, h) => f a h
  | some (.exc c fs, h) => some (.exc c fs env, h)
  | none => none
def nextS (r : Option (OutS × AH)) (f : EnvD → AH → Option (OutS × AH)) : Option (OutS × AH) := match r with
  | some (.next e, h) => f e h
  | r => r
/-- behind a loop's body -/
def turnS (r : Option (OutS × AH)) (f : EnvD → AH → Option (OutS × AH)) : Option (OutS × AH) := match r with
  | some (.next e, h) => f e h
  | some (.cont e, h) => f e h
  | some (.brk e, h) => some (.next e, h)
  | r => r
def finR : Option (OutS × AH) → Rs RV
  | some (.next _, h') => some (.ok (.val .none), h')
  | some (.ret v, h') => some (.ok v, h')
  | some (.exc c fs _, h') => some (.exc c fs, h')
  | _ => none
section
variable {A B : Type} {G : Gd} {env : EnvD} {h : AH} {a b c e : Ex} {l : Xs}
theorem thenM_ok {x : A} {f : A → AH → Rs B} : thenM (some (.ok x, h)) f = f x h := rfl
theorem thenS_ok {x : A} {f : A → AH → Option (OutS × AH)} : thenS (some (.ok x, h)) env f = f x h := rfl
theorem nextS_next {f : EnvD → AH → Option (OutS × AH)} : nextS (some (.next env, h)) f = f env h := rfl
theorem nextS_ret {v : RV} {f : EnvD → AH → Option (OutS × AH)} : nextS (some (.ret v, h)) f = some (.ret v, h) := rfl
theorem nextS_brk {f : EnvD → AH → Option (OutS × AH)} : nextS (some (.brk env, h)) f = some (.brk env, h) := rfl
theorem nextS_cont {f : EnvD → AH → Option (OutS × AH)} : nextS (some (.cont env, h)) f = some (.cont env, h) := rfl
theorem turnS_next {f : EnvD → AH → Option (OutS × AH)} : turnS (some (.next env, h)) f = f env h := rfl
theorem turnS_cont {f : EnvD → AH → Option (OutS × AH)} : turnS (some (.cont env, h)) f = f env h := rfl
theorem turnS_brk {f : EnvD → AH → Option (OutS × AH)} : turnS (some (.brk env, h)) f = some (.next env, h) := rfl
theorem turnS_ret {v : RV} {f : EnvD → AH → Option (OutS × AH)} : turnS (some (.ret v, h)) f = some (.ret v, h) := rfl
theorem finR_next : finR (some (.next env, h)) = some (.ok (.val .none), h) := rfl
theorem finR_ret {v : RV} : finR (some (.ret v, h)) = some (.ok v, h) := rfl
theorem bindM_then {m : M A} {f : A → M B} : bindM m f h = thenM (m h) f := by
  unfold bindM thenM
  cases m h with
  | none => rfl
  | some p => obtain ⟨o, h'⟩ := p; cases o <;> rfl
theorem andThen_then {m : M A} {f : A → AH → Option (OutS × AH)} : andThen m env f h = thenS (m h) env f := by
  unfold andThen thenS
  cases m h with
  | none => rfl
  | some p => obtain ⟨o, h'⟩ := p; cases o <;> rfl
def sureR (r : Rs A) : Rs A := match r with
  | some (.ok a, h') => some (.ok a, h')
  | _ => none
theorem sureR_ok {x : A} : sureR (some (.ok x, h)) = some (.ok x, h) := rfl
theorem sureM_eq {m : M A} : sureM m h = sureR (m h) := rfl
/-! values -/
def slotR : EnvD → Nat → AH → Rs RV
  | some v :: _, 0, h => some (.ok v, h)
  | _ :: e, n + 1, h => slotR e n h
  | _, _, _ => none
theorem slotR_eq : ∀ (env : EnvD) (i : Nat), slotM env i h = slotR env i h
  | [], i => rfl
  | none :: _, 0 => rfl
  | some v :: _, 0 => rfl
  | none :: e, n + 1 => by
    show slotM (none :: e) (n + 1) h = slotR e n h
    rw [← slotR_eq e n]
    rfl
  | some v :: e, n + 1 => by
    show slotM (some v :: e) (n + 1) h = slotR e n h
    rw [← slotR_eq e n]
    rfl
theorem slot0 {v : RV} {r : EnvD} : slotR (some v :: r) 0 h = some (.ok v, h) := rfl
theorem slot1 {v0 : Option RV} {v : RV} {r : EnvD} : slotR (v0 :: some v :: r) 1 h = some (.ok v, h) := by cases v0 <;> rfl
theorem slotS {v0 : Option RV} {r : EnvD} {n : Nat} : slotR (v0 :: r) (n + 1) h = slotR r n h := by cases v0 <;> rfl
def conR : Option PyData → AH → Rs RV
  | some d, h => some (.ok (.val d), h)
  | none, _ => none
theorem conR_some {d : PyData} : conR (some d) h = some (.ok (.val d), h) := rfl
def optR {A : Type} : Option A → AH → Rs A
  | some d, h => some (.ok d, h)
  | none, _ => none
theorem optR_some {x : A} : optR (some x) h = some (.ok x, h) := rfl
theorem readM_eq {f : AH → Option A} : readM f h = optR (f h) h := by
  unfold readM optR
  cases f h <;> rfl
def valO : Option PyData → Option RV := fun o => o.map RV.val
theorem valO_some {d : PyData} : valO (some d) = some (.val d) := rfl
theorem two_vv {f : PyData → PyData → Option PyData} {x y : PyData} : two f (.val x) (.val y) h = optR (valO (f x y)) h := by
  unfold two valO
  rw [readM_eq]
  show optR ((f x y).bind fun d => some (RV.val d)) h = _
  cases f x y <;> rfl
theorem two_gen {f : PyData → PyData → Option PyData} {x y : RV} {dx dy : PyData} (e1 : view x h = some dx) (e2 : view y h = some dy) : two f x y h = optR (valO (f dx dy)) h := by
  unfold two valO
  rw [readM_eq, e1, e2]
  show optR ((f dx dy).bind fun d => some (RV.val d)) h = _
  cases f dx dy <;> rfl
theorem tru_b {k : Bool} : truM (.val (.bool k)) h = some (.ok k, h) := rfl
theorem tru_n : truM (.val .none) h = some (.ok false, h) := rfl
theorem tru_v {d : PyData} : truM (.val d) h = optR (truD d) h := by
  unfold truM
  rw [readM_eq]
  rfl
/-! expressions -/
theorem ev_var {i : Nat} : den G (.var i) env h = slotR env i h := by rw [den, slotR_eq]
theorem ev_cint {i : Int} : den G (.cint i) env h = some (.ok (.val (.int i)), h) := by rw [den]; rfl
theorem ev_cstr {i : Str} : den G (.cstr i) env h = some (.ok (.val (.str i)), h) := by rw [den]; rfl
theorem ev_cbl {i : Bool} : den G (.cbl i) env h = some (.ok (.val (.bool i)), h) := by rw [den]; rfl
theorem ev_cnon : den G .cnon env h = some (.ok (.val .none), h) := by rw [den]; rfl
theorem ev_glo {x : Str} : den G (.glo x) env h = conR (G.con x) h := by
  rw [den]
  unfold conM conR
  cases G.con x <;> rfl
def kE2 {C : Type} (G : Gd) (b : Ex) (env : EnvD) (F : RV → RV → AH → Rs C) (x : RV) (h : AH) : Rs C := thenM (den G b env h) (F x)
def fBin (o : Op2) (x y : RV) (h : AH) : Rs RV := two (opF o) x y h
def fCmp (o : Cm) (x y : RV) (h : AH) : Rs RV := two (cmF o) x y h
theorem ev_bin {o : Op2} : den G (.bin o a b) env h = thenM (den G a env h) (kE2 G b env (fBin o)) := by
  rw [den, bindM_then]
  congr 1; funext x h1
  rw [bindM_then]
  rfl
def negK (i : Int) (h : AH) : Rs RV := some (.ok (.val (.int (-i))), h)
def fNeg (x : RV) (h : AH) : Rs RV := thenM (intOf x h) negK
theorem ev_neg : den G (.neg a) env h = thenM (den G a env h) fNeg := by
  rw [den, bindM_then]
  congr 1; funext x h1
  rw [bindM_then]
  rfl
theorem intOf_i {i : Int} : intOf (.val (.int i)) h = some (.ok i, h) := rfl
theorem boolOf_b {i : Bool} : boolOf (.val (.bool i)) h = some (.ok i, h) := rfl
theorem strOf_s {i : Str} : strOf (.val (.str i)) h = some (.ok i, h) := rfl
theorem dataOf_d {i : PyData} : dataOf (.val i) h = some (.ok i, h) := rfl
theorem ev_cmp {o : Cm} : den G (.cmp o a b) env h = thenM (den G a env h) (kE2 G b env (fCmp o)) := by
  rw [den, bindM_then]
  congr 1; funext x h1
  rw [bindM_then]
  rfl
def kC4 (G : Gd) (p : Cm) (c : Ex) (env : EnvD) (y : RV) (k : Bool) (h : AH) : Rs RV := if k = true then thenM (den G c env h) (fCmp p y) else some (.ok (.val (.bool false)), h)
def kC3 (G : Gd) (p : Cm) (c : Ex) (env : EnvD) (y k : RV) (h : AH) : Rs RV := thenM (boolOf k h) (kC4 G p c env y)
def kC2 (G : Gd) (o p : Cm) (c : Ex) (env : EnvD) (x y : RV) (h : AH) : Rs RV := thenM (two (cmF o) x y h) (kC3 G p c env y)
def kC1 (G : Gd) (o p : Cm) (b c : Ex) (env : EnvD) (x : RV) (h : AH) : Rs RV := thenM (den G b env h) (kC2 G o p c env x)
theorem ev_chn {o p : Cm} : den G (.chn o p a b c) env h = thenM (den G a env h) (kC1 G o p b c env) := by
  rw [den, bindM_then]
  congr 1; funext x h1
  unfold kC1
  rw [bindM_then]
  congr 1; funext y h2
  unfold kC2
  rw [bindM_then]
  congr 1; funext k h3
  unfold kC3
  rw [bindM_then]
  congr 1; funext k h4
  unfold kC4
  cases k
  · rfl
  · show bindM _ _ h4 = _
    rw [bindM_then]
    rfl
theorem ev_bop {k : Bool} : den G (.bop k l) env h = denB G k l env h := by rw [den]
theorem ev_b1 {k : Bool} : denB G k (.cons e .nil) env h = den G e env h := by rw [denB]
def kO2 (G : Gd) (k : Bool) (e2 : Ex) (l : Xs) (env : EnvD) (x : RV) (t : Bool) (h : AH) : Rs RV := if t = k then denB G k (.cons e2 l) env h else some (.ok x, h)
def kO1 (G : Gd) (k : Bool) (e2 : Ex) (l : Xs) (env : EnvD) (x : RV) (h : AH) : Rs RV := thenM (truM x h) (kO2 G k e2 l env x)
theorem ev_b2 {k : Bool} {e2 : Ex} : denB G k (.cons e (.cons e2 l)) env h = thenM (den G e env h) (kO1 G k e2 l env) := by
  rw [denB, bindM_then]
  · congr 1; funext x h1
    unfold kO1
    rw [bindM_then]
    congr 1; funext t h2
    unfold kO2
    split <;> rfl
  · intro q; cases q
def kN2 (t : Bool) (h : AH) : Rs RV := some (.ok (.val (.bool (!t))), h)
def kN1 (x : RV) (h : AH) : Rs RV := thenM (truM x h) kN2
theorem ev_nt : den G (.nt a) env h = thenM (den G a env h) kN1 := by
  rw [den, bindM_then]
  congr 1; funext x h1
  rw [bindM_then]
  rfl
def kI2 (G : Gd) (a b : Ex) (env : EnvD) (t : Bool) (h : AH) : Rs RV := if t = true then den G a env h else den G b env h
def kI1 (G : Gd) (a b : Ex) (env : EnvD) (x : RV) (h : AH) : Rs RV := thenM (truM x h) (kI2 G a b env)
theorem ev_ife : den G (.ife c a b) env h = thenM (den G c env h) (kI1 G a b env) := by
  rw [den, bindM_then]
  congr 1; funext x h1
  unfold kI1
  rw [bindM_then]
  congr 1; funext t h2
  unfold kI2
  cases t <;> rfl
def tupR (xs : List RV) (h : AH) : Rs RV := match vals xs with
  | some ds => if ds.length ≤ sizeLine then some (.ok (.val (.tuple ds)), h) else none
  | none => none
def lstR (xs : List RV) (h : AH) : Rs RV := match vals xs with
  | some ds => if ds.length ≤ sizeLine then some (.ok (.val (.list ds)), h) else none
  | none => none
theorem ev_tup : den G (.tup l) env h = thenM (denA G l env h) tupR := by
  rw [den, bindM_then]
  congr 1; funext xs h1
  rw [bindM_then]
  unfold allVal tupR
  rw [readM_eq]
  cases vals xs with
  | none => rfl
  | some ds =>
    show (if ds.length ≤ sizeLine then _ else _ : M RV) h1 = _
    dsimp only
    split <;> rfl
theorem ev_lst : den G (.lst l) env h = thenM (denA G l env h) lstR := by
  rw [den, bindM_then]
  congr 1; funext xs h1
  rw [bindM_then]
  unfold allVal lstR
  rw [readM_eq]
  cases vals xs with
  | none => rfl
  | some ds =>
    show (if ds.length ≤ sizeLine then _ else _ : M RV) h1 = _
    dsimp only
    split <;> rfl
def lstHR (xs : List RV) (h : AH) : Rs RV := if xs.length ≤ sizeLine then some (.ok (.ref h.length), h ++ [.lst xs]) else none
theorem ev_lstH : den G (.lstH l) env h = thenM (denA G l env h) lstHR := by
  rw [den, bindM_then]
  congr 1; funext xs h1
  unfold lstHR
  split <;> rfl
def fIx (x y : RV) (h : AH) : Rs RV := optR (ixV x y h) h
theorem ev_ix : den G (.ix a b) env h = thenM (den G a env h) (kE2 G b env fIx) := by
  rw [den, bindM_then]
  congr 1; funext x h1
  rw [bindM_then]
  unfold kE2
  congr 1; funext y h2
  rw [readM_eq]
  rfl
theorem ix_vv {x y : PyData} : ixV (.val x) (.val y) h = valO (ixD x y) := rfl
def slR (x : RV) (l u : Option Int) (h : AH) : Rs RV := match view x h with
  | some d => optR (valO (slD d l u)) h
  | none => none
theorem slR_v {d : PyData} {l u : Option Int} : slR (.val d) l u h = optR (valO (slD d l u)) h := rfl
def kS2 (G : Gd) (F : RV → Option Int → Option Int → AH → Rs RV) (hi : Oe) (env : EnvD) (x : RV) (l : Option Int) (h : AH) : Rs RV := thenM (denO G hi env h) (F x l)
def kS1 (G : Gd) (F : RV → Option Int → Option Int → AH → Rs RV) (lo hi : Oe) (env : EnvD) (x : RV) (h : AH) : Rs RV := thenM (denO G lo env h) (kS2 G F hi env x)
theorem ev_slc {lo hi : Oe} : den G (.slc a lo hi) env h = thenM (den G a env h) (kS1 G slR lo hi env) := by
  rw [den, bindM_then]
  congr 1; funext x h1
  unfold kS1
  rw [bindM_then]
  congr 1; funext l h2
  unfold kS2
  rw [bindM_then]
  congr 1; funext u h3
  rw [readM_eq]
  unfold slR
  cases view x h3 with
  | none => rfl
  | some d =>
    show optR ((slD d l u).bind fun r => some (RV.val r)) h3 = _
    dsimp only [valO]
    cases slD d l u <;> rfl
def slHR (x : RV) (l u : Option Int) (h : AH) : Rs RV := match view x h with
  | some (.list ds) => some (.ok (.ref h.length), h ++ [.lst ((cutD ds l u).map .val)])
  | _ => none
theorem ev_slcH {lo hi : Oe} : den G (.slcH a lo hi) env h = thenM (den G a env h) (kS1 G slHR lo hi env) := by
  rw [den, bindM_then]
  congr 1; funext x h1
  unfold kS1
  rw [bindM_then]
  congr 1; funext l h2
  unfold kS2
  rw [bindM_then]
  rfl
def fCall (G : Gd) (f : Str) (xs : List RV) (h : AH) : Rs RV := G.fn f xs h
theorem ev_call {f : Str} : den G (.call f l) env h = thenM (denA G l env h) (fCall G f) := by
  rw [den, bindM_then]
  rfl
def pureR (r : Rs RV) (h : AH) : Rs RV := match r with
  | some (.ok v, g) => match frzV 3 g v with
    | some d => some (.ok (.val d), h)
    | none => none
  | some (.exc c fs, _) => some (.exc c fs, h)
  | none => none
theorem pureR_v {d : PyData} {g : AH} : pureR (some (.ok (.val d), g)) h = some (.ok (.val d), h) := rfl
def callR (f : List RV → M RV) (xs : List RV) (h : AH) : Rs RV := match vals xs with
  | some ds => pureR (f (ds.map .val) []) h
  | none => none
theorem callR_eq {f : List RV → M RV} {xs : List RV} : callPure f xs h = callR f xs h := by
  unfold callPure callR
  cases vals xs with
  | none => rfl
  | some ds =>
    dsimp only
    unfold pureR
    cases f (ds.map .val) [] with
    | none => rfl
    | some p => obtain ⟨o, g⟩ := p; cases o <;> rfl
theorem ev_callP {f : Str} : den G (.callP f l) env h = thenM (denA G l env h) (callR (G.fn f)) := by
  rw [den, bindM_then]
  congr 1; funext xs h1
  exact callR_eq
def bltR (f : Bf) (xs : List RV) (h : AH) : Rs RV := match viewsR h xs with
  | some ds => optR (valO (bfF f ds)) h
  | none => none
theorem ev_blt {f : Bf} : den G (.blt f l) env h = thenM (denA G l env h) (bltR f) := by
  rw [den, bindM_then]
  congr 1; funext xs h1
  rw [readM_eq]
  unfold bltR
  cases viewsR h1 xs with
  | none => rfl
  | some ds =>
    show optR ((bfF f ds).bind fun d => some (RV.val d)) h1 = _
    dsimp only [valO]
    cases bfF f ds <;> rfl
theorem blt_1 {f : Bf} {d : PyData} : bltR f [.val d] h = optR (valO (bfF f [d])) h := rfl
theorem blt_2 {f : Bf} {d e : PyData} : bltR f [.val d, .val e] h = optR (valO (bfF f [d, e])) h := rfl
def isiR (t : Ty) : Option PyData → AH → Rs RV
  | some d, h => some (.ok (.val (.bool (isiD t d))), h)
  | none, _ => none
def fIsi (t : Ty) (x : RV) (h : AH) : Rs RV := isiR t (viewR x h) h
theorem isiR_some {t : Ty} {d : PyData} : isiR t (some d) h = some (.ok (.val (.bool (isiD t d))), h) := rfl
theorem ev_isi {t : Ty} : den G (.isi a t) env h = thenM (den G a env h) (fIsi t) := by
  rw [den, bindM_then]
  congr 1; funext x h1
  rw [readM_eq]
  unfold fIsi
  cases viewR x h1 <;> rfl
theorem viewR_v {d : PyData} : viewR (.val d) h = some d := rfl
theorem view_v {d : PyData} : view (.val d) h = some d := rfl
def lcR (G : Gd) (tg : Tg) (cs : Xs) (elt : Ex) (env : EnvD) (ds : List PyData) (acc : List RV) (h : AH) : Rs (List RV) := lcM (fun d e => denG G tg (.val d) e) (fun e => denC G cs e) (fun e => den G elt e) env ds acc h
def lcF (heap : Bool) (xs : List RV) (h : AH) : Rs RV := if heap = true then some (.ok (.ref h.length), h ++ [.lst xs]) else match vals xs with
  | some ds => some (.ok (.val (.list ds)), h)
  | none => none
def kL (G : Gd) (heap : Bool) (tg : Tg) (cs : Xs) (e : Ex) (env : EnvD) (ds : List PyData) (h : AH) : Rs RV := thenM (sureR (lcR G tg cs e env ds [] h)) (lcF heap)
theorem ev_lc {heap : Bool} {tg : Tg} {it : It'} {cs : Xs} {own : List (Str × Nat)} : den G (.lc heap e tg it cs own) env h = thenM (denI G it env h) (kL G heap tg cs e (wipeD env (own.map (·.2)))) := by
  rw [den, bindM_then]
  congr 1; funext ds h1
  unfold kL
  rw [bindM_then, sureM_eq]
  congr 1; funext xs h2
  unfold lcF
  cases heap with
  | true => rfl
  | false =>
    rw [if_neg Bool.false_ne_true]
    show bindM (allVal xs) (fun ds => retM (RV.val (PyData.list ds))) h2 = _
    rw [bindM_then]
    unfold allVal
    rw [readM_eq]
    cases vals xs <;> rfl
theorem lcR_nil {tg : Tg} {cs : Xs} {acc : List RV} : lcR G tg cs e env [] acc h = some (.ok acc, h) := rfl
def kLc3 (G : Gd) (tg : Tg) (cs : Xs) (e : Ex) (env : EnvD) (ds : List PyData) (acc : List RV) (v : RV) (h : AH) : Rs (List RV) := if acc.length < sizeLine then lcR G tg cs e env ds (acc ++ [v]) h else none
def kLc2 (G : Gd) (tg : Tg) (cs : Xs) (e : Ex) (env env2 : EnvD) (ds : List PyData) (acc : List RV) (k : Bool) (h : AH) : Rs (List RV) := if k = true then thenM (den G e env2 h) (kLc3 G tg cs e env ds acc) else lcR G tg cs e env ds acc h
def kLc1 (G : Gd) (tg : Tg) (cs : Xs) (e : Ex) (env : EnvD) (ds : List PyData) (acc : List RV) (env2 : EnvD) (h : AH) : Rs (List RV) := thenM (denC G cs env2 h) (kLc2 G tg cs e env env2 ds acc)
theorem lcR_cons {tg : Tg} {cs : Xs} {acc : List RV} {d : PyData} {ds : List PyData} : lcR G tg cs e env (d :: ds) acc h = thenM (denG G tg (.val d) env h) (kLc1 G tg cs e env ds acc) := by
  show lcM _ _ _ env (d :: ds) acc h = _
  rw [lcM, bindM_then]
  congr 1; funext env2 h1
  unfold kLc1
  rw [bindM_then]
  congr 1; funext k h2
  unfold kLc2
  cases k with
  | false => rfl
  | true =>
    show bindM _ _ h2 = _
    rw [bindM_then, if_pos rfl]
    congr 1; funext v h3
    unfold kLc3
    split <;> rfl
def kA2 (G : Gd) (e : Ex) (env : EnvD) (x : RV) (u : Unit) (h : AH) : Rs RV := thenM (den G e env h) (appV x)
def kA1 (G : Gd) (e : Ex) (env : EnvD) (x : RV) (h : AH) : Rs RV := thenM (lstM x h) (kA2 G e env x)
theorem ev_app {o : Ex} : den G (.app o e) env h = thenM (den G o env h) (kA1 G e env) := by
  rw [den, bindM_then]
  congr 1; funext x h1
  unfold kA1
  rw [bindM_then]
  congr 1; funext u h2
  unfold kA2
  rw [bindM_then]
def fDsp (ks : List Str) (xs : List RV) (h : AH) : Rs RV := if xs.length = ks.length ∧ ks.length ≤ 15 then some (.ok (.ref h.length), h ++ [.dct ((ks.map Sum.inr).zip xs)]) else none
theorem ev_dsp {ks : List Str} : den G (.dsp ks l) env h = thenM (denA G l env h) (fDsp ks) := by
  rw [den, bindM_then]
  congr 1; funext xs h1
  unfold fDsp
  split <;> rfl
def fM (m : Mf) (a : Str) (y : RV) (h : AH) : Rs RV := match viewR y h with
  | some d => optR (valO (mf1 m a d)) h
  | none => none
def kM2 (G : Gd) (m : Mf) (e : Ex) (env : EnvD) (a : Str) (h : AH) : Rs RV := thenM (den G e env h) (fM m a)
def kM1 (G : Gd) (m : Mf) (e : Ex) (env : EnvD) (x : RV) (h : AH) : Rs RV := thenM (strOf x h) (kM2 G m e env)
theorem ev_mth1 {m : Mf} {o : Ex} : den G (.mth1 m o e) env h = thenM (den G o env h) (kM1 G m e env) := by
  rw [den, bindM_then]
  congr 1; funext x h1
  unfold kM1
  rw [bindM_then]
  congr 1; funext a h2
  unfold kM2
  rw [bindM_then]
  congr 1; funext y h3
  rw [readM_eq]
  unfold fM
  cases viewR y h3 with
  | none => rfl
  | some d =>
    show optR ((mf1 m a d).bind fun r => some (RV.val r)) h3 = optR (valO (mf1 m a d)) h3
    cases mf1 m a d <;> rfl
def kF2 (d : PyData) (h : AH) : Rs RV := some (.ok (.val d), h)
def kF1 (x : RV) (h : AH) : Rs RV := thenM (frzM 3 x h) kF2
theorem ev_frz : den G (.frz e) env h = thenM (den G e env h) kF1 := by
  rw [den, bindM_then]
  congr 1; funext x h1
  rw [bindM_then]
  rfl
theorem frz_v {n : Nat} {d : PyData} : frzM n (.val d) h = some (.ok d, h) := by cases n <;> rfl
theorem ev_a0 : denA G .nil env h = some (.ok [], h) := by rw [denA]; rfl
def kAc (x : RV) (xs : List RV) (h : AH) : Rs (List RV) := some (.ok (x :: xs), h)
def kAn (G : Gd) (l : Xs) (env : EnvD) (x : RV) (h : AH) : Rs (List RV) := thenM (denA G l env h) (kAc x)
theorem ev_a1 : denA G (.cons e l) env h = thenM (den G e env h) (kAn G l env) := by
  rw [denA, bindM_then]
  congr 1; funext x h1
  rw [bindM_then]
  rfl
theorem ev_c0 : denC G .nil env h = some (.ok true, h) := by rw [denC]; rfl
theorem ev_c1 : denC G (.cons e .nil) env h = thenM (den G e env h) truM := by rw [denC, bindM_then]
theorem ev_o0 : denO G .no env h = some (.ok none, h) := by rw [denO]; rfl
def kOi2 (i : Int) (h : AH) : Rs (Option Int) := some (.ok (some i), h)
def kOi (x : RV) (h : AH) : Rs (Option Int) := thenM (intOf x h) kOi2
theorem ev_o1 : denO G (.so e) env h = thenM (den G e env h) kOi := by
  rw [denO, bindM_then]
  congr 1; funext x h1
  rw [bindM_then]
  rfl
def fItems (x : RV) (h : AH) : Rs (List PyData) := optR (itemsV x h) h
theorem ev_iex : denI G (.ex e) env h = thenM (den G e env h) fItems := by
  rw [denI, bindM_then]
  congr 1; funext x h1
  rw [readM_eq]
  rfl
def kR2 (j : Int) (h : AH) : Rs (List PyData) := if -(2 ^ 62) ≤ j ∧ j < 2 ^ 62 then some (.ok (rngL 0 j.toNat), h) else none
def kR1 (x : RV) (h : AH) : Rs (List PyData) := thenM (intOf x h) kR2
theorem ev_rng1 : denI G (.rng1 a) env h = thenM (den G a env h) kR1 := by
  rw [denI, bindM_then]
  congr 1; funext x h1
  unfold kR1
  rw [bindM_then]
  congr 1; funext j h2
  unfold kR2
  split <;> rfl
def kR5 (i j : Int) (h : AH) : Rs (List PyData) := if -(2 ^ 62) ≤ i ∧ i < 2 ^ 62 ∧ -(2 ^ 62) ≤ j ∧ j < 2 ^ 62 then some (.ok (rngL i (j - i).toNat), h) else none
def kR4 (y : RV) (i : Int) (h : AH) : Rs (List PyData) := thenM (intOf y h) (kR5 i)
def kR3 (x y : RV) (h : AH) : Rs (List PyData) := thenM (intOf x h) (kR4 y)
theorem ev_rng2 : denI G (.rng2 a b) env h = thenM (den G a env h) (kE2 G b env kR3) := by
  rw [denI, bindM_then]
  congr 1; funext x h1
  unfold kE2
  rw [bindM_then]
  congr 1; funext y h2
  unfold kR3
  rw [bindM_then]
  congr 1; funext i h3
  unfold kR4
  rw [bindM_then]
  congr 1; funext j h4
  unfold kR5
  split <;> rfl
def kEn2 (d : PyData) (h : AH) : Rs (List PyData) := optR ((seqD d).map (pairI 0)) h
def kEn1 (x : RV) (h : AH) : Rs (List PyData) := thenM (dataOf x h) kEn2
theorem ev_enu : denI G (.enu e) env h = thenM (den G e env h) kEn1 := by
  rw [denI, bindM_then]
  congr 1; funext x h1
  unfold kEn1
  rw [bindM_then]
  congr 1; funext d h2
  rw [readM_eq]
  rfl
def zipO : PyData → PyData → Option (List PyData)
  | .list ds, .list es => some ((ds.zip es).map fun p => .tuple [p.1, p.2])
  | .tuple ds, .tuple es => some ((ds.zip es).map fun p => .tuple [p.1, p.2])
  | _, _ => none
def kZ3 (d e : PyData) (h : AH) : Rs (List PyData) := optR (zipO d e) h
def kZ2 (y : RV) (d : PyData) (h : AH) : Rs (List PyData) := thenM (dataOf y h) (kZ3 d)
def kZ1 (x y : RV) (h : AH) : Rs (List PyData) := thenM (dataOf x h) (kZ2 y)
theorem ev_zip : denI G (.zip a b) env h = thenM (den G a env h) (kE2 G b env kZ1) := by
  rw [denI, bindM_then]
  congr 1; funext x h1
  unfold kE2
  rw [bindM_then]
  congr 1; funext y h2
  unfold kZ1
  rw [bindM_then]
  congr 1; funext d h3
  unfold kZ2
  rw [bindM_then]
  congr 1; funext e h4
  rw [readM_eq]
  rfl
theorem ev_gnm {i : Nat} {v : RV} : denG G (.nm i) v env h = some (.ok (env.set i (some v)), h) := by rw [denG]; rfl
theorem ev_gtup {l : Ts} {ds : List PyData} : denG G (.tup l) (.val (.tuple ds)) env h = denGs G l ds env h := by rw [denG]
def kG3 (env : EnvD) (u : Unit) (h : AH) : Rs EnvD := some (.ok env, h)
def kG2 (env : EnvD) (v x y : RV) (h : AH) : Rs EnvD := thenM (setV x y v h) (kG3 env)
theorem ev_gsub {o i : Ex} {v : RV} : denG G (.sub o i) v env h = thenM (den G o env h) (kE2 G i env (kG2 env v)) := by
  rw [denG, bindM_then]
  congr 1; funext x h1
  unfold kE2
  rw [bindM_then]
  congr 1; funext y h2
  unfold kG2
  rw [bindM_then]
  rfl
theorem ev_gs0 : denGs G .nil [] env h = some (.ok env, h) := by rw [denGs.eq_def]; rfl
theorem ev_gs1 {t : Tg} {l : Ts} {d : PyData} {ds : List PyData} : denGs G (.cons t l) (d :: ds) env h = thenM (sureR (denG G t (.val d) env h)) (denGs G l ds) := by
  rw [denGs.eq_def]
  show bindM _ _ h = _
  rw [bindM_then, sureM_eq]
/-! statements -/
def loopR (G : Gd) (t : Tg) (b : Ss) (ds : List PyData) (env : EnvD) (h : AH) : Option (OutS × AH) := loopS (fun d e => denG G t (.val d) e) (fun e => denSs G b e) ds env h
def whileR (G : Gd) (c : Ex) (b : Ss) (n : Nat) (env : EnvD) (h : AH) : Option (OutS × AH) := whileS (fun e => bindM (den G c e) truM) (fun e => denSs G b e) n env h
def kNx (env : EnvD) (h : AH) : Option (OutS × AH) := some (.next env, h)
def kSa (G : Gd) (t : Tg) (env : EnvD) (x : RV) (h : AH) : Option (OutS × AH) := thenS (sureR (denG G t x env h)) env kNx
theorem st_asg {t : Tg} : denS G (.asg t e) env h = thenS (den G e env h) env (kSa G t env) := by
  rw [denS, andThen_then]
  congr 1; funext x h1
  rw [andThen_then, sureM_eq]
  rfl
def setR (ts : List Nat) (xs : List RV) (env : EnvD) (h : AH) : Option (OutS × AH) := match setAll ts xs env with
  | some e => some (.next e, h)
  | none => none
def kSp (ts : List Nat) (env : EnvD) (xs : List RV) (h : AH) : Option (OutS × AH) := setR ts xs env h
theorem st_par {ts : List Nat} : denS G (.par ts l) env h = thenS (denA G l env h) env (kSp ts env) := by
  rw [denS, andThen_then]
  rfl
def kSg3 (i : Nat) (env : EnvD) (v : RV) (h : AH) : Option (OutS × AH) := some (.next (env.set i (some v)), h)
def kSg2 (i : Nat) (o : Op2) (env : EnvD) (x y : RV) (h : AH) : Option (OutS × AH) := thenS (two (augF o) x y h) env (kSg3 i env)
def kSg1 (G : Gd) (i : Nat) (o : Op2) (e : Ex) (env : EnvD) (x : RV) (h : AH) : Option (OutS × AH) := thenS (den G e env h) env (kSg2 i o env x)
theorem st_aug {i : Nat} {o : Op2} : denS G (.aug i o e) env h = thenS (slotR env i h) env (kSg1 G i o e env) := by
  rw [denS, andThen_then, slotR_eq]
  congr 1; funext x h1
  unfold kSg1
  rw [andThen_then]
  congr 1; funext y h2
  unfold kSg2
  rw [andThen_then]
  rfl
def kSe (env : EnvD) (x : RV) (h : AH) : Option (OutS × AH) := some (.next env, h)
theorem st_expr : denS G (.expr e) env h = thenS (den G e env h) env (kSe env) := by
  rw [denS, andThen_then]
  rfl
def kSi2 (G : Gd) (x y : Ss) (env : EnvD) (k : Bool) (h : AH) : Option (OutS × AH) := if k = true then denSs G x env h else denSs G y env h
def kSi1 (G : Gd) (x y : Ss) (env : EnvD) (v : RV) (h : AH) : Option (OutS × AH) := thenS (truM v h) env (kSi2 G x y env)
theorem st_ife {x y : Ss} : denS G (.ife c x y) env h = thenS (den G c env h) env (kSi1 G x y env) := by
  rw [denS, andThen_then, bindM_then]
  unfold thenM thenS
  cases den G c env h with
  | none => rfl
  | some p =>
    obtain ⟨o, h1⟩ := p
    cases o with
    | exc cc fs => rfl
    | ok v =>
      dsimp only [kSi1]
      unfold thenS
      cases truM v h1 with
      | none => rfl
      | some p =>
        obtain ⟨o, h2⟩ := p
        cases o with
        | exc cc fs => rfl
        | ok k => dsimp only [kSi2]; cases k <;> rfl
def kSl (G : Gd) (t : Tg) (x : Ss) (env : EnvD) (ds : List PyData) (h : AH) : Option (OutS × AH) := loopR G t x ds env h
theorem st_loop {t : Tg} {it : It'} {x : Ss} : denS G (.loop t it x) env h = thenS (denI G it env h) env (kSl G t x env) := by
  rw [denS, andThen_then]
  rfl
theorem loopR_nil {t : Tg} {x : Ss} : loopR G t x [] env h = some (.next env, h) := rfl
def kSl2 (G : Gd) (t : Tg) (x : Ss) (ds : List PyData) (env : EnvD) (h : AH) : Option (OutS × AH) := turnS (denSs G x env h) (loopR G t x ds)
theorem loopR_cons {t : Tg} {x : Ss} {d : PyData} {ds : List PyData} : loopR G t x (d :: ds) env h = thenS (sureR (denG G t (.val d) env h)) env (kSl2 G t x ds) := by
  show loopS _ _ (d :: ds) env h = _
  rw [loopS, andThen_then, sureM_eq]
  refine congrArg (thenS _ env) ?_
  funext env2 h2
  unfold kSl2 turnS
  cases denSs G x env2 h2 with
  | none => rfl
  | some p => obtain ⟨o, h3⟩ := p; cases o <;> rfl
theorem st_whl {x : Ss} : denS G (.whl c x) env h = whileR G c x fuelW env h := by
  rw [denS]
  rfl
def kW2 (G : Gd) (c : Ex) (x : Ss) (n : Nat) (env : EnvD) (k : Bool) (h : AH) : Option (OutS × AH) := if k = true then turnS (denSs G x env h) (whileR G c x n) else some (.next env, h)
def kW1 (G : Gd) (c : Ex) (x : Ss) (n : Nat) (env : EnvD) (v : RV) (h : AH) : Option (OutS × AH) := thenS (truM v h) env (kW2 G c x n env)
theorem whileR_succ {x : Ss} {n : Nat} : whileR G c x (n + 1) env h = thenS (den G c env h) env (kW1 G c x n env) := by
  show whileS _ _ (n + 1) env h = _
  rw [whileS, andThen_then, bindM_then]
  unfold thenM thenS
  cases den G c env h with
  | none => rfl
  | some p =>
    obtain ⟨o, h1⟩ := p
    cases o with
    | exc cc fs => rfl
    | ok v =>
      dsimp only [kW1]
      unfold thenS
      cases truM v h1 with
      | none => rfl
      | some p =>
        obtain ⟨o, h2⟩ := p
        cases o with
        | exc cc fs => rfl
        | ok k =>
          dsimp only [kW2]
          cases k with
          | false => rfl
          | true =>
            rw [if_pos rfl, if_pos rfl]
            unfold turnS
            cases denSs G x env h2 with
            | none => rfl
            | some p => obtain ⟨o, h3⟩ := p; cases o <;> rfl
def kRt (x : RV) (h : AH) : Option (OutS × AH) := some (.ret x, h)
theorem st_ret : denS G (.ret e) env h = thenS (den G e env h) env kRt := by
  rw [denS, andThen_then]
  rfl
theorem st_ret0 : denS G .ret0 env h = some (.ret (.val .none), h) := by rw [denS]
theorem st_brk : denS G .brk env h = some (.brk env, h) := by rw [denS]
theorem st_cnt : denS G .cnt env h = some (.cont env, h) := by rw [denS]
theorem st_pas : denS G .pas env h = some (.next env, h) := by rw [denS]
theorem ss_nil : denSs G .nil env h = some (.next env, h) := by rw [denSs]
theorem ss_cons {s : Sm} {r : Ss} : denSs G (.cons s r) env h = nextS (denS G s env h) (denSs G r) := by
  refine Eq.trans (congrFun (denSs.eq_2 G env s r) h) ?_
  generalize denS G s env h = o
  cases o with
  | none => rfl
  | some p => obtain ⟨o, h1⟩ := p; cases o <;> rfl
theorem run_fd {f : Fd} {xs : List RV} : runF G f xs h = finR (denSs G f.body (xs.map some ++ List.replicate (f.n - xs.length) none) h) := by
  unfold runF finR
  cases denSs G f.body (xs.map some ++ List.replicate (f.n - xs.length) none) h with
  | none => rfl
  | some p => obtain ⟨o, h1⟩ := p; cases o <;> rfl
/-! errors -/
theorem thenM_exc {x : Str} {fs : List (Str × PyData)} {f : A → AH → Rs B} : thenM (some (.exc x fs, h)) f = some (.exc x fs, h) := rfl
theorem thenS_exc {x : Str} {fs : List (Str × PyData)} {f : A → AH → Option (OutS × AH)} : thenS (some (.exc x fs, h)) env f = some (.exc x fs env, h) := rfl
theorem nextS_exc {x : Str} {fs : List (Str × PyData)} {f : EnvD → AH → Option (OutS × AH)} : nextS (some (.exc x fs env, h)) f = some (.exc x fs env, h) := rfl
theorem turnS_exc {x : Str} {fs : List (Str × PyData)} {f : EnvD → AH → Option (OutS × AH)} : turnS (some (.exc x fs env, h)) f = some (.exc x fs env, h) := rfl
theorem finR_exc {x : Str} {fs : List (Str × PyData)} : finR (some (.exc x fs env, h)) = some (.exc x fs, h) := rfl
theorem pureR_exc {x : Str} {fs : List (Str × PyData)} {g : AH} : pureR (some (.exc x fs, g)) h = some (.exc x fs, h) := rfl
def fEqR (ne : Bool) (x y : RV) (h : AH) : Rs RV := twoR (eqF ne) x y h
theorem ev_eqR {ne : Bool} : den G (.eqR ne a b) env h = thenM (den G a env h) (kE2 G b env (fEqR ne)) := by
  rw [den, bindM_then]
  congr 1; funext x h1
  rw [bindM_then]
  rfl
def fIsN (neg : Bool) (x : RV) (h : AH) : Rs RV := some (.ok (.val (.bool (neg != isNoneV x))), h)
theorem ev_isN {neg : Bool} : den G (.isN neg a) env h = thenM (den G a env h) (fIsN neg) := by
  rw [den, bindM_then]
  rfl
theorem ev_isx {x : Str} {tab : List Str} : den G (.isx a x tab) env h = thenM (den G a env h) (isxM x tab) := by
  rw [den, bindM_then]
theorem ev_atx {x : Str} {tab : List Str} : den G (.atx a x tab) env h = thenM (den G a env h) (atxM x tab) := by
  rw [den, bindM_then]
theorem st_rai {x : Str} {f : Option Str} : denS G (.rai x f e) env h = thenS (den G e env h) env (raiS x f env) := by
  rw [denS, andThen_then]
theorem st_try {x : Ss} {hs : List Hd} {tab : List Str} : denS G (.tryx x hs tab) env h = tryS hs tab (denSs G x env h) := by rw [denS]
theorem tryS_next {hs : List Hd} {tab : List Str} : tryS hs tab (some (.next env, h)) = some (.next env, h) := rfl
theorem tryS_ret {hs : List Hd} {tab : List Str} {v : RV} : tryS hs tab (some (.ret v, h)) = some (.ret v, h) := rfl
theorem tryS_exc {hs : List Hd} {tab : List Str} {x : Str} {fs : List (Str × PyData)} : tryS hs tab (some (.exc x fs env, h)) = if x ∈ tab then hdR hs x fs env h else none := rfl
theorem gd_con {P : Pg} {k : Nat} {x : Str} : (P.gd k).con x = P.con.lookup x := rfl
theorem gd_fn {P : Pg} {k : Nat} {x : Str} {xs : List RV} : (P.gd k).fn x xs h = run P k x xs h := rfl
theorem gd_fnP {P : Pg} {k : Nat} {x : Str} {xs : List RV} : callR ((P.gd k).fn x) xs h = callR (run P k x) xs h := rfl
/-! operations of ints -/
theorem o_add {i j : Int} : valO (opF .add (.int i) (.int j)) = some (.val (.int (i + j))) := rfl
theorem o_sub {i j : Int} : valO (opF .sub (.int i) (.int j)) = some (.val (.int (i - j))) := rfl
theorem o_mul {i j : Int} (q : i.natAbs.log2 + j.natAbs.log2 < 1000000) : valO (opF .mul (.int i) (.int j)) = some (.val (.int (i * j))) := by
  show valO (if _ then _ else _) = _
  rw [if_pos (.inl q)]
  rfl
theorem o_mulR {i j : Int} (q1 : -(2 ^ 64) < j) (q2 : j < 2 ^ 64) : valO (opF .mul (.int i) (.int j)) = some (.val (.int (i * j))) := by
  show valO (if _ then _ else _) = _
  rw [if_pos (.inr (.inr ⟨q1, q2⟩))]
  rfl
theorem o_fdiv {i j : Int} (q : 0 < j) (q2 : j.natAbs.log2 < 9000) : valO (opF .fdiv (.int i) (.int j)) = some (.val (.int (i / j))) := by
  show valO (if _ then _ else _) = _
  rw [if_pos ⟨q, q2⟩]
  rfl
theorem o_mod {i j : Int} (q : 0 < j) : valO (opF .mod (.int i) (.int j)) = some (.val (.int (i % j))) := by
  show valO (if _ then _ else _) = _
  rw [if_pos q]
  rfl
theorem o_lt {i j : Int} : valO (cmF .lt (.int i) (.int j)) = some (.val (.bool (decide (i < j)))) := rfl
theorem o_le {i j : Int} : valO (cmF .le (.int i) (.int j)) = some (.val (.bool (decide (i ≤ j)))) := rfl
theorem o_gt {i j : Int} : valO (cmF .gt (.int i) (.int j)) = some (.val (.bool (decide (j < i)))) := rfl
theorem o_ge {i j : Int} : valO (cmF .ge (.int i) (.int j)) = some (.val (.bool (decide (j ≤ i)))) := rfl
theorem o_isn {d : PyData} : valO (cmF .is d .none) = some (.val (.bool (isNone d))) := by cases d <;> rfl
theorem o_isnn {d : PyData} : valO (cmF .isnot d .none) = some (.val (.bool (!isNone d))) := by cases d <;> rfl
end
end L2.Cap

set_option maxRecDepth 100000
set_option maxHeartbeats 1000000
namespace L2.Cap
open PySem
section
variable {h : AH}
theorem callR_1 {f : List RV → M RV} {a : PyData} : callR f [.val a] h = pureR (f [.val a] []) h := rfl
theorem callR_2 {f : List RV → M RV} {a b : PyData} : callR f [.val a, .val b] h = pureR (f [.val a, .val b] []) h := rfl
theorem callR_3 {f : List RV → M RV} {a b c : PyData} : callR f [.val a, .val b, .val c] h = pureR (f [.val a, .val b, .val c] []) h := rfl
theorem callR_4 {f : List RV → M RV} {a b c d : PyData} : callR f [.val a, .val b, .val c, .val d] h = pureR (f [.val a, .val b, .val c, .val d] []) h := rfl
theorem callR_5 {f : List RV → M RV} {a b c d e : PyData} : callR f [.val a, .val b, .val c, .val d, .val e] h = pureR (f [.val a, .val b, .val c, .val d, .val e] []) h := rfl
theorem valO_eq {x y : PyData} (hx : SeqAt.shaped x = true) (hy : SeqAt.shaped y = true) : valO (cmF .eq x y) = some (.val (.bool (PyData.eqv x y))) := by
  show valO (eqD x y) = _
  unfold eqD
  split
  · rfl
  · rw [hx, hy]
    rfl
theorem valO_ne {x y : PyData} (hx : SeqAt.shaped x = true) (hy : SeqAt.shaped y = true) : valO (cmF .ne x y) = some (.val (.bool (!PyData.eqv x y))) := by
  show valO (neD x y) = _
  unfold neD
  split
  · rfl
  · rw [hx, hy]
    rfl
theorem o_eqs {x y : Str} : valO (cmF .eq (.str x) (.str y)) = some (.val (.bool (decide (x = y)))) := rfl
theorem o_nes {x y : Str} : valO (cmF .ne (.str x) (.str y)) = some (.val (.bool (!decide (x = y)))) := rfl
theorem o_eqi {i j : Int} : valO (cmF .eq (.int i) (.int j)) = some (.val (.bool (decide (i = j)))) := by
  rw [valO_eq (by simp [SeqAt.shaped, PyData.canLay0, PyData.depth]) (by simp [SeqAt.shaped, PyData.canLay0, PyData.depth])]
  rfl
theorem o_nei {i j : Int} : valO (cmF .ne (.int i) (.int j)) = some (.val (.bool (!decide (i = j)))) := by
  rw [valO_ne (by simp [SeqAt.shaped, PyData.canLay0, PyData.depth]) (by simp [SeqAt.shaped, PyData.canLay0, PyData.depth])]
  rfl
end
end L2.Cap

set_option maxRecDepth 100000
set_option maxHeartbeats 1000000
namespace L2.Cap
open PySem
/-! ### plain facts for the runs -/
theorem log_lt {i : Int} {m : Nat} (h : i.natAbs < 2 ^ m) (hm : 0 < m) : i.natAbs.log2 < m := by
  by_cases e : i.natAbs = 0
  · rw [e]; simpa using hm
  · exact (Nat.log2_lt e).mpr h
theorem mul_ok {i j : Int} (h1 : i.natAbs < 2 ^ 250) (h2 : j.natAbs < 2 ^ 250) : i.natAbs.log2 + j.natAbs.log2 < 1000000 := by
  have := log_lt h1 (by decide)
  have := log_lt h2 (by decide)
  omega
theorem div_ok {j : Int} (h2 : j.natAbs < 2 ^ 250) : j.natAbs.log2 < 9000 := by
  have := log_lt h2 (by decide)
  omega
/-- ints that are small enough for every operation -/
def Sm200 (i : Int) : Prop := -(2 ^ 200) < i ∧ i < 2 ^ 200
theorem Sm200.na {i : Int} (h : Sm200 i) : i.natAbs < 2 ^ 250 := by
  obtain ⟨h1, h2⟩ := h
  have : (2 : Nat) ^ 200 < 2 ^ 250 := by decide
  omega
theorem o_mulS {i j : Int} (h1 : Sm200 i) (h2 : Sm200 j) : valO (opF .mul (.int i) (.int j)) = some (.val (.int (i * j))) := o_mul (mul_ok h1.na h2.na)
theorem o_fdivS {i j : Int} (h1 : 0 < j) (h2 : Sm200 j) : valO (opF .fdiv (.int i) (.int j)) = some (.val (.int (i / j))) := o_fdiv h1 (div_ok h2.na)
section
variable {h : AH} {a b c d : PyData}
theorem ix3_0 : valO (ixD (.tuple [a, b, c]) (.int 0)) = some (.val a) := rfl
theorem ix3_1 : valO (ixD (.tuple [a, b, c]) (.int 1)) = some (.val b) := rfl
theorem ix3_2 : valO (ixD (.tuple [a, b, c]) (.int 2)) = some (.val c) := rfl
theorem ix2_0 : valO (ixD (.tuple [a, b]) (.int 0)) = some (.val a) := rfl
theorem ix2_1 : valO (ixD (.tuple [a, b]) (.int 1)) = some (.val b) := rfl
theorem b_len3 : valO (bfF .len [.tuple [a, b, c]]) = some (.val (.int 3)) := rfl
theorem b_len2 : valO (bfF .len [.tuple [a, b]]) = some (.val (.int 2)) := rfl
theorem b_lenT {xs : List PyData} : valO (bfF .len [.tuple xs]) = some (.val (.int xs.length)) := rfl
theorem b_lenL {xs : List PyData} : valO (bfF .len [.list xs]) = some (.val (.int xs.length)) := rfl
theorem b_int {i : Int} : valO (bfF .int [.int i]) = some (.val (.int i)) := rfl
theorem b_intB {i : Bool} : valO (bfF .int [.bool i]) = some (.val (.int (if i then 1 else 0))) := rfl
theorem b_min {i j : Int} : valO (bfF .min [.int i, .int j]) = some (.val (.int (if j < i then j else i))) := rfl
theorem b_tupL {xs : List PyData} : valO (bfF .tuple [.list xs]) = some (.val (.tuple xs)) := rfl
theorem o_catT {xs ys : List PyData} (q : xs.length + ys.length ≤ sizeLine) : valO (opF .add (.tuple xs) (.tuple ys)) = some (.val (.tuple (xs ++ ys))) := by
  show valO (if _ then _ else _) = _
  rw [if_pos q]
  rfl
end
theorem viewR_ref {h : AH} {n : Nat} {xs : List RV} {ds : List PyData} (e : h[n]? = some (.lst xs)) (v : vals xs = some ds) : viewR (.ref n) h = some (.list ds) := by
  unfold viewR
  dsimp only
  rw [e]
  dsimp only
  rw [v]
  rfl
theorem view_ref {h : AH} {n : Nat} {xs : List RV} {ds : List PyData} (e : h[n]? = some (.lst xs)) (v : vals xs = some ds) : view (.ref n) h = some (.list ds) := by
  unfold view
  dsimp only
  rw [e]
  dsimp only
  rw [v]
  rfl
theorem viewR_ro {h : AH} {n : Nat} {ds : List PyData} (e : h[n]? = some (.ro ds)) : viewR (.ref n) h = some (.list ds) := by
  unfold viewR
  dsimp only
  rw [e]
theorem blt_ref {h : AH} {f : Bf} {x : RV} {d : PyData} (q : viewR x h = some d) : bltR f [x] h = optR (valO (bfF f [d])) h := by
  unfold bltR viewsR
  rw [q]
  rfl
theorem rng_eq : ∀ (n : Nat) (a : Int), rngL a n = (List.range n).map fun (i : Nat) => PyData.int (a + i)
  | 0, a => rfl
  | n + 1, a => by
    rw [List.range_succ_eq_map, List.map_cons, List.map_map, rngL, rng_eq n (a + 1)]
    congr 1
    · simp
    · apply List.map_congr_left
      intro i _
      show PyData.int (a + 1 + i) = PyData.int (a + ((i + 1 : Nat) : Int))
      congr 1
      omega
theorem rng_len (n : Nat) (a : Int) : (rngL a n).length = n := by rw [rng_eq, List.length_map, List.length_range]
theorem rng_mem {n : Nat} {a : Int} {d : PyData} (h : d ∈ rngL a n) : ∃ i : Int, d = .int i ∧ a ≤ i ∧ i < a + n := by
  rw [rng_eq, List.mem_map] at h
  obtain ⟨i, hi, rfl⟩ := h
  rw [List.mem_range] at hi
  exact ⟨_, rfl, by omega, by omega⟩
/-- a comprehension of data without tests -/
theorem lc_map {G : Gd} {i : Nat} {e : Ex} {env : EnvD} (g : PyData → PyData) : ∀ (ds : List PyData) (acc : List RV) (h : AH), (∀ d, d ∈ ds → ∀ h, den G e (env.set i (some (.val d))) h = some (.ok (.val (g d)), h)) → acc.length + ds.length ≤ sizeLine →
    lcR G (.nm i) .nil e env ds acc h = some (.ok (acc ++ ds.map fun d => .val (g d)), h)
  | [], acc, h, _, _ => by rw [lcR_nil, List.map_nil, List.append_nil]
  | d :: ds, acc, h, he, hl => by
    rw [List.length_cons] at hl
    rw [lcR_cons, ev_gnm, thenM_ok, kLc1, ev_c0, thenM_ok, kLc2, if_pos rfl, he d (List.mem_cons_self ..), thenM_ok, kLc3, if_pos (by omega),
      lc_map g ds (acc ++ [RV.val (g d)]) h (fun d hd => he d (List.mem_cons_of_mem _ hd)) (by simp; omega)]
    simp
theorem vals_map {A : Type} (f : A → PyData) : ∀ xs : List A, vals (xs.map fun x => .val (f x)) = some (xs.map f)
  | [] => rfl
  | x :: xs => by
    show (vals (xs.map fun x => .val (f x))).map (f x :: ·) = _
    rw [vals_map f xs]
    rfl
theorem shaped_int {i : Int} : SeqAt.shaped (.int i) = true := by simp [SeqAt.shaped, PyData.canLay0, PyData.depth]
theorem shaped_ints : ∀ (is : List Int), SeqAt.shaped (.list (is.map .int)) = true := by
  intro is
  have h1 : PyData.canLayAll0 (is.map .int) = true := by
    induction is with
    | nil => rfl
    | cons i is ih => simp [PyData.canLayAll0, PyData.canLay0, ih]
  have h3 : PyData.depthAll (is.map .int) = 0 := by
    clear h1
    induction is with
    | nil => rfl
    | cons i is ih => simp [PyData.depthAll, PyData.depth, ih]
  have h2 : PyData.depth (.list (is.map .int)) ≤ 64 := by
    rw [PyData.depth, h3]
    omega
  simp [SeqAt.shaped, PyData.canLay0, h1, h2]
end L2.Cap

set_option maxRecDepth 100000
set_option maxHeartbeats 0
namespace L2.K79
open PySem PySem.Spec PyProof.Rows L2 L2.Cap
/-! the program's forms, printed by tr.py -/
def con : List (Str × PyData) := [(("LAST_FRAME" : Str), (.int 1000000000000)), (("MOST_PRODUCT" : Str), (.int 100000)), (("MOST_RATE" : Str), (.int 2000)), (("MOST_STEPS" : Str), (.int 4)), (("ROUNDINGS" : Str), (.tuple [(.str "down"), (.str "near"), (.str "up")]))]
def free : List Str := [("abs" : Str), ("bool" : Str), ("enumerate" : Str), ("int" : Str), ("isinstance" : Str), ("len" : Str), ("list" : Str), ("min" : Str), ("range" : Str), ("repr" : Str), ("str" : Str), ("tuple" : Str)]
def tab : List Str := [("BadChain" : Str), ("OutOfPlace" : Str), ("TooGreat" : Str)]
def f_is_whole : Fd := ⟨3, (.cons (.ife (.bop false (.cons (.nt (.isi (.var 0) .int)) (.cons (.isi (.var 0) .bool) (.cons (.cmp .lt (.var 0) (.var 1)) .nil)))) (.cons (.ret (.cbl false)) .nil) .nil) (.cons (.ret (.bop false (.cons (.cmp .is (.var 2) .cnon) (.cons (.cmp .le (.var 0) (.var 2)) .nil)))) .nil))⟩
-- slots of is_whole: 0:thing 1:least 2:most
def f_need_frame : Fd := ⟨1, (.cons (.ife (.nt (.callP "is_whole" (.cons (.var 0) (.cons (.cint 0) (.cons (.glo "LAST_FRAME") .nil))))) (.cons (.rai "OutOfPlace" none (.cstr "no frame")) .nil) .nil) .nil)⟩
-- slots of need_frame: 0:frame
def f_is_step : Fd := ⟨1, (.cons (.ife (.bop false (.cons (.nt (.isi (.var 0) .tuple)) (.cons (.cmp .ne (.blt .len (.cons (.var 0) .nil)) (.cint 3)) (.cons (.nt (.isi (.ix (.var 0) (.cint 2)) .str)) (.cons (.cmp .notin (.ix (.var 0) (.cint 2)) (.glo "ROUNDINGS")) .nil))))) (.cons (.ret (.cbl false)) .nil) .nil) (.cons (.ret (.bop true (.cons (.callP "is_whole" (.cons (.ix (.var 0) (.cint 0)) (.cons (.cint 1) (.cons (.glo "MOST_RATE") .nil)))) (.cons (.callP "is_whole" (.cons (.ix (.var 0) (.cint 1)) (.cons (.cint 1) (.cons (.glo "MOST_RATE") .nil)))) .nil)))) .nil))⟩
-- slots of is_step: 0:thing
def lb_need_chain_1 : Ss := (.cons (.ife (.bop false (.cons (.nt (.callP "is_step" (.cons (.var 3) .nil))) (.cons (.cmp .gt (.bin .mul (.var 1) (.ix (.var 3) (.cint 1))) (.glo "MOST_PRODUCT")) .nil))) (.cons (.rai "BadChain" (some "number") (.var 2)) .nil) .nil) (.cons (.aug 1 .mul (.ix (.var 3) (.cint 1))) .nil))
def f_need_chain : Fd := ⟨4, (.cons (.ife (.bop false (.cons (.nt (.isi (.var 0) .tuple)) (.cons (.cmp .gt (.blt .len (.cons (.var 0) .nil)) (.glo "MOST_STEPS")) .nil))) (.cons (.rai "BadChain" (some "number") .cnon) .nil) .nil) (.cons (.asg (.nm 1) (.cint 1)) (.cons (.loop (.tup (.cons (.nm 2) (.cons (.nm 3) .nil))) (.enu (.var 0)) lb_need_chain_1) (.cons (.ret (.var 0)) .nil))))⟩
-- slots of need_chain: 0:thing 1:product 2:number 3:step
def f_stepped : Fd := ⟨5, (.cons (.asg (.tup (.cons (.nm 2) (.cons (.nm 3) (.cons (.nm 4) .nil)))) (.var 0)) (.cons (.ife (.cmp .eq (.var 4) (.cstr "down")) (.cons (.ret (.bin .fdiv (.bin .mul (.var 1) (.var 2)) (.var 3))) .nil) .nil) (.cons (.ife (.cmp .eq (.var 4) (.cstr "up")) (.cons (.ret (.bin .sub (.cint 0) (.bin .fdiv (.bin .sub (.cint 0) (.bin .mul (.var 1) (.var 2))) (.var 3)))) .nil) .nil) (.cons (.ret (.bin .fdiv (.bin .add (.bin .mul (.bin .mul (.cint 2) (.var 1)) (.var 2)) (.var 3)) (.bin .mul (.cint 2) (.var 3)))) .nil))))⟩
-- slots of stepped: 0:step 1:frame 2:above 3:below 4:rounding
def lb_moved_in_1 : Ss := (.cons (.asg (.nm 1) (.callP "stepped" (.cons (.var 2) (.cons (.var 1) .nil)))) .nil)
def f_moved_in : Fd := ⟨3, (.cons (.loop (.nm 2) (.ex (.var 0)) lb_moved_in_1) (.cons (.ret (.var 1)) .nil))⟩
-- slots of moved_in: 0:chain 1:frame 2:step
def f_moved : Fd := ⟨2, (.cons (.expr (.callP "need_chain" (.cons (.var 0) .nil))) (.cons (.expr (.callP "need_frame" (.cons (.var 1) .nil))) (.cons (.ret (.callP "moved_in" (.cons (.var 0) (.cons (.var 1) .nil)))) .nil)))⟩
-- slots of moved: 0:chain 1:frame
def lb_products_1 : Ss := (.cons (.par [2, 3] (.cons (.bin .mul (.var 2) (.ix (.var 1) (.cint 0))) (.cons (.bin .mul (.var 3) (.ix (.var 1) (.cint 1))) .nil))) .nil)
def f_products : Fd := ⟨4, (.cons (.asg (.tup (.cons (.nm 2) (.cons (.nm 3) .nil))) (.tup (.cons (.cint 1) (.cons (.cint 1) .nil)))) (.cons (.loop (.nm 1) (.ex (.var 0)) lb_products_1) (.cons (.ret (.tup (.cons (.var 2) (.cons (.var 3) .nil)))) .nil)))⟩
-- slots of products: 0:chain 1:step 2:above 3:below
def wc_common_1 : Ex := (.cmp .ne (.var 1) (.cint 0))
def wb_common_1 : Ss := (.cons (.par [0, 1] (.cons (.var 1) (.cons (.bin .mod (.blt .int (.cons (.var 0) .nil)) (.var 1)) .nil))) .nil)
def f_common : Fd := ⟨2, (.cons (.whl wc_common_1 wb_common_1) (.cons (.ret (.var 0)) .nil))⟩
-- slots of common: 0:one 1:other
def f_slope : Fd := ⟨4, (.cons (.asg (.tup (.cons (.nm 2) (.cons (.nm 3) .nil))) (.callP "products" (.cons (.callP "need_chain" (.cons (.var 0) .nil)) .nil))) (.cons (.asg (.nm 1) (.callP "common" (.cons (.var 2) (.cons (.var 3) .nil)))) (.cons (.ret (.tup (.cons (.bin .fdiv (.var 2) (.var 1)) (.cons (.bin .fdiv (.var 3) (.var 1)) .nil)))) .nil)))⟩
-- slots of slope: 0:chain 1:part 2:above 3:below
def lb_apart_in_1 : Ss := (.cons (.ife (.cmp .ne (.callP "moved_in" (.cons (.var 0) (.cons (.var 3) .nil))) (.callP "moved_in" (.cons (.var 1) (.cons (.var 3) .nil)))) (.cons (.ret (.var 3)) .nil) .nil) .nil)
def f_apart_in : Fd := ⟨4, (.cons (.asg (.nm 2) (.bin .mul (.bin .fdiv (.ix (.callP "products" (.cons (.var 0) .nil)) (.cint 1)) (.callP "common" (.cons (.ix (.callP "products" (.cons (.var 0) .nil)) (.cint 1)) (.cons (.ix (.callP "products" (.cons (.var 1) .nil)) (.cint 1)) .nil)))) (.ix (.callP "products" (.cons (.var 1) .nil)) (.cint 1)))) (.cons (.ife (.cmp .gt (.var 2) (.glo "MOST_PRODUCT")) (.cons (.rai "TooGreat" (some "most") (.glo "MOST_PRODUCT")) .nil) .nil) (.cons (.loop (.nm 3) (.rng1 (.bin .add (.var 2) (.cint 1))) lb_apart_in_1) (.cons (.ret .cnon) .nil))))⟩
-- slots of apart_in: 0:one 1:other 2:whole 3:frame
def f_apart_chains : Fd := ⟨2, (.cons (.expr (.callP "need_chain" (.cons (.var 0) .nil))) (.cons (.ret (.callP "apart_in" (.cons (.var 0) (.cons (.callP "need_chain" (.cons (.var 1) .nil)) .nil)))) .nil))⟩
-- slots of apart_chains: 0:one 1:other
def f_alike_chains : Fd := ⟨2, (.cons (.ret (.cmp .is (.callP "apart_chains" (.cons (.var 0) (.cons (.var 1) .nil))) .cnon)) .nil)⟩
-- slots of alike_chains: 0:one 1:other
def f__law_mix : Fd := ⟨4, (.cons (.asg (.nm 2) (.bin .mod (.blt .int (.cons (.bin .add (.bin .add (.bin .mul (.var 0) (.cint 40503)) (.bin .mul (.var 1) (.cint 69069))) (.cint 12345)) .nil)) (.cint 2147483647))) (.cons (.asg (.nm 3) (.bin .mod (.blt .int (.cons (.bin .add (.bin .add (.bin .mul (.var 2) (.cint 48271)) (.var 0)) (.var 1)) .nil)) (.cint 2147483647))) (.cons (.ret (.bin .mod (.blt .int (.cons (.bin .add (.bin .mul (.var 3) (.cint 16807)) (.bin .mul (.bin .mul (.var 1) (.var 1)) (.cint 7919))) .nil)) (.cint 2147483647))) .nil)))⟩
-- slots of _law_mix: 0:_law_cell 1:_law_spot 2:_law_first_here 3:_law_second
def ce__law_begun_1 : Ex := (.ife (.cmp .ge (.var 2) (.bin .pow (.cint 10) (.cint 18))) (.var 2) (.cint 0))
def cc__law_begun_1 : Xs := .nil
def f__law_begun : Fd := ⟨3, (.cons (.asg (.nm 1) (.ife (.eqR true (.var 0) (.lst .nil)) (.blt .list (.cons (.var 0) .nil)) (.lst (.cons (.cint 0) .nil)))) (.cons (.ret (.dsp ["cells", "left", "spot"] (.cons (.var 1) (.cons (.lc true ce__law_begun_1 (.nm 2) (.ex (.var 1)) cc__law_begun_1 [("_law_cell", 2)]) (.cons (.cint 0) .nil))))) .nil))⟩
-- slots of _law_begun: 0:_law_script 1:_law_some 2:_law_cell
def f__law_draw : Fd := ⟨5, (.cons (.asg (.nm 2) (.ix (.var 0) (.cstr "spot"))) (.cons (.asg (.sub (.var 0) (.cstr "spot")) (.bin .add (.var 2) (.cint 1))) (.cons (.asg (.nm 3) (.bin .mod (.blt .int (.cons (.var 2) .nil)) (.blt .len (.cons (.ix (.var 0) (.cstr "cells")) .nil)))) (.cons (.asg (.nm 4) (.ix (.ix (.var 0) (.cstr "left")) (.var 3))) (.cons (.ife (.cmp .gt (.var 4) (.cint 0)) (.cons (.asg (.sub (.ix (.var 0) (.cstr "left")) (.var 3)) (.bin .fdiv (.var 4) (.var 1))) (.cons (.ret (.bin .mod (.blt .int (.cons (.var 4) .nil)) (.var 1))) .nil)) .nil) (.cons (.ret (.bin .mod (.blt .int (.cons (.bin .fdiv (.callP "_law_mix" (.cons (.ix (.ix (.var 0) (.cstr "cells")) (.var 3)) (.cons (.var 2) .nil))) (.cint 97)) .nil)) (.var 1))) .nil))))))⟩
-- slots of _law_draw: 0:_law_m 1:_law_limit 2:_law_spot 3:_law_here 4:_law_left
def wc__law_divisor_1 : Ex := (.cmp .gt (.var 1) (.cint 0))
def wb__law_divisor_1 : Ss := (.cons (.par [0, 1] (.cons (.var 1) (.cons (.bin .mod (.blt .int (.cons (.var 0) .nil)) (.var 1)) .nil))) .nil)
def f__law_divisor : Fd := ⟨2, (.cons (.par [0, 1] (.cons (.blt .abs (.cons (.var 0) .nil)) (.cons (.blt .abs (.cons (.var 1) .nil)) .nil))) (.cons (.whl wc__law_divisor_1 wb__law_divisor_1) (.cons (.ret (.var 0)) .nil)))⟩
-- slots of _law_divisor: 0:_law_one 1:_law_other
def f__law_simple : Fd := ⟨11, (.cons (.asg (.tup (.cons (.nm 5) (.cons (.nm 6) .nil))) (.var 0)) (.cons (.asg (.tup (.cons (.nm 7) (.cons (.nm 8) .nil))) (.var 1)) (.cons (.asg (.nm 3) (.ife (.var 2) (.bin .add (.bin .fdiv (.var 5) (.var 6)) (.cint 1)) (.bin .sub (.cint 0) (.bin .fdiv (.bin .sub (.cint 0) (.var 5)) (.var 6))))) (.cons (.ife (.ife (.var 2) (.cmp .le (.bin .mul (.var 3) (.var 8)) (.var 7)) (.cmp .lt (.bin .mul (.var 3) (.var 8)) (.var 7))) (.cons (.ret (.tup (.cons (.var 3) (.cons (.cint 1) .nil)))) .nil) .nil) (.cons (.asg (.nm 4) (.bin .fdiv (.var 5) (.var 6))) (.cons (.asg (.tup (.cons (.nm 9) (.cons (.nm 10) .nil))) (.callP "_law_simple" (.cons (.tup (.cons (.var 8) (.cons (.bin .sub (.var 7) (.bin .mul (.var 4) (.var 8))) .nil))) (.cons (.tup (.cons (.var 6) (.cons (.bin .sub (.var 5) (.bin .mul (.var 4) (.var 6))) .nil))) (.cons (.nt (.var 2)) .nil))))) (.cons (.ret (.tup (.cons (.bin .add (.bin .mul (.var 4) (.var 9)) (.var 10)) (.cons (.var 9) .nil)))) .nil)))))))⟩
-- slots of _law_simple: 0:_law_low 1:_law_high 2:_law_is_above 3:_law_whole 4:_law_k 5:_law_a 6:_law_b 7:_law_c 8:_law_d 9:_law_over 10:_law_lower
def f__law_near : Fd := ⟨4, (.cons (.asg (.nm 1) (.bin .add (.cint 1) (.call "_law_draw" (.cons (.var 0) (.cons (.cint 300) .nil))))) (.cons (.asg (.nm 2) (.bin .add (.cint 1) (.call "_law_draw" (.cons (.var 0) (.cons (.cint 600) .nil))))) (.cons (.asg (.nm 3) (.call "_law_draw" (.cons (.var 0) (.cons (.cint 3) .nil)))) (.cons (.ife (.cmp .eq (.var 3) (.cint 0)) (.cons (.ret (.tup (.cons (.tup (.cons (.var 2) (.cons (.var 1) .nil))) (.cons (.tup (.cons (.bin .add (.cint 1) (.call "_law_draw" (.cons (.var 0) (.cons (.cint 600) .nil)))) (.cons (.bin .add (.cint 1) (.call "_law_draw" (.cons (.var 0) (.cons (.cint 300) .nil)))) .nil))) .nil)))) .nil) .nil) (.cons (.ife (.cmp .eq (.var 3) (.cint 1)) (.cons (.ret (.tup (.cons (.tup (.cons (.var 2) (.cons (.var 1) .nil))) (.cons (.tup (.cons (.bin .add (.bin .add (.var 2) (.cint 1)) (.call "_law_draw" (.cons (.var 0) (.cons (.cint 2) .nil)))) (.cons (.var 1) .nil))) .nil)))) .nil) .nil) (.cons (.ret (.tup (.cons (.tup (.cons (.bin .add (.var 1) (.cint 1)) (.cons (.var 1) .nil))) (.cons (.tup (.cons (.bin .add (.var 1) (.cint 2)) (.cons (.ife (.cmp .lt (.var 1) (.cint 300)) (.bin .add (.var 1) (.cint 1)) (.var 1)) .nil))) .nil)))) .nil))))))⟩
-- slots of _law_near: 0:_law_m 1:_law_d 2:_law_n 3:_law_way
def f__law_step : Fd := ⟨5, (.cons (.asg (.tup (.cons (.nm 2) (.cons (.nm 3) (.cons (.nm 4) .nil)))) (.var 0)) (.cons (.ife (.cmp .eq (.var 4) (.cstr "down")) (.cons (.ret (.bin .fdiv (.bin .mul (.var 1) (.var 2)) (.var 3))) .nil) .nil) (.cons (.ret (.ife (.cmp .eq (.var 4) (.cstr "up")) (.bin .sub (.cint 0) (.bin .fdiv (.bin .sub (.cint 0) (.bin .mul (.var 1) (.var 2))) (.var 3))) (.bin .fdiv (.bin .add (.bin .mul (.bin .mul (.cint 2) (.var 1)) (.var 2)) (.var 3)) (.bin .mul (.cint 2) (.var 3))))) .nil)))⟩
-- slots of _law_step: 0:_law_leg 1:_law_frame 2:_law_n 3:_law_d 4:_law_word
def lb__law_led_1 : Ss := (.cons (.asg (.nm 1) (.callP "_law_step" (.cons (.var 2) (.cons (.var 1) .nil)))) .nil)
def f__law_led : Fd := ⟨3, (.cons (.loop (.nm 2) (.ex (.var 0)) lb__law_led_1) (.cons (.ret (.var 1)) .nil))⟩
-- slots of _law_led: 0:_law_chain_so 1:_law_frame 2:_law_leg
def lb__law_first_1 : Ss := (.cons (.ife (.cmp .ne (.callP "_law_led" (.cons (.var 0) (.cons (.var 3) .nil))) (.callP "_law_led" (.cons (.var 1) (.cons (.var 3) .nil)))) (.cons (.ret (.var 3)) .nil) .nil) .nil)
def f__law_first : Fd := ⟨4, (.cons (.loop (.nm 3) (.rng1 (.bin .add (.var 2) (.cint 1))) lb__law_first_1) (.cons (.ret .cnon) .nil))⟩
-- slots of _law_first: 0:_law_one 1:_law_other 2:_law_total 3:_law_frame
def lb__law_single_1 : Ss := (.cons (.par [6, 7] (.cons (.tup (.cons (.tup (.cons (.ix (.var 3) (.cint 0)) (.cons (.ix (.var 3) (.cint 1)) (.cons (.var 2) .nil)))) .nil)) (.cons (.tup (.cons (.tup (.cons (.ix (.var 4) (.cint 0)) (.cons (.ix (.var 4) (.cint 1)) (.cons (.var 2) .nil)))) .nil)) .nil))) (.cons (.asg (.nm 5) .cnon) (.cons (.ife (.cmp .ne (.bin .mul (.ix (.var 3) (.cint 0)) (.ix (.var 4) (.cint 1))) (.bin .mul (.ix (.var 4) (.cint 0)) (.ix (.var 3) (.cint 1)))) (.cons (.asg (.nm 5) (.ix (.callP "_law_simple" (.cons (.var 3) (.cons (.var 4) (.cons (.cmp .eq (.var 2) (.cstr "down")) .nil)))) (.cint 1))) .nil) .nil) (.cons (.ife (.cmp .ne (.blt .repr (.cons (.lst (.cons (.callP "apart_chains" (.cons (.var 6) (.cons (.var 7) .nil))) (.cons (.callP "apart_chains" (.cons (.var 7) (.cons (.var 6) .nil))) .nil))) .nil)) (.blt .repr (.cons (.lst (.cons (.var 5) (.cons (.var 5) .nil))) .nil))) (.cons (.ret (.cbl false)) .nil) .nil) (.cons (.ife (.cmp .ne (.blt .repr (.cons (.callP "alike_chains" (.cons (.var 6) (.cons (.var 7) .nil))) .nil)) (.blt .repr (.cons (.cmp .is (.var 5) .cnon) .nil))) (.cons (.ret (.cbl false)) .nil) .nil) (.cons (.ife (.bop true (.cons (.cmp .isnot (.var 5) .cnon) (.cons (.cmp .gt (.var 5) (.cint 0)) (.cons (.cmp .ne (.callP "moved" (.cons (.var 6) (.cons (.bin .sub (.var 5) (.cint 1)) .nil))) (.callP "moved" (.cons (.var 7) (.cons (.bin .sub (.var 5) (.cint 1)) .nil)))) .nil)))) (.cons (.ret (.cbl false)) .nil) .nil) .nil))))))
def f__law_single : Fd := ⟨8, (.cons (.asg (.tup (.cons (.nm 3) (.cons (.nm 4) .nil))) (.call "_law_near" (.cons (.var 0) .nil))) (.cons (.ife (.cmp .gt (.bin .mul (.ix (.var 3) (.cint 0)) (.ix (.var 4) (.cint 1))) (.bin .mul (.ix (.var 4) (.cint 0)) (.ix (.var 3) (.cint 1)))) (.cons (.par [3, 4] (.cons (.var 4) (.cons (.var 3) .nil))) .nil) .nil) (.cons (.asg (.nm 1) (.callP "_law_divisor" (.cons (.ix (.var 3) (.cint 0)) (.cons (.ix (.var 3) (.cint 1)) .nil)))) (.cons (.ife (.cmp .ne (.callP "slope" (.cons (.tup (.cons (.tup (.cons (.ix (.var 3) (.cint 0)) (.cons (.ix (.var 3) (.cint 1)) (.cons (.cstr "near") .nil)))) .nil)) .nil)) (.tup (.cons (.bin .fdiv (.ix (.var 3) (.cint 0)) (.var 1)) (.cons (.bin .fdiv (.ix (.var 3) (.cint 1)) (.var 1)) .nil)))) (.cons (.ret (.cbl false)) .nil) .nil) (.cons (.loop (.nm 2) (.ex (.tup (.cons (.cstr "down") (.cons (.cstr "up") .nil)))) lb__law_single_1) (.cons (.ret (.cbl true)) .nil))))))⟩
-- slots of _law_single: 0:_law_m 1:_law_part 2:_law_word 3:_law_one 4:_law_two 5:_law_due 6:_law_first_here 7:_law_last
def lb__law_double_1 : Ss := (.cons (.expr (.app (.var 7) (.tup (.cons (.bin .add (.cint 1) (.call "_law_draw" (.cons (.var 0) (.cons (.cint 30) .nil)))) (.cons (.bin .add (.cint 1) (.call "_law_draw" (.cons (.var 0) (.cons (.cint 12) .nil)))) (.cons (.ix (.var 5) (.call "_law_draw" (.cons (.var 0) (.cons (.cint 3) .nil)))) .nil)))))) .nil)
def lb__law_double_2 : Ss := (.cons (.asg (.nm 7) (.lstH .nil)) (.cons (.loop (.nm 8) (.rng1 (.bin .add (.cint 1) (.call "_law_draw" (.cons (.var 0) (.cons (.cint 2) .nil))))) lb__law_double_1) (.cons (.expr (.app (.var 6) (.blt .tuple (.cons (.var 7) .nil)))) .nil)))
def lb__law_double_3 : Ss := (.cons (.asg (.nm 2) (.bin .mul (.var 2) (.ix (.var 9) (.cint 1)))) .nil)
def lb__law_double_4 : Ss := (.cons (.loop (.nm 9) (.ex (.var 3)) lb__law_double_3) .nil)
def f__law_double : Fd := ⟨10, (.cons (.par [5, 6] (.cons (.lst (.cons (.cstr "down") (.cons (.cstr "up") (.cons (.cstr "near") .nil)))) (.cons (.lstH .nil) .nil))) (.cons (.loop (.nm 1) (.rng1 (.cint 2)) lb__law_double_2) (.cons (.ife (.cmp .eq (.call "_law_draw" (.cons (.var 0) (.cons (.cint 3) .nil))) (.cint 0)) (.cons (.asg (.sub (.var 6) (.cint 1)) (.bin .add (.slc (.ix (.var 6) (.cint 0)) .no (.so (.neg (.cint 1)))) (.tup (.cons (.bin .add (.slc (.ix (.ix (.var 6) (.cint 0)) (.neg (.cint 1))) .no (.so (.cint 2))) (.tup (.cons (.ix (.var 5) (.call "_law_draw" (.cons (.var 0) (.cons (.cint 3) .nil)))) .nil))) .nil)))) .nil) .nil) (.cons (.asg (.nm 2) (.cint 1)) (.cons (.loop (.nm 3) (.ex (.frz (.var 6))) lb__law_double_4) (.cons (.asg (.nm 4) (.callP "_law_first" (.cons (.ix (.var 6) (.cint 0)) (.cons (.ix (.var 6) (.cint 1)) (.cons (.blt .min (.cons (.var 2) (.cons (.cint 20736) .nil))) .nil))))) (.cons (.ret (.cmp .eq (.blt .repr (.cons (.callP "apart_chains" (.cons (.ix (.var 6) (.cint 0)) (.cons (.ix (.var 6) (.cint 1)) .nil))) .nil)) (.blt .repr (.cons (.var 4) .nil)))) .nil)))))))⟩
-- slots of _law_double: 0:_law_m 1:_law_again 2:_law_total 3:_law_row 4:_law_due 5:_law_words 6:_law_rows 7:_law_steps 8:_law_k 9:_law_leg
def lb_law_1 : Ss := (.cons (.ife (.nt (.call "_law_single" (.cons (.var 1) .nil))) (.cons (.ret (.cbl false)) .nil) .nil) .nil)
def f_law : Fd := ⟨4, (.cons (.asg (.nm 1) (.call "_law_begun" (.cons (.var 0) .nil))) (.cons (.loop (.nm 2) (.rng1 (.bin .add (.cint 4) (.blt .min (.cons (.cint 6) (.cons (.blt .len (.cons (.var 0) .nil)) .nil))))) lb_law_1) (.cons (.ife (.nt (.call "_law_double" (.cons (.var 1) .nil))) (.cons (.ret (.cbl false)) .nil) .nil) (.cons (.asg (.nm 3) (.lst (.cons (.callP "apart_chains" (.cons (.tup (.cons (.tup (.cons (.cint 25) (.cons (.cint 24) (.cons (.cstr "down") .nil)))) .nil)) (.cons (.tup (.cons (.tup (.cons (.cint 30) (.cons (.cint 29) (.cons (.cstr "down") .nil)))) .nil)) .nil))) (.cons (.callP "apart_chains" (.cons (.tup (.cons (.tup (.cons (.cint 1) (.cons (.cint 1) (.cons (.cstr "up") .nil)))) .nil)) (.cons (.tup .nil) .nil))) .nil)))) (.cons (.ret (.bop true (.cons (.cmp .eq (.var 3) (.lst (.cons (.cint 24) (.cons .cnon .nil)))) (.cons (.cmp .is (.callP "alike_chains" (.cons (.tup (.cons (.tup (.cons (.cint 50) (.cons (.cint 48) (.cons (.cstr "up") .nil)))) .nil)) (.cons (.tup (.cons (.tup (.cons (.cint 25) (.cons (.cint 24) (.cons (.cstr "up") .nil)))) .nil)) .nil))) (.cbl true)) .nil)))) .nil)))))⟩
-- slots of law: 0:_law_script 1:_law_m 2:_law_turn 3:_law_told
def P : Pg := ⟨con, [(("is_whole" : Str), f_is_whole), (("need_frame" : Str), f_need_frame), (("is_step" : Str), f_is_step), (("need_chain" : Str), f_need_chain), (("stepped" : Str), f_stepped), (("moved_in" : Str), f_moved_in), (("moved" : Str), f_moved), (("products" : Str), f_products), (("common" : Str), f_common), (("slope" : Str), f_slope), (("apart_in" : Str), f_apart_in), (("apart_chains" : Str), f_apart_chains), (("alike_chains" : Str), f_alike_chains), (("_law_mix" : Str), f__law_mix), (("_law_begun" : Str), f__law_begun), (("_law_draw" : Str), f__law_draw), (("_law_divisor" : Str), f__law_divisor), (("_law_simple" : Str), f__law_simple), (("_law_near" : Str), f__law_near), (("_law_step" : Str), f__law_step), (("_law_led" : Str), f__law_led), (("_law_first" : Str), f__law_first), (("_law_single" : Str), f__law_single), (("_law_double" : Str), f__law_double), (("law" : Str), f_law)]⟩
theorem u_is_whole (k : Nat) (xs : List RV) : run P (k + 1) "is_whole" xs = runF (P.gd k) f_is_whole xs := rfl
theorem u_need_frame (k : Nat) (xs : List RV) : run P (k + 1) "need_frame" xs = runF (P.gd k) f_need_frame xs := rfl
theorem u_is_step (k : Nat) (xs : List RV) : run P (k + 1) "is_step" xs = runF (P.gd k) f_is_step xs := rfl
theorem u_need_chain (k : Nat) (xs : List RV) : run P (k + 1) "need_chain" xs = runF (P.gd k) f_need_chain xs := rfl
theorem u_stepped (k : Nat) (xs : List RV) : run P (k + 1) "stepped" xs = runF (P.gd k) f_stepped xs := rfl
theorem u_moved_in (k : Nat) (xs : List RV) : run P (k + 1) "moved_in" xs = runF (P.gd k) f_moved_in xs := rfl
theorem u_moved (k : Nat) (xs : List RV) : run P (k + 1) "moved" xs = runF (P.gd k) f_moved xs := rfl
theorem u_products (k : Nat) (xs : List RV) : run P (k + 1) "products" xs = runF (P.gd k) f_products xs := rfl
theorem u_common (k : Nat) (xs : List RV) : run P (k + 1) "common" xs = runF (P.gd k) f_common xs := rfl
theorem u_slope (k : Nat) (xs : List RV) : run P (k + 1) "slope" xs = runF (P.gd k) f_slope xs := rfl
theorem u_apart_in (k : Nat) (xs : List RV) : run P (k + 1) "apart_in" xs = runF (P.gd k) f_apart_in xs := rfl
theorem u_apart_chains (k : Nat) (xs : List RV) : run P (k + 1) "apart_chains" xs = runF (P.gd k) f_apart_chains xs := rfl
theorem u_alike_chains (k : Nat) (xs : List RV) : run P (k + 1) "alike_chains" xs = runF (P.gd k) f_alike_chains xs := rfl
theorem u__law_mix (k : Nat) (xs : List RV) : run P (k + 1) "_law_mix" xs = runF (P.gd k) f__law_mix xs := rfl
theorem u__law_begun (k : Nat) (xs : List RV) : run P (k + 1) "_law_begun" xs = runF (P.gd k) f__law_begun xs := rfl
theorem u__law_draw (k : Nat) (xs : List RV) : run P (k + 1) "_law_draw" xs = runF (P.gd k) f__law_draw xs := rfl
theorem u__law_divisor (k : Nat) (xs : List RV) : run P (k + 1) "_law_divisor" xs = runF (P.gd k) f__law_divisor xs := rfl
theorem u__law_simple (k : Nat) (xs : List RV) : run P (k + 1) "_law_simple" xs = runF (P.gd k) f__law_simple xs := rfl
theorem u__law_near (k : Nat) (xs : List RV) : run P (k + 1) "_law_near" xs = runF (P.gd k) f__law_near xs := rfl
theorem u__law_step (k : Nat) (xs : List RV) : run P (k + 1) "_law_step" xs = runF (P.gd k) f__law_step xs := rfl
theorem u__law_led (k : Nat) (xs : List RV) : run P (k + 1) "_law_led" xs = runF (P.gd k) f__law_led xs := rfl
theorem u__law_first (k : Nat) (xs : List RV) : run P (k + 1) "_law_first" xs = runF (P.gd k) f__law_first xs := rfl
theorem u__law_single (k : Nat) (xs : List RV) : run P (k + 1) "_law_single" xs = runF (P.gd k) f__law_single xs := rfl
theorem u__law_double (k : Nat) (xs : List RV) : run P (k + 1) "_law_double" xs = runF (P.gd k) f__law_double xs := rfl
theorem u_law (k : Nat) (xs : List RV) : run P (k + 1) "law" xs = runF (P.gd k) f_law xs := rfl
theorem c_LAST_FRAME : P.con.lookup ("LAST_FRAME" : Str) = some (PyData.int 1000000000000) := rfl
theorem c_MOST_PRODUCT : P.con.lookup ("MOST_PRODUCT" : Str) = some (PyData.int 100000) := rfl
theorem c_MOST_RATE : P.con.lookup ("MOST_RATE" : Str) = some (PyData.int 2000) := rfl
theorem c_MOST_STEPS : P.con.lookup ("MOST_STEPS" : Str) = some (PyData.int 4) := rfl
theorem c_ROUNDINGS : P.con.lookup ("ROUNDINGS" : Str) = some (PyData.tuple [(.str "down"), (.str "near"), (.str "up")]) := rfl
end L2.K79

set_option maxRecDepth 100000
set_option maxHeartbeats 0
namespace L2.K79
open PySem PySem.Spec PyProof.Rows L2 L2.Cap
/-! the row's text -/
def top (i : Nat) : Stmt := PySem.Challenge.pw_captionhouse_k79_whole_first_parting_fra.main.body.getD i (.Pass ⟨0, 0, 0, 0⟩)
def e_is_whole : Ent := ⟨"is_whole", ["thing", "least", "most"], ["thing", "least", "most"], defArgs (top 5), defBody (top 5), defScope (top 5)⟩
def e_need_frame : Ent := ⟨"need_frame", ["frame"], ["frame"], defArgs (top 8), defBody (top 8), defScope (top 8)⟩
def e_is_step : Ent := ⟨"is_step", ["thing"], ["thing"], defArgs (top 14), defBody (top 14), defScope (top 14)⟩
def e_need_chain : Ent := ⟨"need_chain", ["thing"], ["thing", "product", "number", "step"], defArgs (top 15), defBody (top 15), defScope (top 15)⟩
def e_stepped : Ent := ⟨"stepped", ["step", "frame"], ["step", "frame", "above", "below", "rounding"], defArgs (top 16), defBody (top 16), defScope (top 16)⟩
def e_moved_in : Ent := ⟨"moved_in", ["chain", "frame"], ["chain", "frame", "step"], defArgs (top 17), defBody (top 17), defScope (top 17)⟩
def e_moved : Ent := ⟨"moved", ["chain", "frame"], ["chain", "frame"], defArgs (top 18), defBody (top 18), defScope (top 18)⟩
def e_products : Ent := ⟨"products", ["chain"], ["chain", "step", "above", "below"], defArgs (top 19), defBody (top 19), defScope (top 19)⟩
def e_common : Ent := ⟨"common", ["one", "other"], ["one", "other"], defArgs (top 20), defBody (top 20), defScope (top 20)⟩
def e_slope : Ent := ⟨"slope", ["chain"], ["chain", "part", "above", "below"], defArgs (top 21), defBody (top 21), defScope (top 21)⟩
def e_apart_in : Ent := ⟨"apart_in", ["one", "other"], ["one", "other", "whole", "frame"], defArgs (top 22), defBody (top 22), defScope (top 22)⟩
def e_apart_chains : Ent := ⟨"apart_chains", ["one", "other"], ["one", "other"], defArgs (top 23), defBody (top 23), defScope (top 23)⟩
def e_alike_chains : Ent := ⟨"alike_chains", ["one", "other"], ["one", "other"], defArgs (top 24), defBody (top 24), defScope (top 24)⟩
def e__law_mix : Ent := ⟨"_law_mix", ["_law_cell", "_law_spot"], ["_law_cell", "_law_spot", "_law_first_here", "_law_second"], defArgs (top 26), defBody (top 26), defScope (top 26)⟩
def e__law_begun : Ent := ⟨"_law_begun", ["_law_script"], ["_law_script", "_law_some", "_law_cell"], defArgs (top 27), defBody (top 27), defScope (top 27)⟩
def e__law_draw : Ent := ⟨"_law_draw", ["_law_m", "_law_limit"], ["_law_m", "_law_limit", "_law_spot", "_law_here", "_law_left"], defArgs (top 28), defBody (top 28), defScope (top 28)⟩
def e__law_divisor : Ent := ⟨"_law_divisor", ["_law_one", "_law_other"], ["_law_one", "_law_other"], defArgs (top 29), defBody (top 29), defScope (top 29)⟩
def e__law_simple : Ent := ⟨"_law_simple", ["_law_low", "_law_high", "_law_is_above"], ["_law_low", "_law_high", "_law_is_above", "_law_whole", "_law_k", "_law_a", "_law_b", "_law_c", "_law_d", "_law_over", "_law_lower"], defArgs (top 30), defBody (top 30), defScope (top 30)⟩
def e__law_near : Ent := ⟨"_law_near", ["_law_m"], ["_law_m", "_law_d", "_law_n", "_law_way"], defArgs (top 31), defBody (top 31), defScope (top 31)⟩
def e__law_step : Ent := ⟨"_law_step", ["_law_leg", "_law_frame"], ["_law_leg", "_law_frame", "_law_n", "_law_d", "_law_word"], defArgs (top 32), defBody (top 32), defScope (top 32)⟩
def e__law_led : Ent := ⟨"_law_led", ["_law_chain_so", "_law_frame"], ["_law_chain_so", "_law_frame", "_law_leg"], defArgs (top 33), defBody (top 33), defScope (top 33)⟩
def e__law_first : Ent := ⟨"_law_first", ["_law_one", "_law_other", "_law_total"], ["_law_one", "_law_other", "_law_total", "_law_frame"], defArgs (top 34), defBody (top 34), defScope (top 34)⟩
def e__law_single : Ent := ⟨"_law_single", ["_law_m"], ["_law_m", "_law_part", "_law_word", "_law_one", "_law_two", "_law_due", "_law_first_here", "_law_last"], defArgs (top 35), defBody (top 35), defScope (top 35)⟩
def e__law_double : Ent := ⟨"_law_double", ["_law_m"], ["_law_m", "_law_again", "_law_total", "_law_row", "_law_due", "_law_words", "_law_rows", "_law_steps", "_law_k", "_law_leg"], defArgs (top 36), defBody (top 36), defScope (top 36)⟩
def e_law : Ent := ⟨"law", ["_law_script"], ["_law_script", "_law_m", "_law_turn", "_law_told"], defArgs (top 37), defBody (top 37), defScope (top 37)⟩
def xs : List XI := [⟨"BadChain", .ve, some "number"⟩, ⟨"OutOfPlace", .ve, none⟩, ⟨"TooGreat", .oe, some "most"⟩]
def file : Str := "/claim/cut.py"
def T : List Ent := [e_is_whole, e_need_frame, e_is_step, e_need_chain, e_stepped, e_moved_in, e_moved, e_products, e_common, e_slope, e_apart_in, e_apart_chains, e_alike_chains, e__law_mix, e__law_begun, e__law_draw, e__law_divisor, e__law_simple, e__law_near, e__law_step, e__law_led, e__law_first, e__law_single, e__law_double, e_law]
theorem b_is_whole : BindOk e_is_whole := fun _ _ _ _ _ _ us hl => match us, hl with | [_, _, _], _ => rfl
theorem b_need_frame : BindOk e_need_frame := fun _ _ _ _ _ _ us hl => match us, hl with | [_], _ => rfl
theorem b_is_step : BindOk e_is_step := fun _ _ _ _ _ _ us hl => match us, hl with | [_], _ => rfl
theorem b_need_chain : BindOk e_need_chain := fun _ _ _ _ _ _ us hl => match us, hl with | [_], _ => rfl
theorem b_stepped : BindOk e_stepped := fun _ _ _ _ _ _ us hl => match us, hl with | [_, _], _ => rfl
theorem b_moved_in : BindOk e_moved_in := fun _ _ _ _ _ _ us hl => match us, hl with | [_, _], _ => rfl
theorem b_moved : BindOk e_moved := fun _ _ _ _ _ _ us hl => match us, hl with | [_, _], _ => rfl
theorem b_products : BindOk e_products := fun _ _ _ _ _ _ us hl => match us, hl with | [_], _ => rfl
theorem b_common : BindOk e_common := fun _ _ _ _ _ _ us hl => match us, hl with | [_, _], _ => rfl
theorem b_slope : BindOk e_slope := fun _ _ _ _ _ _ us hl => match us, hl with | [_], _ => rfl
theorem b_apart_in : BindOk e_apart_in := fun _ _ _ _ _ _ us hl => match us, hl with | [_, _], _ => rfl
theorem b_apart_chains : BindOk e_apart_chains := fun _ _ _ _ _ _ us hl => match us, hl with | [_, _], _ => rfl
theorem b_alike_chains : BindOk e_alike_chains := fun _ _ _ _ _ _ us hl => match us, hl with | [_, _], _ => rfl
theorem b__law_mix : BindOk e__law_mix := fun _ _ _ _ _ _ us hl => match us, hl with | [_, _], _ => rfl
theorem b__law_begun : BindOk e__law_begun := fun _ _ _ _ _ _ us hl => match us, hl with | [_], _ => rfl
theorem b__law_draw : BindOk e__law_draw := fun _ _ _ _ _ _ us hl => match us, hl with | [_, _], _ => rfl
theorem b__law_divisor : BindOk e__law_divisor := fun _ _ _ _ _ _ us hl => match us, hl with | [_, _], _ => rfl
theorem b__law_simple : BindOk e__law_simple := fun _ _ _ _ _ _ us hl => match us, hl with | [_, _, _], _ => rfl
theorem b__law_near : BindOk e__law_near := fun _ _ _ _ _ _ us hl => match us, hl with | [_], _ => rfl
theorem b__law_step : BindOk e__law_step := fun _ _ _ _ _ _ us hl => match us, hl with | [_, _], _ => rfl
theorem b__law_led : BindOk e__law_led := fun _ _ _ _ _ _ us hl => match us, hl with | [_, _], _ => rfl
theorem b__law_first : BindOk e__law_first := fun _ _ _ _ _ _ us hl => match us, hl with | [_, _, _], _ => rfl
theorem b__law_single : BindOk e__law_single := fun _ _ _ _ _ _ us hl => match us, hl with | [_], _ => rfl
theorem b__law_double : BindOk e__law_double := fun _ _ _ _ _ _ us hl => match us, hl with | [_], _ => rfl
theorem b_law : BindOk e_law := fun _ _ _ _ _ _ us hl => match us, hl with | [_], _ => rfl
theorem hb : ∀ e, e ∈ T → BindOk e := List.forall_mem_cons.mpr ⟨b_is_whole, List.forall_mem_cons.mpr ⟨b_need_frame, List.forall_mem_cons.mpr ⟨b_is_step, List.forall_mem_cons.mpr ⟨b_need_chain, List.forall_mem_cons.mpr ⟨b_stepped, List.forall_mem_cons.mpr ⟨b_moved_in, List.forall_mem_cons.mpr ⟨b_moved, List.forall_mem_cons.mpr ⟨b_products, List.forall_mem_cons.mpr ⟨b_common, List.forall_mem_cons.mpr ⟨b_slope, List.forall_mem_cons.mpr ⟨b_apart_in, List.forall_mem_cons.mpr ⟨b_apart_chains, List.forall_mem_cons.mpr ⟨b_alike_chains, List.forall_mem_cons.mpr ⟨b__law_mix, List.forall_mem_cons.mpr ⟨b__law_begun, List.forall_mem_cons.mpr ⟨b__law_draw, List.forall_mem_cons.mpr ⟨b__law_divisor, List.forall_mem_cons.mpr ⟨b__law_simple, List.forall_mem_cons.mpr ⟨b__law_near, List.forall_mem_cons.mpr ⟨b__law_step, List.forall_mem_cons.mpr ⟨b__law_led, List.forall_mem_cons.mpr ⟨b__law_first, List.forall_mem_cons.mpr ⟨b__law_single, List.forall_mem_cons.mpr ⟨b__law_double, List.forall_mem_cons.mpr ⟨b_law, fun _ h => nomatch h⟩⟩⟩⟩⟩⟩⟩⟩⟩⟩⟩⟩⟩⟩⟩⟩⟩⟩⟩⟩⟩⟩⟩⟩⟩
theorem hok : (T.all fun e => e.ok P T (P.con.map (·.1)) free xs) = true := by kernel_rfl
abbrev R : PySem.W.OpenRow := PySem.W.OpenLaw.row PySem.Challenge.rw_captionhouse_k79_whole_first_parting_fra
abbrev hk : PySem.W.Hook := hookC 5 (faOf T free) (T.map Ent.dd) con file xs
def ob (s : PySem.W.SharedT) : AlC := obsCG 5 (faOf T free) (T.map Ent.dd) con file xs (HandSHeadRun.getT s)
theorem ob_eq (s : PySem.W.SharedT) : ob s = hk.obs s.abs := obsCG_eq (HandSHeadRun.getT_eq s)
def names : List Str := [("BadChain" : Str), ("OutOfPlace" : Str), ("TooGreat" : Str), ("is_whole" : Str), ("LAST_FRAME" : Str), ("need_frame" : Str), ("MOST_STEPS" : Str), ("MOST_RATE" : Str), ("MOST_PRODUCT" : Str), ("ROUNDINGS" : Str), ("is_step" : Str), ("need_chain" : Str), ("stepped" : Str), ("moved_in" : Str), ("moved" : Str), ("products" : Str), ("common" : Str), ("slope" : Str), ("apart_in" : Str), ("apart_chains" : Str), ("alike_chains" : Str), ("_law_mix" : Str), ("_law_begun" : Str), ("_law_draw" : Str), ("_law_divisor" : Str), ("_law_simple" : Str), ("_law_near" : Str), ("_law_step" : Str), ("_law_led" : Str), ("_law_first" : Str), ("_law_single" : Str), ("_law_double" : Str)]
theorem top_run (w : World) : HandSHeadRun.RunEq R (PySem.W.view R.prog [37]) hk ob 4000 names w := by
  intro os
  kernel_rfl
end L2.K79

set_option maxRecDepth 100000
set_option maxHeartbeats 1000000
namespace L2.K79
open PySem PySem.Spec PyProof.Rows L2 L2.Cap
theorem s_down : PyData.strOk "down" = true := by decide +kernel
theorem s_up : PyData.strOk "up" = true := by decide +kernel
theorem s_near : PyData.strOk "near" = true := by decide +kernel
theorem d1 : (("up" : Str) = "down") = False := eq_false (by decide +kernel)
theorem d2 : (("near" : Str) = "down") = False := eq_false (by decide +kernel)
theorem d3 : (("near" : Str) = "up") = False := eq_false (by decide +kernel)
theorem n_down : valO (cmF .notin (.str "down") (.tuple [.str "down", .str "near", .str "up"])) = some (.val (.bool false)) := by kernel_rfl
theorem n_up : valO (cmF .notin (.str "up") (.tuple [.str "down", .str "near", .str "up"])) = some (.val (.bool false)) := by kernel_rfl
theorem n_near : valO (cmF .notin (.str "near") (.tuple [.str "down", .str "near", .str "up"])) = some (.val (.bool false)) := by kernel_rfl
theorem r_is_whole (k : Nat) (i a b : Int) (h : AH) : run P (k + 1) "is_whole" [.val (.int i), .val (.int a), .val (.int b)] h = some (.ok (.val (.bool (decide (a ≤ i ∧ i ≤ b)))), h) := by
  rw [u_is_whole]
  by_cases h1 : i < a
  · simp only [f_is_whole, h1, thenM_ok, thenS_ok, nextS_next, nextS_ret, nextS_brk, nextS_cont, turnS_next, turnS_cont, turnS_brk, turnS_ret, finR_next, finR_ret, sureR_ok, slot0, slotS, conR_some, optR_some, valO_some, two_vv, tru_v, truD, ev_var, ev_cint, ev_cstr, ev_cbl, ev_cnon, ev_glo, ev_bin, ev_neg, ev_cmp, ev_chn, ev_bop, ev_b1, ev_b2, ev_nt, ev_ife, ev_tup, ev_lst, ev_lstH, ev_ix, ev_slc, ev_slcH, ev_call, ev_callP, ev_blt, ev_isi, ev_lc, ev_app, ev_dsp, ev_mth1, ev_frz, ev_a0, ev_a1, ev_c0, ev_c1, ev_o0, ev_o1, ev_iex, ev_rng1, ev_rng2, ev_enu, ev_zip, ev_gnm, ev_gtup, ev_gsub, ev_gs0, ev_gs1, intOf_i, boolOf_b, strOf_s, dataOf_d, ix_vv, slR_v, pureR_v, callR_1, callR_2, callR_3, callR_4, callR_5, blt_1, blt_2, isiR_some, viewR_v, view_v, frz_v, kE2, fBin, fCmp, negK, fNeg, kC1, kC2, kC3, kC4, kO1, kO2, kN1, kN2, kI1, kI2, tupR, lstR, lstHR, fIx, kS1, kS2, fCall, fIsi, isiD, kL, lcF, kF1, kF2, kAc, kAn, kOi, kOi2, fItems, kR1, kR3, kR4, kEn1, kEn2, kZ1, kZ2, kZ3, zipO, kG2, kG3, kNx, kSa, kSp, setR, setAll, kSg1, kSg2, kSg3, kSe, kSi1, kSi2, kSl, kRt, kA1, kA2, kM1, kM2, st_asg, st_par, st_aug, st_expr, st_ife, st_loop, st_ret, st_ret0, st_brk, st_cnt, st_pas, ss_nil, ss_cons, loopR_nil, run_fd, gd_con, gd_fn, gd_fnP, vals, itemsV, itemsD, seqD, o_add, o_sub, o_lt, o_le, o_gt, o_ge, o_isn, o_isnn, o_eqi, o_nei, o_eqs, o_nes, isNone, List.map, List.length, List.replicate, List.set, List.cons_append, List.nil_append, List.append_nil, Nat.reduceSub, Nat.reduceAdd, wipeD, Option.map_some, Option.map, Bool.not_true, Bool.not_false, reduceCtorEq, ↓reduceIte, Bool.true_eq_false, Bool.false_eq_true, decide_true, decide_false, if_true, if_false, Nat.zero_le, List.isEmpty_nil, List.isEmpty_cons, thenM_exc, thenS_exc, nextS_exc, turnS_exc, finR_exc, pureR_exc, fEqR, ev_eqR, fIsN, ev_isN, ev_isx, ev_atx, st_rai, st_try, tryS_next, tryS_ret, tryS_exc, raiS]
    have : ¬ (a ≤ i ∧ i ≤ b) := by omega
    simp only [this, decide_false]
  · simp only [f_is_whole, h1, thenM_ok, thenS_ok, nextS_next, nextS_ret, nextS_brk, nextS_cont, turnS_next, turnS_cont, turnS_brk, turnS_ret, finR_next, finR_ret, sureR_ok, slot0, slotS, conR_some, optR_some, valO_some, two_vv, tru_v, truD, ev_var, ev_cint, ev_cstr, ev_cbl, ev_cnon, ev_glo, ev_bin, ev_neg, ev_cmp, ev_chn, ev_bop, ev_b1, ev_b2, ev_nt, ev_ife, ev_tup, ev_lst, ev_lstH, ev_ix, ev_slc, ev_slcH, ev_call, ev_callP, ev_blt, ev_isi, ev_lc, ev_app, ev_dsp, ev_mth1, ev_frz, ev_a0, ev_a1, ev_c0, ev_c1, ev_o0, ev_o1, ev_iex, ev_rng1, ev_rng2, ev_enu, ev_zip, ev_gnm, ev_gtup, ev_gsub, ev_gs0, ev_gs1, intOf_i, boolOf_b, strOf_s, dataOf_d, ix_vv, slR_v, pureR_v, callR_1, callR_2, callR_3, callR_4, callR_5, blt_1, blt_2, isiR_some, viewR_v, view_v, frz_v, kE2, fBin, fCmp, negK, fNeg, kC1, kC2, kC3, kC4, kO1, kO2, kN1, kN2, kI1, kI2, tupR, lstR, lstHR, fIx, kS1, kS2, fCall, fIsi, isiD, kL, lcF, kF1, kF2, kAc, kAn, kOi, kOi2, fItems, kR1, kR3, kR4, kEn1, kEn2, kZ1, kZ2, kZ3, zipO, kG2, kG3, kNx, kSa, kSp, setR, setAll, kSg1, kSg2, kSg3, kSe, kSi1, kSi2, kSl, kRt, kA1, kA2, kM1, kM2, st_asg, st_par, st_aug, st_expr, st_ife, st_loop, st_ret, st_ret0, st_brk, st_cnt, st_pas, ss_nil, ss_cons, loopR_nil, run_fd, gd_con, gd_fn, gd_fnP, vals, itemsV, itemsD, seqD, o_add, o_sub, o_lt, o_le, o_gt, o_ge, o_isn, o_isnn, o_eqi, o_nei, o_eqs, o_nes, isNone, List.map, List.length, List.replicate, List.set, List.cons_append, List.nil_append, List.append_nil, Nat.reduceSub, Nat.reduceAdd, wipeD, Option.map_some, Option.map, Bool.not_true, Bool.not_false, reduceCtorEq, ↓reduceIte, Bool.true_eq_false, Bool.false_eq_true, decide_true, decide_false, if_true, if_false, Nat.zero_le, List.isEmpty_nil, List.isEmpty_cons, thenM_exc, thenS_exc, nextS_exc, turnS_exc, finR_exc, pureR_exc, fEqR, ev_eqR, fIsN, ev_isN, ev_isx, ev_atx, st_rai, st_try, tryS_next, tryS_ret, tryS_exc, raiS]
    have : (i ≤ b) = (a ≤ i ∧ i ≤ b) := by apply propext; omega
    simp only [← this]
/-- one step of a chain -/
def stp (a b : Int) (s : Str) (f : Int) : Int := if s = "down" then f * a / b else if s = "up" then 0 - (0 - f * a) / b else (2 * f * a + b) / (2 * b)
abbrev St3 := Int × Int × Str
def stD (t : St3) : PyData := .tuple [.int t.1, .int t.2.1, .str t.2.2]
def chD (c : List St3) : PyData := .tuple (c.map stD)
def Word (s : Str) : Prop := s = "down" ∨ s = "up" ∨ s = "near"
structure OkS (t : St3) : Prop where
  a1 : 1 ≤ t.1
  a2 : t.1 ≤ 2000
  b1 : 1 ≤ t.2.1
  b2 : t.2.1 ≤ 2000
  w : Word t.2.2
def prA : List St3 → Int
  | [] => 1
  | t :: r => t.1 * prA r
def prB : List St3 → Int
  | [] => 1
  | t :: r => t.2.1 * prB r
def mv : List St3 → Int → Int
  | [], f => f
  | t :: r, f => mv r (stp t.1 t.2.1 t.2.2 f)
theorem r_stepped (k : Nat) (t : St3) (f : Int) (h : AH) (ht : OkS t) (hf : 0 ≤ f) (hf2 : f < 2 ^ 180) :
    run P (k + 1) "stepped" [.val (stD t), .val (.int f)] h = some (.ok (.val (.int (stp t.1 t.2.1 t.2.2 f))), h) := by
  obtain ⟨a, b, s⟩ := t
  obtain ⟨a1, a2, b1, b2, w⟩ := ht
  dsimp only at a1 a2 b1 b2 w ⊢
  have q0 : Sm200 f := ⟨by omega, by omega⟩
  have q1 : Sm200 a := ⟨by omega, by omega⟩
  have q2 : Sm200 (2 * f) := ⟨by omega, by omega⟩
  have q3 : Sm200 b := ⟨by omega, by omega⟩
  have q4 : Sm200 2 := ⟨by omega, by omega⟩
  have q5 : Sm200 (2 * b) := ⟨by omega, by omega⟩
  have p1 : 0 < b := by omega
  have p2 : 0 < 2 * b := by omega
  rw [u_stepped]
  rcases w with rfl | rfl | rfl <;> simp only [stD, stp, f_stepped, s_down, s_up, s_near, d1, d2, d3, o_mulS, o_fdivS, q0, q1, q2, q3, q4, q5, p1, p2, thenM_ok, thenS_ok, nextS_next, nextS_ret, nextS_brk, nextS_cont, turnS_next, turnS_cont, turnS_brk, turnS_ret, finR_next, finR_ret, sureR_ok, slot0, slotS, conR_some, optR_some, valO_some, two_vv, tru_v, truD, ev_var, ev_cint, ev_cstr, ev_cbl, ev_cnon, ev_glo, ev_bin, ev_neg, ev_cmp, ev_chn, ev_bop, ev_b1, ev_b2, ev_nt, ev_ife, ev_tup, ev_lst, ev_lstH, ev_ix, ev_slc, ev_slcH, ev_call, ev_callP, ev_blt, ev_isi, ev_lc, ev_app, ev_dsp, ev_mth1, ev_frz, ev_a0, ev_a1, ev_c0, ev_c1, ev_o0, ev_o1, ev_iex, ev_rng1, ev_rng2, ev_enu, ev_zip, ev_gnm, ev_gtup, ev_gsub, ev_gs0, ev_gs1, intOf_i, boolOf_b, strOf_s, dataOf_d, ix_vv, slR_v, pureR_v, callR_1, callR_2, callR_3, callR_4, callR_5, blt_1, blt_2, isiR_some, viewR_v, view_v, frz_v, kE2, fBin, fCmp, negK, fNeg, kC1, kC2, kC3, kC4, kO1, kO2, kN1, kN2, kI1, kI2, tupR, lstR, lstHR, fIx, kS1, kS2, fCall, fIsi, isiD, kL, lcF, kF1, kF2, kAc, kAn, kOi, kOi2, fItems, kR1, kR3, kR4, kEn1, kEn2, kZ1, kZ2, kZ3, zipO, kG2, kG3, kNx, kSa, kSp, setR, setAll, kSg1, kSg2, kSg3, kSe, kSi1, kSi2, kSl, kRt, kA1, kA2, kM1, kM2, st_asg, st_par, st_aug, st_expr, st_ife, st_loop, st_ret, st_ret0, st_brk, st_cnt, st_pas, ss_nil, ss_cons, loopR_nil, run_fd, gd_con, gd_fn, gd_fnP, vals, itemsV, itemsD, seqD, o_add, o_sub, o_lt, o_le, o_gt, o_ge, o_isn, o_isnn, o_eqi, o_nei, o_eqs, o_nes, isNone, List.map, List.length, List.replicate, List.set, List.cons_append, List.nil_append, List.append_nil, Nat.reduceSub, Nat.reduceAdd, wipeD, Option.map_some, Option.map, Bool.not_true, Bool.not_false, reduceCtorEq, ↓reduceIte, Bool.true_eq_false, Bool.false_eq_true, decide_true, decide_false, if_true, if_false, Nat.zero_le, List.isEmpty_nil, List.isEmpty_cons, thenM_exc, thenS_exc, nextS_exc, turnS_exc, finR_exc, pureR_exc, fEqR, ev_eqR, fIsN, ev_isN, ev_isx, ev_atx, st_rai, st_try, tryS_next, tryS_ret, tryS_exc, raiS]
theorem stp_nn {t : St3} {f : Int} (ht : OkS t) (hf : 0 ≤ f) : 0 ≤ stp t.1 t.2.1 t.2.2 f ∧ stp t.1 t.2.1 t.2.2 f ≤ 2000 * f + 1 := by
  obtain ⟨a, b, s⟩ := t
  obtain ⟨a1, a2, b1, b2, w⟩ := ht
  dsimp only at a1 a2 b1 b2 w ⊢
  have h1 : 0 ≤ f * a := Int.mul_nonneg hf (by omega)
  have h2 : f * a ≤ 2000 * f := by
    rw [Int.mul_comm]
    exact Int.mul_le_mul_of_nonneg_right a2 hf
  unfold stp
  split
  · exact ⟨Int.ediv_nonneg h1 (by omega), by
      have := Int.ediv_le_self b h1
      omega⟩
  · split
    · have e1 : (0 - f * a) / b ≤ 0 := by
        have := Int.ediv_le_ediv (c := b) (by omega) (show 0 - f * a ≤ 0 by omega)
        simpa using this
      have e2 : -(f * a) ≤ (0 - f * a) / b := by
        rw [Int.le_ediv_iff_mul_le (by omega)]
        have := Int.mul_le_mul_of_nonneg_left b1 h1
        have e3 : -(f * a) * b = -(f * a * b) := Int.neg_mul _ _
        rw [e3]
        omega
      omega
    · have e0 : 2 * f * a = 2 * (f * a) := Int.mul_assoc _ _ _
      rw [e0]
      refine ⟨Int.ediv_nonneg (by omega) (by omega), ?_⟩
      have : (2 * (f * a) + b) / (2 * b) ≤ f * a + 1 := by
        have e : (2 * (f * a) + b) / (2 * b) < f * a + 2 := by
          rw [Int.ediv_lt_iff_lt_mul (by omega)]
          have := Int.mul_le_mul_of_nonneg_left b1 h1
          have e5 : (f * a + 2) * (2 * b) = 2 * (f * a * b) + 4 * b := by
            rw [Int.add_mul, Int.mul_left_comm]
            omega
          rw [e5]
          omega
        omega
      omega
/-- chains that may be moved along -/
def OkC (c : List St3) : Prop := ∀ t, t ∈ c → OkS t
theorem pow12 {f : Int} {e : Nat} (h0 : 0 ≤ f) (h : f < 2 ^ e) : 2000 * f + 1 < 2 ^ (e + 12) := by
  have q : (2 : Int) ^ (e + 12) = 2 ^ e * 4096 := by
    rw [Int.pow_add]
    rfl
  rw [q]
  omega
theorem pow_le {e : Nat} (h : e ≤ 180) : (2 : Int) ^ e ≤ 2 ^ 180 := by
  have q := Nat.pow_le_pow_right (n := 2) (by decide) h
  exact_mod_cast q
theorem mv_nn : ∀ (c : List St3) {f : Int} (e : Nat), OkC c → 0 ≤ f → f < 2 ^ e → 0 ≤ mv c f ∧ mv c f < 2 ^ (e + 12 * c.length)
  | [], f, e, _, h0, h1 => ⟨h0, h1⟩
  | t :: c, f, e, hc, h0, h1 => by
    have q := stp_nn (hc t (List.mem_cons_self ..)) h0
    have r := mv_nn c (f := stp t.1 t.2.1 t.2.2 f) (e + 12) (fun x hx => hc x (List.mem_cons_of_mem _ hx)) q.1 (by have := pow12 h0 h1; omega)
    have e2 : e + 12 + 12 * c.length = e + 12 * (t :: c).length := by rw [List.length_cons]; omega
    rw [e2] at r
    exact r
theorem l_moved_in (k : Nat) (x : RV) (h : AH) : ∀ (c : List St3) (f : Int) (y : Option RV) (e : Nat), OkC c → 0 ≤ f → f < 2 ^ e → e + 12 * c.length ≤ 180 →
    ∃ y', loopR (P.gd (k + 1)) (.nm 2) lb_moved_in_1 (c.map stD) [some x, some (.val (.int f)), y] h = some (.next [some x, some (.val (.int (mv c f))), y'], h)
  | [], f, y, e, _, _, _, _ => ⟨y, by rw [List.map_nil, loopR_nil]; rfl⟩
  | t :: c, f, y, e, hc, h0, h1, he => by
    rw [List.length_cons] at he
    have ht := hc t (List.mem_cons_self ..)
    have q := stp_nn ht h0
    obtain ⟨y', ih⟩ := l_moved_in k x h c (stp t.1 t.2.1 t.2.2 f) (some (.val (stD t))) (e + 12) (fun x hx => hc x (List.mem_cons_of_mem _ hx)) q.1 (by have := pow12 h0 h1; omega) (by omega)
    have hf2 : f < 2 ^ 180 := by have := pow_le (e := e) (by omega); omega
    have rs := fun h => r_stepped k t f h ht h0 hf2
    refine ⟨y', ?_⟩
    rw [List.map_cons, loopR_cons]
    simp only [lb_moved_in_1, kSl2, rs, thenM_ok, thenS_ok, nextS_next, nextS_ret, nextS_brk, nextS_cont, turnS_next, turnS_cont, turnS_brk, turnS_ret, finR_next, finR_ret, sureR_ok, slot0, slotS, conR_some, optR_some, valO_some, two_vv, tru_v, truD, ev_var, ev_cint, ev_cstr, ev_cbl, ev_cnon, ev_glo, ev_bin, ev_neg, ev_cmp, ev_chn, ev_bop, ev_b1, ev_b2, ev_nt, ev_ife, ev_tup, ev_lst, ev_lstH, ev_ix, ev_slc, ev_slcH, ev_call, ev_callP, ev_blt, ev_isi, ev_lc, ev_app, ev_dsp, ev_mth1, ev_frz, ev_a0, ev_a1, ev_c0, ev_c1, ev_o0, ev_o1, ev_iex, ev_rng1, ev_rng2, ev_enu, ev_zip, ev_gnm, ev_gtup, ev_gsub, ev_gs0, ev_gs1, intOf_i, boolOf_b, strOf_s, dataOf_d, ix_vv, slR_v, pureR_v, callR_1, callR_2, callR_3, callR_4, callR_5, blt_1, blt_2, isiR_some, viewR_v, view_v, frz_v, kE2, fBin, fCmp, negK, fNeg, kC1, kC2, kC3, kC4, kO1, kO2, kN1, kN2, kI1, kI2, tupR, lstR, lstHR, fIx, kS1, kS2, fCall, fIsi, isiD, kL, lcF, kF1, kF2, kAc, kAn, kOi, kOi2, fItems, kR1, kR3, kR4, kEn1, kEn2, kZ1, kZ2, kZ3, zipO, kG2, kG3, kNx, kSa, kSp, setR, setAll, kSg1, kSg2, kSg3, kSe, kSi1, kSi2, kSl, kRt, kA1, kA2, kM1, kM2, st_asg, st_par, st_aug, st_expr, st_ife, st_loop, st_ret, st_ret0, st_brk, st_cnt, st_pas, ss_nil, ss_cons, loopR_nil, run_fd, gd_con, gd_fn, gd_fnP, vals, itemsV, itemsD, seqD, o_add, o_sub, o_lt, o_le, o_gt, o_ge, o_isn, o_isnn, o_eqi, o_nei, o_eqs, o_nes, isNone, List.map, List.length, List.replicate, List.set, List.cons_append, List.nil_append, List.append_nil, Nat.reduceSub, Nat.reduceAdd, wipeD, Option.map_some, Option.map, Bool.not_true, Bool.not_false, reduceCtorEq, ↓reduceIte, Bool.true_eq_false, Bool.false_eq_true, decide_true, decide_false, if_true, if_false, Nat.zero_le, List.isEmpty_nil, List.isEmpty_cons, thenM_exc, thenS_exc, nextS_exc, turnS_exc, finR_exc, pureR_exc, fEqR, ev_eqR, fIsN, ev_isN, ev_isx, ev_atx, st_rai, st_try, tryS_next, tryS_ret, tryS_exc, raiS]
    exact ih
theorem r_moved_in (k : Nat) (c : List St3) (f : Int) (h : AH) (hc : OkC c) (hl : c.length ≤ 8) (h0 : 0 ≤ f) (h1 : f < 2 ^ 64) :
    run P (k + 2) "moved_in" [.val (chD c), .val (.int f)] h = some (.ok (.val (.int (mv c f))), h) := by
  obtain ⟨y, ll⟩ := l_moved_in k (.val (chD c)) h c f none 64 hc h0 h1 (by omega)
  rw [u_moved_in]
  simp only [f_moved_in, chD, thenM_ok, thenS_ok, nextS_next, nextS_ret, nextS_brk, nextS_cont, turnS_next, turnS_cont, turnS_brk, turnS_ret, finR_next, finR_ret, sureR_ok, slot0, slotS, conR_some, optR_some, valO_some, two_vv, tru_v, truD, ev_var, ev_cint, ev_cstr, ev_cbl, ev_cnon, ev_glo, ev_bin, ev_neg, ev_cmp, ev_chn, ev_bop, ev_b1, ev_b2, ev_nt, ev_ife, ev_tup, ev_lst, ev_lstH, ev_ix, ev_slc, ev_slcH, ev_call, ev_callP, ev_blt, ev_isi, ev_lc, ev_app, ev_dsp, ev_mth1, ev_frz, ev_a0, ev_a1, ev_c0, ev_c1, ev_o0, ev_o1, ev_iex, ev_rng1, ev_rng2, ev_enu, ev_zip, ev_gnm, ev_gtup, ev_gsub, ev_gs0, ev_gs1, intOf_i, boolOf_b, strOf_s, dataOf_d, ix_vv, slR_v, pureR_v, callR_1, callR_2, callR_3, callR_4, callR_5, blt_1, blt_2, isiR_some, viewR_v, view_v, frz_v, kE2, fBin, fCmp, negK, fNeg, kC1, kC2, kC3, kC4, kO1, kO2, kN1, kN2, kI1, kI2, tupR, lstR, lstHR, fIx, kS1, kS2, fCall, fIsi, isiD, kL, lcF, kF1, kF2, kAc, kAn, kOi, kOi2, fItems, kR1, kR3, kR4, kEn1, kEn2, kZ1, kZ2, kZ3, zipO, kG2, kG3, kNx, kSa, kSp, setR, setAll, kSg1, kSg2, kSg3, kSe, kSi1, kSi2, kSl, kRt, kA1, kA2, kM1, kM2, st_asg, st_par, st_aug, st_expr, st_ife, st_loop, st_ret, st_ret0, st_brk, st_cnt, st_pas, ss_nil, ss_cons, loopR_nil, run_fd, gd_con, gd_fn, gd_fnP, vals, itemsV, itemsD, seqD, o_add, o_sub, o_lt, o_le, o_gt, o_ge, o_isn, o_isnn, o_eqi, o_nei, o_eqs, o_nes, isNone, List.map, List.length, List.replicate, List.set, List.cons_append, List.nil_append, List.append_nil, Nat.reduceSub, Nat.reduceAdd, wipeD, Option.map_some, Option.map, Bool.not_true, Bool.not_false, reduceCtorEq, ↓reduceIte, Bool.true_eq_false, Bool.false_eq_true, decide_true, decide_false, if_true, if_false, Nat.zero_le, List.isEmpty_nil, List.isEmpty_cons, thenM_exc, thenS_exc, nextS_exc, turnS_exc, finR_exc, pureR_exc, fEqR, ev_eqR, fIsN, ev_isN, ev_isx, ev_atx, st_rai, st_try, tryS_next, tryS_ret, tryS_exc, raiS]
  simp only [chD] at ll
  rw [ll]
  simp only [thenM_ok, thenS_ok, nextS_next, nextS_ret, nextS_brk, nextS_cont, turnS_next, turnS_cont, turnS_brk, turnS_ret, finR_next, finR_ret, sureR_ok, slot0, slotS, conR_some, optR_some, valO_some, two_vv, tru_v, truD, ev_var, ev_cint, ev_cstr, ev_cbl, ev_cnon, ev_glo, ev_bin, ev_neg, ev_cmp, ev_chn, ev_bop, ev_b1, ev_b2, ev_nt, ev_ife, ev_tup, ev_lst, ev_lstH, ev_ix, ev_slc, ev_slcH, ev_call, ev_callP, ev_blt, ev_isi, ev_lc, ev_app, ev_dsp, ev_mth1, ev_frz, ev_a0, ev_a1, ev_c0, ev_c1, ev_o0, ev_o1, ev_iex, ev_rng1, ev_rng2, ev_enu, ev_zip, ev_gnm, ev_gtup, ev_gsub, ev_gs0, ev_gs1, intOf_i, boolOf_b, strOf_s, dataOf_d, ix_vv, slR_v, pureR_v, callR_1, callR_2, callR_3, callR_4, callR_5, blt_1, blt_2, isiR_some, viewR_v, view_v, frz_v, kE2, fBin, fCmp, negK, fNeg, kC1, kC2, kC3, kC4, kO1, kO2, kN1, kN2, kI1, kI2, tupR, lstR, lstHR, fIx, kS1, kS2, fCall, fIsi, isiD, kL, lcF, kF1, kF2, kAc, kAn, kOi, kOi2, fItems, kR1, kR3, kR4, kEn1, kEn2, kZ1, kZ2, kZ3, zipO, kG2, kG3, kNx, kSa, kSp, setR, setAll, kSg1, kSg2, kSg3, kSe, kSi1, kSi2, kSl, kRt, kA1, kA2, kM1, kM2, st_asg, st_par, st_aug, st_expr, st_ife, st_loop, st_ret, st_ret0, st_brk, st_cnt, st_pas, ss_nil, ss_cons, loopR_nil, run_fd, gd_con, gd_fn, gd_fnP, vals, itemsV, itemsD, seqD, o_add, o_sub, o_lt, o_le, o_gt, o_ge, o_isn, o_isnn, o_eqi, o_nei, o_eqs, o_nes, isNone, List.map, List.length, List.replicate, List.set, List.cons_append, List.nil_append, List.append_nil, Nat.reduceSub, Nat.reduceAdd, wipeD, Option.map_some, Option.map, Bool.not_true, Bool.not_false, reduceCtorEq, ↓reduceIte, Bool.true_eq_false, Bool.false_eq_true, decide_true, decide_false, if_true, if_false, Nat.zero_le, List.isEmpty_nil, List.isEmpty_cons, thenM_exc, thenS_exc, nextS_exc, turnS_exc, finR_exc, pureR_exc, fEqR, ev_eqR, fIsN, ev_isN, ev_isx, ev_atx, st_rai, st_try, tryS_next, tryS_ret, tryS_exc, raiS]
end L2.K79

set_option maxRecDepth 100000
set_option maxHeartbeats 1000000
namespace L2.K79
open PySem PySem.Spec PyProof.Rows L2 L2.Cap
theorem sm_of {i : Int} (h0 : 0 ≤ i) (h1 : i < 2 ^ 180) : Sm200 i := ⟨by omega, by omega⟩
theorem r_need_frame (k : Nat) (f : Int) (h : AH) (h0 : 0 ≤ f) (h1 : f ≤ 1000000000000) : run P (k + 2) "need_frame" [.val (.int f)] h = some (.ok (.val .none), h) := by
  have e : (0 ≤ f ∧ f ≤ 1000000000000) = True := eq_true ⟨h0, h1⟩
  rw [u_need_frame]
  simp only [f_need_frame, c_LAST_FRAME, r_is_whole, e, thenM_ok, thenS_ok, nextS_next, nextS_ret, nextS_brk, nextS_cont, turnS_next, turnS_cont, turnS_brk, turnS_ret, finR_next, finR_ret, sureR_ok, slot0, slotS, conR_some, optR_some, valO_some, two_vv, tru_v, truD, ev_var, ev_cint, ev_cstr, ev_cbl, ev_cnon, ev_glo, ev_bin, ev_neg, ev_cmp, ev_chn, ev_bop, ev_b1, ev_b2, ev_nt, ev_ife, ev_tup, ev_lst, ev_lstH, ev_ix, ev_slc, ev_slcH, ev_call, ev_callP, ev_blt, ev_isi, ev_lc, ev_app, ev_dsp, ev_mth1, ev_frz, ev_a0, ev_a1, ev_c0, ev_c1, ev_o0, ev_o1, ev_iex, ev_rng1, ev_rng2, ev_enu, ev_zip, ev_gnm, ev_gtup, ev_gsub, ev_gs0, ev_gs1, intOf_i, boolOf_b, strOf_s, dataOf_d, ix_vv, slR_v, pureR_v, callR_1, callR_2, callR_3, callR_4, callR_5, blt_1, blt_2, isiR_some, viewR_v, view_v, frz_v, kE2, fBin, fCmp, negK, fNeg, kC1, kC2, kC3, kC4, kO1, kO2, kN1, kN2, kI1, kI2, tupR, lstR, lstHR, fIx, kS1, kS2, fCall, fIsi, isiD, kL, lcF, kF1, kF2, kAc, kAn, kOi, kOi2, fItems, kR1, kR3, kR4, kEn1, kEn2, kZ1, kZ2, kZ3, zipO, kG2, kG3, kNx, kSa, kSp, setR, setAll, kSg1, kSg2, kSg3, kSe, kSi1, kSi2, kSl, kRt, kA1, kA2, kM1, kM2, st_asg, st_par, st_aug, st_expr, st_ife, st_loop, st_ret, st_ret0, st_brk, st_cnt, st_pas, ss_nil, ss_cons, loopR_nil, run_fd, gd_con, gd_fn, gd_fnP, vals, itemsV, itemsD, seqD, o_add, o_sub, o_lt, o_le, o_gt, o_ge, o_isn, o_isnn, o_eqi, o_nei, o_eqs, o_nes, isNone, List.map, List.length, List.replicate, List.set, List.cons_append, List.nil_append, List.append_nil, Nat.reduceSub, Nat.reduceAdd, wipeD, Option.map_some, Option.map, Bool.not_true, Bool.not_false, reduceCtorEq, ↓reduceIte, Bool.true_eq_false, Bool.false_eq_true, decide_true, decide_false, if_true, if_false, Nat.zero_le, List.isEmpty_nil, List.isEmpty_cons, thenM_exc, thenS_exc, nextS_exc, turnS_exc, finR_exc, pureR_exc, fEqR, ev_eqR, fIsN, ev_isN, ev_isx, ev_atx, st_rai, st_try, tryS_next, tryS_ret, tryS_exc, raiS]
theorem r_is_step (k : Nat) (t : St3) (h : AH) (ht : OkS t) : run P (k + 2) "is_step" [.val (stD t)] h = some (.ok (.val (.bool true)), h) := by
  obtain ⟨a, b, s⟩ := t
  obtain ⟨a1, a2, b1, b2, w⟩ := ht
  dsimp only at a1 a2 b1 b2 w ⊢
  have e1 : (1 ≤ a ∧ a ≤ 2000) = True := eq_true ⟨a1, a2⟩
  have e2 : (1 ≤ b ∧ b ≤ 2000) = True := eq_true ⟨b1, b2⟩
  rw [u_is_step]
  rcases w with rfl | rfl | rfl <;> simp only [stD, f_is_step, c_ROUNDINGS, c_MOST_RATE, n_down, n_up, n_near, r_is_whole, e1, e2, ix3_0, ix3_1, ix3_2, b_len3, thenM_ok, thenS_ok, nextS_next, nextS_ret, nextS_brk, nextS_cont, turnS_next, turnS_cont, turnS_brk, turnS_ret, finR_next, finR_ret, sureR_ok, slot0, slotS, conR_some, optR_some, valO_some, two_vv, tru_v, truD, ev_var, ev_cint, ev_cstr, ev_cbl, ev_cnon, ev_glo, ev_bin, ev_neg, ev_cmp, ev_chn, ev_bop, ev_b1, ev_b2, ev_nt, ev_ife, ev_tup, ev_lst, ev_lstH, ev_ix, ev_slc, ev_slcH, ev_call, ev_callP, ev_blt, ev_isi, ev_lc, ev_app, ev_dsp, ev_mth1, ev_frz, ev_a0, ev_a1, ev_c0, ev_c1, ev_o0, ev_o1, ev_iex, ev_rng1, ev_rng2, ev_enu, ev_zip, ev_gnm, ev_gtup, ev_gsub, ev_gs0, ev_gs1, intOf_i, boolOf_b, strOf_s, dataOf_d, ix_vv, slR_v, pureR_v, callR_1, callR_2, callR_3, callR_4, callR_5, blt_1, blt_2, isiR_some, viewR_v, view_v, frz_v, kE2, fBin, fCmp, negK, fNeg, kC1, kC2, kC3, kC4, kO1, kO2, kN1, kN2, kI1, kI2, tupR, lstR, lstHR, fIx, kS1, kS2, fCall, fIsi, isiD, kL, lcF, kF1, kF2, kAc, kAn, kOi, kOi2, fItems, kR1, kR3, kR4, kEn1, kEn2, kZ1, kZ2, kZ3, zipO, kG2, kG3, kNx, kSa, kSp, setR, setAll, kSg1, kSg2, kSg3, kSe, kSi1, kSi2, kSl, kRt, kA1, kA2, kM1, kM2, st_asg, st_par, st_aug, st_expr, st_ife, st_loop, st_ret, st_ret0, st_brk, st_cnt, st_pas, ss_nil, ss_cons, loopR_nil, run_fd, gd_con, gd_fn, gd_fnP, vals, itemsV, itemsD, seqD, o_add, o_sub, o_lt, o_le, o_gt, o_ge, o_isn, o_isnn, o_eqi, o_nei, o_eqs, o_nes, isNone, List.map, List.length, List.replicate, List.set, List.cons_append, List.nil_append, List.append_nil, Nat.reduceSub, Nat.reduceAdd, wipeD, Option.map_some, Option.map, Bool.not_true, Bool.not_false, reduceCtorEq, ↓reduceIte, Bool.true_eq_false, Bool.false_eq_true, decide_true, decide_false, if_true, if_false, Nat.zero_le, List.isEmpty_nil, List.isEmpty_cons, thenM_exc, thenS_exc, nextS_exc, turnS_exc, finR_exc, pureR_exc, fEqR, ev_eqR, fIsN, ev_isN, ev_isx, ev_atx, st_rai, st_try, tryS_next, tryS_ret, tryS_exc, raiS]
theorem o_augmul {i j : Int} (h1 : -(2 ^ 64) < i) (h2 : i < 2 ^ 64) : valO (augF .mul (.int i) (.int j)) = some (.val (.int (i * j))) := by
  show valO (if _ then _ else _) = _
  rw [if_pos (.inl ⟨h1, h2⟩)]
  rfl
theorem prB_pos : ∀ {c : List St3}, OkC c → 1 ≤ prB c
  | [], _ => by decide
  | t :: c, hc => by
    have h1 := (hc t (List.mem_cons_self ..)).b1
    have h2 := prB_pos (c := c) fun x hx => hc x (List.mem_cons_of_mem _ hx)
    have h3 : 0 < t.2.1 * prB c := Int.mul_pos (by omega) (by omega)
    show 1 ≤ t.2.1 * prB c
    omega
theorem prA_pos : ∀ {c : List St3}, OkC c → 1 ≤ prA c
  | [], _ => by decide
  | t :: c, hc => by
    have h1 := (hc t (List.mem_cons_self ..)).a1
    have h2 := prA_pos (c := c) fun x hx => hc x (List.mem_cons_of_mem _ hx)
    have h3 : 0 < t.1 * prA c := Int.mul_pos (by omega) (by omega)
    show 1 ≤ t.1 * prA c
    omega
theorem l_need_chain (k : Nat) (x : RV) (h : AH) : ∀ (c : List St3) (j : Nat) (p : Int) (y z : Option RV), OkC c → 1 ≤ p → p * prB c ≤ 100000 →
    ∃ y' z', loopR (P.gd (k + 2)) (.tup (.cons (.nm 2) (.cons (.nm 3) .nil))) lb_need_chain_1 (pairI j (c.map stD)) [some x, some (.val (.int p)), y, z] h = some (.next [some x, some (.val (.int (p * prB c))), y', z'], h)
  | [], j, p, y, z, _, _, _ => ⟨y, z, by rw [List.map_nil, pairI, loopR_nil, prB, Int.mul_one]⟩
  | t :: c, j, p, y, z, hc, h0, h1 => by
    have ht := hc t (List.mem_cons_self ..)
    have hc' : OkC c := fun x hx => hc x (List.mem_cons_of_mem _ hx)
    have hB := prB_pos hc'
    have e : p * t.2.1 * prB c = p * prB (t :: c) := by rw [prB, Int.mul_assoc]
    have hb := ht.b1
    have hp : 0 < p * t.2.1 := Int.mul_pos (by omega) (by omega)
    have hle : p * t.2.1 ≤ 100000 := by
      have q := Int.mul_le_mul_of_nonneg_left hB (show 0 ≤ p * t.2.1 by omega)
      rw [e] at q
      omega
    have hpl : p ≤ 100000 := by
      have q := Int.mul_le_mul_of_nonneg_left hb (show 0 ≤ p by omega)
      omega
    obtain ⟨y', z', ih⟩ := l_need_chain k x h c (j + 1) (p * t.2.1) (some (.val (.int j))) (some (.val (stD t))) hc' (by omega) (by rw [e]; exact h1)
    rw [e] at ih
    refine ⟨y', z', ?_⟩
    have rs := fun h => r_is_step k t h ht
    have q1 : Sm200 p := ⟨by omega, by omega⟩
    have q2 : Sm200 t.2.1 := by have := ht.b2; exact ⟨by omega, by omega⟩
    have q3 : (100000 < p * t.2.1) = False := eq_false (by omega)
    have q4 : -(2 ^ 64) < p := by omega
    have q5 : p < 2 ^ 64 := by omega
    have q6 : valO (ixD (stD t) (.int 1)) = some (.val (.int t.2.1)) := rfl
    rw [List.map_cons, pairI, loopR_cons]
    simp only [lb_need_chain_1, kSl2, rs, c_MOST_PRODUCT, o_mulS, o_augmul, q1, q2, q3, q4, q5, q6, thenM_ok, thenS_ok, nextS_next, nextS_ret, nextS_brk, nextS_cont, turnS_next, turnS_cont, turnS_brk, turnS_ret, finR_next, finR_ret, sureR_ok, slot0, slotS, conR_some, optR_some, valO_some, two_vv, tru_v, truD, ev_var, ev_cint, ev_cstr, ev_cbl, ev_cnon, ev_glo, ev_bin, ev_neg, ev_cmp, ev_chn, ev_bop, ev_b1, ev_b2, ev_nt, ev_ife, ev_tup, ev_lst, ev_lstH, ev_ix, ev_slc, ev_slcH, ev_call, ev_callP, ev_blt, ev_isi, ev_lc, ev_app, ev_dsp, ev_mth1, ev_frz, ev_a0, ev_a1, ev_c0, ev_c1, ev_o0, ev_o1, ev_iex, ev_rng1, ev_rng2, ev_enu, ev_zip, ev_gnm, ev_gtup, ev_gsub, ev_gs0, ev_gs1, intOf_i, boolOf_b, strOf_s, dataOf_d, ix_vv, slR_v, pureR_v, callR_1, callR_2, callR_3, callR_4, callR_5, blt_1, blt_2, isiR_some, viewR_v, view_v, frz_v, kE2, fBin, fCmp, negK, fNeg, kC1, kC2, kC3, kC4, kO1, kO2, kN1, kN2, kI1, kI2, tupR, lstR, lstHR, fIx, kS1, kS2, fCall, fIsi, isiD, kL, lcF, kF1, kF2, kAc, kAn, kOi, kOi2, fItems, kR1, kR3, kR4, kEn1, kEn2, kZ1, kZ2, kZ3, zipO, kG2, kG3, kNx, kSa, kSp, setR, setAll, kSg1, kSg2, kSg3, kSe, kSi1, kSi2, kSl, kRt, kA1, kA2, kM1, kM2, st_asg, st_par, st_aug, st_expr, st_ife, st_loop, st_ret, st_ret0, st_brk, st_cnt, st_pas, ss_nil, ss_cons, loopR_nil, run_fd, gd_con, gd_fn, gd_fnP, vals, itemsV, itemsD, seqD, o_add, o_sub, o_lt, o_le, o_gt, o_ge, o_isn, o_isnn, o_eqi, o_nei, o_eqs, o_nes, isNone, List.map, List.length, List.replicate, List.set, List.cons_append, List.nil_append, List.append_nil, Nat.reduceSub, Nat.reduceAdd, wipeD, Option.map_some, Option.map, Bool.not_true, Bool.not_false, reduceCtorEq, ↓reduceIte, Bool.true_eq_false, Bool.false_eq_true, decide_true, decide_false, if_true, if_false, Nat.zero_le, List.isEmpty_nil, List.isEmpty_cons, thenM_exc, thenS_exc, nextS_exc, turnS_exc, finR_exc, pureR_exc, fEqR, ev_eqR, fIsN, ev_isN, ev_isx, ev_atx, st_rai, st_try, tryS_next, tryS_ret, tryS_exc, raiS]
    exact ih
theorem r_need_chain (k : Nat) (c : List St3) (h : AH) (hc : OkC c) (hl : c.length ≤ 4) (hp : prB c ≤ 100000) : run P (k + 3) "need_chain" [.val (chD c)] h = some (.ok (.val (chD c)), h) := by
  obtain ⟨y, z, ll⟩ := l_need_chain k (.val (chD c)) h c 0 1 none none hc (by omega) (by omega)
  have e : ((4 : Int) < ((c.map stD).length : Int)) = False := eq_false (by rw [List.length_map]; omega)
  rw [u_need_chain]
  simp only [chD] at ll ⊢
  simp only [f_need_chain, c_MOST_STEPS, b_lenT, e, thenM_ok, thenS_ok, nextS_next, nextS_ret, nextS_brk, nextS_cont, turnS_next, turnS_cont, turnS_brk, turnS_ret, finR_next, finR_ret, sureR_ok, slot0, slotS, conR_some, optR_some, valO_some, two_vv, tru_v, truD, ev_var, ev_cint, ev_cstr, ev_cbl, ev_cnon, ev_glo, ev_bin, ev_neg, ev_cmp, ev_chn, ev_bop, ev_b1, ev_b2, ev_nt, ev_ife, ev_tup, ev_lst, ev_lstH, ev_ix, ev_slc, ev_slcH, ev_call, ev_callP, ev_blt, ev_isi, ev_lc, ev_app, ev_dsp, ev_mth1, ev_frz, ev_a0, ev_a1, ev_c0, ev_c1, ev_o0, ev_o1, ev_iex, ev_rng1, ev_rng2, ev_enu, ev_zip, ev_gnm, ev_gtup, ev_gsub, ev_gs0, ev_gs1, intOf_i, boolOf_b, strOf_s, dataOf_d, ix_vv, slR_v, pureR_v, callR_1, callR_2, callR_3, callR_4, callR_5, blt_1, blt_2, isiR_some, viewR_v, view_v, frz_v, kE2, fBin, fCmp, negK, fNeg, kC1, kC2, kC3, kC4, kO1, kO2, kN1, kN2, kI1, kI2, tupR, lstR, lstHR, fIx, kS1, kS2, fCall, fIsi, isiD, kL, lcF, kF1, kF2, kAc, kAn, kOi, kOi2, fItems, kR1, kR3, kR4, kEn1, kEn2, kZ1, kZ2, kZ3, zipO, kG2, kG3, kNx, kSa, kSp, setR, setAll, kSg1, kSg2, kSg3, kSe, kSi1, kSi2, kSl, kRt, kA1, kA2, kM1, kM2, st_asg, st_par, st_aug, st_expr, st_ife, st_loop, st_ret, st_ret0, st_brk, st_cnt, st_pas, ss_nil, ss_cons, loopR_nil, run_fd, gd_con, gd_fn, gd_fnP, vals, itemsV, itemsD, seqD, o_add, o_sub, o_lt, o_le, o_gt, o_ge, o_isn, o_isnn, o_eqi, o_nei, o_eqs, o_nes, isNone, List.map, List.length, List.replicate, List.set, List.cons_append, List.nil_append, List.append_nil, Nat.reduceSub, Nat.reduceAdd, wipeD, Option.map_some, Option.map, Bool.not_true, Bool.not_false, reduceCtorEq, ↓reduceIte, Bool.true_eq_false, Bool.false_eq_true, decide_true, decide_false, if_true, if_false, Nat.zero_le, List.isEmpty_nil, List.isEmpty_cons, thenM_exc, thenS_exc, nextS_exc, turnS_exc, finR_exc, pureR_exc, fEqR, ev_eqR, fIsN, ev_isN, ev_isx, ev_atx, st_rai, st_try, tryS_next, tryS_ret, tryS_exc, raiS]
  rw [ll]
  simp only [thenM_ok, thenS_ok, nextS_next, nextS_ret, nextS_brk, nextS_cont, turnS_next, turnS_cont, turnS_brk, turnS_ret, finR_next, finR_ret, sureR_ok, slot0, slotS, conR_some, optR_some, valO_some, two_vv, tru_v, truD, ev_var, ev_cint, ev_cstr, ev_cbl, ev_cnon, ev_glo, ev_bin, ev_neg, ev_cmp, ev_chn, ev_bop, ev_b1, ev_b2, ev_nt, ev_ife, ev_tup, ev_lst, ev_lstH, ev_ix, ev_slc, ev_slcH, ev_call, ev_callP, ev_blt, ev_isi, ev_lc, ev_app, ev_dsp, ev_mth1, ev_frz, ev_a0, ev_a1, ev_c0, ev_c1, ev_o0, ev_o1, ev_iex, ev_rng1, ev_rng2, ev_enu, ev_zip, ev_gnm, ev_gtup, ev_gsub, ev_gs0, ev_gs1, intOf_i, boolOf_b, strOf_s, dataOf_d, ix_vv, slR_v, pureR_v, callR_1, callR_2, callR_3, callR_4, callR_5, blt_1, blt_2, isiR_some, viewR_v, view_v, frz_v, kE2, fBin, fCmp, negK, fNeg, kC1, kC2, kC3, kC4, kO1, kO2, kN1, kN2, kI1, kI2, tupR, lstR, lstHR, fIx, kS1, kS2, fCall, fIsi, isiD, kL, lcF, kF1, kF2, kAc, kAn, kOi, kOi2, fItems, kR1, kR3, kR4, kEn1, kEn2, kZ1, kZ2, kZ3, zipO, kG2, kG3, kNx, kSa, kSp, setR, setAll, kSg1, kSg2, kSg3, kSe, kSi1, kSi2, kSl, kRt, kA1, kA2, kM1, kM2, st_asg, st_par, st_aug, st_expr, st_ife, st_loop, st_ret, st_ret0, st_brk, st_cnt, st_pas, ss_nil, ss_cons, loopR_nil, run_fd, gd_con, gd_fn, gd_fnP, vals, itemsV, itemsD, seqD, o_add, o_sub, o_lt, o_le, o_gt, o_ge, o_isn, o_isnn, o_eqi, o_nei, o_eqs, o_nes, isNone, List.map, List.length, List.replicate, List.set, List.cons_append, List.nil_append, List.append_nil, Nat.reduceSub, Nat.reduceAdd, wipeD, Option.map_some, Option.map, Bool.not_true, Bool.not_false, reduceCtorEq, ↓reduceIte, Bool.true_eq_false, Bool.false_eq_true, decide_true, decide_false, if_true, if_false, Nat.zero_le, List.isEmpty_nil, List.isEmpty_cons, thenM_exc, thenS_exc, nextS_exc, turnS_exc, finR_exc, pureR_exc, fEqR, ev_eqR, fIsN, ev_isN, ev_isx, ev_atx, st_rai, st_try, tryS_next, tryS_ret, tryS_exc, raiS]
theorem r_moved (k : Nat) (c : List St3) (f : Int) (h : AH) (hc : OkC c) (hl : c.length ≤ 4) (hp : prB c ≤ 100000) (h0 : 0 ≤ f) (h1 : f ≤ 1000000000000) : run P (k + 4) "moved" [.val (chD c), .val (.int f)] h = some (.ok (.val (.int (mv c f))), h) := by
  have e1 := fun h => r_need_chain k c h hc hl hp
  have e2 := fun h => r_need_frame (k + 1) f h h0 h1
  have e3 := fun h => r_moved_in (k + 1) c f h hc (by omega) h0 (by omega)
  rw [u_moved]
  simp only [f_moved, e1, e2, e3, thenM_ok, thenS_ok, nextS_next, nextS_ret, nextS_brk, nextS_cont, turnS_next, turnS_cont, turnS_brk, turnS_ret, finR_next, finR_ret, sureR_ok, slot0, slotS, conR_some, optR_some, valO_some, two_vv, tru_v, truD, ev_var, ev_cint, ev_cstr, ev_cbl, ev_cnon, ev_glo, ev_bin, ev_neg, ev_cmp, ev_chn, ev_bop, ev_b1, ev_b2, ev_nt, ev_ife, ev_tup, ev_lst, ev_lstH, ev_ix, ev_slc, ev_slcH, ev_call, ev_callP, ev_blt, ev_isi, ev_lc, ev_app, ev_dsp, ev_mth1, ev_frz, ev_a0, ev_a1, ev_c0, ev_c1, ev_o0, ev_o1, ev_iex, ev_rng1, ev_rng2, ev_enu, ev_zip, ev_gnm, ev_gtup, ev_gsub, ev_gs0, ev_gs1, intOf_i, boolOf_b, strOf_s, dataOf_d, ix_vv, slR_v, pureR_v, callR_1, callR_2, callR_3, callR_4, callR_5, blt_1, blt_2, isiR_some, viewR_v, view_v, frz_v, kE2, fBin, fCmp, negK, fNeg, kC1, kC2, kC3, kC4, kO1, kO2, kN1, kN2, kI1, kI2, tupR, lstR, lstHR, fIx, kS1, kS2, fCall, fIsi, isiD, kL, lcF, kF1, kF2, kAc, kAn, kOi, kOi2, fItems, kR1, kR3, kR4, kEn1, kEn2, kZ1, kZ2, kZ3, zipO, kG2, kG3, kNx, kSa, kSp, setR, setAll, kSg1, kSg2, kSg3, kSe, kSi1, kSi2, kSl, kRt, kA1, kA2, kM1, kM2, st_asg, st_par, st_aug, st_expr, st_ife, st_loop, st_ret, st_ret0, st_brk, st_cnt, st_pas, ss_nil, ss_cons, loopR_nil, run_fd, gd_con, gd_fn, gd_fnP, vals, itemsV, itemsD, seqD, o_add, o_sub, o_lt, o_le, o_gt, o_ge, o_isn, o_isnn, o_eqi, o_nei, o_eqs, o_nes, isNone, List.map, List.length, List.replicate, List.set, List.cons_append, List.nil_append, List.append_nil, Nat.reduceSub, Nat.reduceAdd, wipeD, Option.map_some, Option.map, Bool.not_true, Bool.not_false, reduceCtorEq, ↓reduceIte, Bool.true_eq_false, Bool.false_eq_true, decide_true, decide_false, if_true, if_false, Nat.zero_le, List.isEmpty_nil, List.isEmpty_cons, thenM_exc, thenS_exc, nextS_exc, turnS_exc, finR_exc, pureR_exc, fEqR, ev_eqR, fIsN, ev_isN, ev_isx, ev_atx, st_rai, st_try, tryS_next, tryS_ret, tryS_exc, raiS]
theorem l_products (k : Nat) (x : RV) (h : AH) : ∀ (c : List St3) (A B : Int) (y : Option RV) (e : Nat), OkC c → 0 ≤ A → A < 2 ^ e → 0 ≤ B → B < 2 ^ e → e + 12 * c.length ≤ 180 →
    ∃ y', loopR (P.gd k) (.nm 1) lb_products_1 (c.map stD) [some x, y, some (.val (.int A)), some (.val (.int B))] h = some (.next [some x, y', some (.val (.int (A * prA c))), some (.val (.int (B * prB c)))], h)
  | [], A, B, y, e, _, _, _, _, _, _ => ⟨y, by rw [List.map_nil, loopR_nil, prA, prB, Int.mul_one, Int.mul_one]⟩
  | t :: c, A, B, y, e, hc, a0, a1, b0, b1, he => by
    rw [List.length_cons] at he
    have ht := hc t (List.mem_cons_self ..)
    have A1 : 0 ≤ A * t.1 := Int.mul_nonneg a0 (by have := ht.a1; omega)
    have B1 : 0 ≤ B * t.2.1 := Int.mul_nonneg b0 (by have := ht.b1; omega)
    have A2 : A * t.1 ≤ 2000 * A := by rw [Int.mul_comm]; exact Int.mul_le_mul_of_nonneg_right ht.a2 a0
    have B2 : B * t.2.1 ≤ 2000 * B := by rw [Int.mul_comm]; exact Int.mul_le_mul_of_nonneg_right ht.b2 b0
    obtain ⟨y', ih⟩ := l_products k x h c (A * t.1) (B * t.2.1) (some (.val (stD t))) (e + 12) (fun x hx => hc x (List.mem_cons_of_mem _ hx)) A1 (by have := pow12 a0 a1; omega) B1 (by have := pow12 b0 b1; omega) (by omega)
    have hp := pow_le (e := e) (by omega)
    have q1 : Sm200 A := sm_of a0 (by omega)
    have q2 : Sm200 B := sm_of b0 (by omega)
    have q3 : Sm200 t.1 := by have := ht.a1; have := ht.a2; exact ⟨by omega, by omega⟩
    have q4 : Sm200 t.2.1 := by have := ht.b1; have := ht.b2; exact ⟨by omega, by omega⟩
    have q5 : valO (ixD (stD t) (.int 0)) = some (.val (.int t.1)) := rfl
    have q6 : valO (ixD (stD t) (.int 1)) = some (.val (.int t.2.1)) := rfl
    refine ⟨y', ?_⟩
    rw [List.map_cons, loopR_cons]
    simp only [lb_products_1, kSl2, o_mulS, q1, q2, q3, q4, q5, q6, thenM_ok, thenS_ok, nextS_next, nextS_ret, nextS_brk, nextS_cont, turnS_next, turnS_cont, turnS_brk, turnS_ret, finR_next, finR_ret, sureR_ok, slot0, slotS, conR_some, optR_some, valO_some, two_vv, tru_v, truD, ev_var, ev_cint, ev_cstr, ev_cbl, ev_cnon, ev_glo, ev_bin, ev_neg, ev_cmp, ev_chn, ev_bop, ev_b1, ev_b2, ev_nt, ev_ife, ev_tup, ev_lst, ev_lstH, ev_ix, ev_slc, ev_slcH, ev_call, ev_callP, ev_blt, ev_isi, ev_lc, ev_app, ev_dsp, ev_mth1, ev_frz, ev_a0, ev_a1, ev_c0, ev_c1, ev_o0, ev_o1, ev_iex, ev_rng1, ev_rng2, ev_enu, ev_zip, ev_gnm, ev_gtup, ev_gsub, ev_gs0, ev_gs1, intOf_i, boolOf_b, strOf_s, dataOf_d, ix_vv, slR_v, pureR_v, callR_1, callR_2, callR_3, callR_4, callR_5, blt_1, blt_2, isiR_some, viewR_v, view_v, frz_v, kE2, fBin, fCmp, negK, fNeg, kC1, kC2, kC3, kC4, kO1, kO2, kN1, kN2, kI1, kI2, tupR, lstR, lstHR, fIx, kS1, kS2, fCall, fIsi, isiD, kL, lcF, kF1, kF2, kAc, kAn, kOi, kOi2, fItems, kR1, kR3, kR4, kEn1, kEn2, kZ1, kZ2, kZ3, zipO, kG2, kG3, kNx, kSa, kSp, setR, setAll, kSg1, kSg2, kSg3, kSe, kSi1, kSi2, kSl, kRt, kA1, kA2, kM1, kM2, st_asg, st_par, st_aug, st_expr, st_ife, st_loop, st_ret, st_ret0, st_brk, st_cnt, st_pas, ss_nil, ss_cons, loopR_nil, run_fd, gd_con, gd_fn, gd_fnP, vals, itemsV, itemsD, seqD, o_add, o_sub, o_lt, o_le, o_gt, o_ge, o_isn, o_isnn, o_eqi, o_nei, o_eqs, o_nes, isNone, List.map, List.length, List.replicate, List.set, List.cons_append, List.nil_append, List.append_nil, Nat.reduceSub, Nat.reduceAdd, wipeD, Option.map_some, Option.map, Bool.not_true, Bool.not_false, reduceCtorEq, ↓reduceIte, Bool.true_eq_false, Bool.false_eq_true, decide_true, decide_false, if_true, if_false, Nat.zero_le, List.isEmpty_nil, List.isEmpty_cons, thenM_exc, thenS_exc, nextS_exc, turnS_exc, finR_exc, pureR_exc, fEqR, ev_eqR, fIsN, ev_isN, ev_isx, ev_atx, st_rai, st_try, tryS_next, tryS_ret, tryS_exc, raiS]
    rw [prA, prB, ← Int.mul_assoc, ← Int.mul_assoc]
    exact ih
theorem r_products (k : Nat) (c : List St3) (h : AH) (hc : OkC c) (hl : c.length ≤ 8) : run P (k + 1) "products" [.val (chD c)] h = some (.ok (.val (.tuple [.int (prA c), .int (prB c)])), h) := by
  obtain ⟨y, ll⟩ := l_products k (.val (chD c)) h c 1 1 none 64 hc (by omega) (by omega) (by omega) (by omega) (by omega)
  have e : (2 : Nat) ≤ sizeLine := by decide
  rw [Int.one_mul, Int.one_mul] at ll
  rw [u_products]
  simp only [chD] at ll ⊢
  simp only [f_products, e, Nat.reduceLeDiff, thenM_ok, thenS_ok, nextS_next, nextS_ret, nextS_brk, nextS_cont, turnS_next, turnS_cont, turnS_brk, turnS_ret, finR_next, finR_ret, sureR_ok, slot0, slotS, conR_some, optR_some, valO_some, two_vv, tru_v, truD, ev_var, ev_cint, ev_cstr, ev_cbl, ev_cnon, ev_glo, ev_bin, ev_neg, ev_cmp, ev_chn, ev_bop, ev_b1, ev_b2, ev_nt, ev_ife, ev_tup, ev_lst, ev_lstH, ev_ix, ev_slc, ev_slcH, ev_call, ev_callP, ev_blt, ev_isi, ev_lc, ev_app, ev_dsp, ev_mth1, ev_frz, ev_a0, ev_a1, ev_c0, ev_c1, ev_o0, ev_o1, ev_iex, ev_rng1, ev_rng2, ev_enu, ev_zip, ev_gnm, ev_gtup, ev_gsub, ev_gs0, ev_gs1, intOf_i, boolOf_b, strOf_s, dataOf_d, ix_vv, slR_v, pureR_v, callR_1, callR_2, callR_3, callR_4, callR_5, blt_1, blt_2, isiR_some, viewR_v, view_v, frz_v, kE2, fBin, fCmp, negK, fNeg, kC1, kC2, kC3, kC4, kO1, kO2, kN1, kN2, kI1, kI2, tupR, lstR, lstHR, fIx, kS1, kS2, fCall, fIsi, isiD, kL, lcF, kF1, kF2, kAc, kAn, kOi, kOi2, fItems, kR1, kR3, kR4, kEn1, kEn2, kZ1, kZ2, kZ3, zipO, kG2, kG3, kNx, kSa, kSp, setR, setAll, kSg1, kSg2, kSg3, kSe, kSi1, kSi2, kSl, kRt, kA1, kA2, kM1, kM2, st_asg, st_par, st_aug, st_expr, st_ife, st_loop, st_ret, st_ret0, st_brk, st_cnt, st_pas, ss_nil, ss_cons, loopR_nil, run_fd, gd_con, gd_fn, gd_fnP, vals, itemsV, itemsD, seqD, o_add, o_sub, o_lt, o_le, o_gt, o_ge, o_isn, o_isnn, o_eqi, o_nei, o_eqs, o_nes, isNone, List.map, List.length, List.replicate, List.set, List.cons_append, List.nil_append, List.append_nil, Nat.reduceSub, Nat.reduceAdd, wipeD, Option.map_some, Option.map, Bool.not_true, Bool.not_false, reduceCtorEq, ↓reduceIte, Bool.true_eq_false, Bool.false_eq_true, decide_true, decide_false, if_true, if_false, Nat.zero_le, List.isEmpty_nil, List.isEmpty_cons, thenM_exc, thenS_exc, nextS_exc, turnS_exc, finR_exc, pureR_exc, fEqR, ev_eqR, fIsN, ev_isN, ev_isx, ev_atx, st_rai, st_try, tryS_next, tryS_ret, tryS_exc, raiS]
  rw [ll]
  simp only [e, thenM_ok, thenS_ok, nextS_next, nextS_ret, nextS_brk, nextS_cont, turnS_next, turnS_cont, turnS_brk, turnS_ret, finR_next, finR_ret, sureR_ok, slot0, slotS, conR_some, optR_some, valO_some, two_vv, tru_v, truD, ev_var, ev_cint, ev_cstr, ev_cbl, ev_cnon, ev_glo, ev_bin, ev_neg, ev_cmp, ev_chn, ev_bop, ev_b1, ev_b2, ev_nt, ev_ife, ev_tup, ev_lst, ev_lstH, ev_ix, ev_slc, ev_slcH, ev_call, ev_callP, ev_blt, ev_isi, ev_lc, ev_app, ev_dsp, ev_mth1, ev_frz, ev_a0, ev_a1, ev_c0, ev_c1, ev_o0, ev_o1, ev_iex, ev_rng1, ev_rng2, ev_enu, ev_zip, ev_gnm, ev_gtup, ev_gsub, ev_gs0, ev_gs1, intOf_i, boolOf_b, strOf_s, dataOf_d, ix_vv, slR_v, pureR_v, callR_1, callR_2, callR_3, callR_4, callR_5, blt_1, blt_2, isiR_some, viewR_v, view_v, frz_v, kE2, fBin, fCmp, negK, fNeg, kC1, kC2, kC3, kC4, kO1, kO2, kN1, kN2, kI1, kI2, tupR, lstR, lstHR, fIx, kS1, kS2, fCall, fIsi, isiD, kL, lcF, kF1, kF2, kAc, kAn, kOi, kOi2, fItems, kR1, kR3, kR4, kEn1, kEn2, kZ1, kZ2, kZ3, zipO, kG2, kG3, kNx, kSa, kSp, setR, setAll, kSg1, kSg2, kSg3, kSe, kSi1, kSi2, kSl, kRt, kA1, kA2, kM1, kM2, st_asg, st_par, st_aug, st_expr, st_ife, st_loop, st_ret, st_ret0, st_brk, st_cnt, st_pas, ss_nil, ss_cons, loopR_nil, run_fd, gd_con, gd_fn, gd_fnP, vals, itemsV, itemsD, seqD, o_add, o_sub, o_lt, o_le, o_gt, o_ge, o_isn, o_isnn, o_eqi, o_nei, o_eqs, o_nes, isNone, List.map, List.length, List.replicate, List.set, List.cons_append, List.nil_append, List.append_nil, Nat.reduceSub, Nat.reduceAdd, wipeD, Option.map_some, Option.map, Bool.not_true, Bool.not_false, reduceCtorEq, ↓reduceIte, Bool.true_eq_false, Bool.false_eq_true, decide_true, decide_false, if_true, if_false, Nat.zero_le, List.isEmpty_nil, List.isEmpty_cons, thenM_exc, thenS_exc, nextS_exc, turnS_exc, finR_exc, pureR_exc, fEqR, ev_eqR, fIsN, ev_isN, ev_isx, ev_atx, st_rai, st_try, tryS_next, tryS_ret, tryS_exc, raiS]
def eu : Nat → Int → Int → Int
  | 0, a, _ => a
  | n + 1, a, b => if b = 0 then a else eu n b (a % b)
theorem l_common (k : Nat) (h : AH) : ∀ (n : Nat) (a b : Int), 0 ≤ b → b < n → whileR (P.gd k) wc_common_1 wb_common_1 n [some (.val (.int a)), some (.val (.int b))] h = some (.next [some (.val (.int (eu n a b))), some (.val (.int 0))], h)
  | 0, a, b, h0, h1 => by omega
  | n + 1, a, b, h0, h1 => by
    rw [whileR_succ]
    by_cases e : b = 0
    · subst e
      simp only [wc_common_1, kW1, kW2, eu, thenM_ok, thenS_ok, nextS_next, nextS_ret, nextS_brk, nextS_cont, turnS_next, turnS_cont, turnS_brk, turnS_ret, finR_next, finR_ret, sureR_ok, slot0, slotS, conR_some, optR_some, valO_some, two_vv, tru_v, truD, ev_var, ev_cint, ev_cstr, ev_cbl, ev_cnon, ev_glo, ev_bin, ev_neg, ev_cmp, ev_chn, ev_bop, ev_b1, ev_b2, ev_nt, ev_ife, ev_tup, ev_lst, ev_lstH, ev_ix, ev_slc, ev_slcH, ev_call, ev_callP, ev_blt, ev_isi, ev_lc, ev_app, ev_dsp, ev_mth1, ev_frz, ev_a0, ev_a1, ev_c0, ev_c1, ev_o0, ev_o1, ev_iex, ev_rng1, ev_rng2, ev_enu, ev_zip, ev_gnm, ev_gtup, ev_gsub, ev_gs0, ev_gs1, intOf_i, boolOf_b, strOf_s, dataOf_d, ix_vv, slR_v, pureR_v, callR_1, callR_2, callR_3, callR_4, callR_5, blt_1, blt_2, isiR_some, viewR_v, view_v, frz_v, kE2, fBin, fCmp, negK, fNeg, kC1, kC2, kC3, kC4, kO1, kO2, kN1, kN2, kI1, kI2, tupR, lstR, lstHR, fIx, kS1, kS2, fCall, fIsi, isiD, kL, lcF, kF1, kF2, kAc, kAn, kOi, kOi2, fItems, kR1, kR3, kR4, kEn1, kEn2, kZ1, kZ2, kZ3, zipO, kG2, kG3, kNx, kSa, kSp, setR, setAll, kSg1, kSg2, kSg3, kSe, kSi1, kSi2, kSl, kRt, kA1, kA2, kM1, kM2, st_asg, st_par, st_aug, st_expr, st_ife, st_loop, st_ret, st_ret0, st_brk, st_cnt, st_pas, ss_nil, ss_cons, loopR_nil, run_fd, gd_con, gd_fn, gd_fnP, vals, itemsV, itemsD, seqD, o_add, o_sub, o_lt, o_le, o_gt, o_ge, o_isn, o_isnn, o_eqi, o_nei, o_eqs, o_nes, isNone, List.map, List.length, List.replicate, List.set, List.cons_append, List.nil_append, List.append_nil, Nat.reduceSub, Nat.reduceAdd, wipeD, Option.map_some, Option.map, Bool.not_true, Bool.not_false, reduceCtorEq, ↓reduceIte, Bool.true_eq_false, Bool.false_eq_true, decide_true, decide_false, if_true, if_false, Nat.zero_le, List.isEmpty_nil, List.isEmpty_cons, thenM_exc, thenS_exc, nextS_exc, turnS_exc, finR_exc, pureR_exc, fEqR, ev_eqR, fIsN, ev_isN, ev_isx, ev_atx, st_rai, st_try, tryS_next, tryS_ret, tryS_exc, raiS]
    · have p : 0 < b := by omega
      have ih := l_common k h n b (a % b) (Int.emod_nonneg a e) (by have := Int.emod_lt_of_pos a p; omega)
      simp only [wc_common_1, wb_common_1, kW1, kW2, eu, e, p, o_mod, b_int, thenM_ok, thenS_ok, nextS_next, nextS_ret, nextS_brk, nextS_cont, turnS_next, turnS_cont, turnS_brk, turnS_ret, finR_next, finR_ret, sureR_ok, slot0, slotS, conR_some, optR_some, valO_some, two_vv, tru_v, truD, ev_var, ev_cint, ev_cstr, ev_cbl, ev_cnon, ev_glo, ev_bin, ev_neg, ev_cmp, ev_chn, ev_bop, ev_b1, ev_b2, ev_nt, ev_ife, ev_tup, ev_lst, ev_lstH, ev_ix, ev_slc, ev_slcH, ev_call, ev_callP, ev_blt, ev_isi, ev_lc, ev_app, ev_dsp, ev_mth1, ev_frz, ev_a0, ev_a1, ev_c0, ev_c1, ev_o0, ev_o1, ev_iex, ev_rng1, ev_rng2, ev_enu, ev_zip, ev_gnm, ev_gtup, ev_gsub, ev_gs0, ev_gs1, intOf_i, boolOf_b, strOf_s, dataOf_d, ix_vv, slR_v, pureR_v, callR_1, callR_2, callR_3, callR_4, callR_5, blt_1, blt_2, isiR_some, viewR_v, view_v, frz_v, kE2, fBin, fCmp, negK, fNeg, kC1, kC2, kC3, kC4, kO1, kO2, kN1, kN2, kI1, kI2, tupR, lstR, lstHR, fIx, kS1, kS2, fCall, fIsi, isiD, kL, lcF, kF1, kF2, kAc, kAn, kOi, kOi2, fItems, kR1, kR3, kR4, kEn1, kEn2, kZ1, kZ2, kZ3, zipO, kG2, kG3, kNx, kSa, kSp, setR, setAll, kSg1, kSg2, kSg3, kSe, kSi1, kSi2, kSl, kRt, kA1, kA2, kM1, kM2, st_asg, st_par, st_aug, st_expr, st_ife, st_loop, st_ret, st_ret0, st_brk, st_cnt, st_pas, ss_nil, ss_cons, loopR_nil, run_fd, gd_con, gd_fn, gd_fnP, vals, itemsV, itemsD, seqD, o_add, o_sub, o_lt, o_le, o_gt, o_ge, o_isn, o_isnn, o_eqi, o_nei, o_eqs, o_nes, isNone, List.map, List.length, List.replicate, List.set, List.cons_append, List.nil_append, List.append_nil, Nat.reduceSub, Nat.reduceAdd, wipeD, Option.map_some, Option.map, Bool.not_true, Bool.not_false, reduceCtorEq, ↓reduceIte, Bool.true_eq_false, Bool.false_eq_true, decide_true, decide_false, if_true, if_false, Nat.zero_le, List.isEmpty_nil, List.isEmpty_cons, thenM_exc, thenS_exc, nextS_exc, turnS_exc, finR_exc, pureR_exc, fEqR, ev_eqR, fIsN, ev_isN, ev_isx, ev_atx, st_rai, st_try, tryS_next, tryS_ret, tryS_exc, raiS]
      exact ih
theorem eu_pos : ∀ (n : Nat) (a b M : Int), 0 < a → a ≤ M → 0 ≤ b → b ≤ M → 0 < eu n a b ∧ eu n a b ≤ M
  | 0, a, b, M, h1, h2, _, _ => ⟨h1, h2⟩
  | n + 1, a, b, M, h1, h2, h3, h4 => by
    unfold eu
    split
    · exact ⟨h1, h2⟩
    · have p : 0 < b := by omega
      exact eu_pos n b (a % b) M p h4 (Int.emod_nonneg a (by omega)) (by have := Int.emod_lt_of_pos a p; omega)
theorem r_common (k : Nat) (a b : Int) (h : AH) (h0 : 0 ≤ b) (h1 : b ≤ 100000) : run P (k + 1) "common" [.val (.int a), .val (.int b)] h = some (.ok (.val (.int (eu fuelW a b))), h) := by
  have ll := l_common k h fuelW a b h0 (by show b < (1000000 : Nat); omega)
  rw [u_common]
  simp only [f_common, st_whl, thenM_ok, thenS_ok, nextS_next, nextS_ret, nextS_brk, nextS_cont, turnS_next, turnS_cont, turnS_brk, turnS_ret, finR_next, finR_ret, sureR_ok, slot0, slotS, conR_some, optR_some, valO_some, two_vv, tru_v, truD, ev_var, ev_cint, ev_cstr, ev_cbl, ev_cnon, ev_glo, ev_bin, ev_neg, ev_cmp, ev_chn, ev_bop, ev_b1, ev_b2, ev_nt, ev_ife, ev_tup, ev_lst, ev_lstH, ev_ix, ev_slc, ev_slcH, ev_call, ev_callP, ev_blt, ev_isi, ev_lc, ev_app, ev_dsp, ev_mth1, ev_frz, ev_a0, ev_a1, ev_c0, ev_c1, ev_o0, ev_o1, ev_iex, ev_rng1, ev_rng2, ev_enu, ev_zip, ev_gnm, ev_gtup, ev_gsub, ev_gs0, ev_gs1, intOf_i, boolOf_b, strOf_s, dataOf_d, ix_vv, slR_v, pureR_v, callR_1, callR_2, callR_3, callR_4, callR_5, blt_1, blt_2, isiR_some, viewR_v, view_v, frz_v, kE2, fBin, fCmp, negK, fNeg, kC1, kC2, kC3, kC4, kO1, kO2, kN1, kN2, kI1, kI2, tupR, lstR, lstHR, fIx, kS1, kS2, fCall, fIsi, isiD, kL, lcF, kF1, kF2, kAc, kAn, kOi, kOi2, fItems, kR1, kR3, kR4, kEn1, kEn2, kZ1, kZ2, kZ3, zipO, kG2, kG3, kNx, kSa, kSp, setR, setAll, kSg1, kSg2, kSg3, kSe, kSi1, kSi2, kSl, kRt, kA1, kA2, kM1, kM2, st_asg, st_par, st_aug, st_expr, st_ife, st_loop, st_ret, st_ret0, st_brk, st_cnt, st_pas, ss_nil, ss_cons, loopR_nil, run_fd, gd_con, gd_fn, gd_fnP, vals, itemsV, itemsD, seqD, o_add, o_sub, o_lt, o_le, o_gt, o_ge, o_isn, o_isnn, o_eqi, o_nei, o_eqs, o_nes, isNone, List.map, List.length, List.replicate, List.set, List.cons_append, List.nil_append, List.append_nil, Nat.reduceSub, Nat.reduceAdd, wipeD, Option.map_some, Option.map, Bool.not_true, Bool.not_false, reduceCtorEq, ↓reduceIte, Bool.true_eq_false, Bool.false_eq_true, decide_true, decide_false, if_true, if_false, Nat.zero_le, List.isEmpty_nil, List.isEmpty_cons, thenM_exc, thenS_exc, nextS_exc, turnS_exc, finR_exc, pureR_exc, fEqR, ev_eqR, fIsN, ev_isN, ev_isx, ev_atx, st_rai, st_try, tryS_next, tryS_ret, tryS_exc, raiS]
  rw [ll]
  simp only [thenM_ok, thenS_ok, nextS_next, nextS_ret, nextS_brk, nextS_cont, turnS_next, turnS_cont, turnS_brk, turnS_ret, finR_next, finR_ret, sureR_ok, slot0, slotS, conR_some, optR_some, valO_some, two_vv, tru_v, truD, ev_var, ev_cint, ev_cstr, ev_cbl, ev_cnon, ev_glo, ev_bin, ev_neg, ev_cmp, ev_chn, ev_bop, ev_b1, ev_b2, ev_nt, ev_ife, ev_tup, ev_lst, ev_lstH, ev_ix, ev_slc, ev_slcH, ev_call, ev_callP, ev_blt, ev_isi, ev_lc, ev_app, ev_dsp, ev_mth1, ev_frz, ev_a0, ev_a1, ev_c0, ev_c1, ev_o0, ev_o1, ev_iex, ev_rng1, ev_rng2, ev_enu, ev_zip, ev_gnm, ev_gtup, ev_gsub, ev_gs0, ev_gs1, intOf_i, boolOf_b, strOf_s, dataOf_d, ix_vv, slR_v, pureR_v, callR_1, callR_2, callR_3, callR_4, callR_5, blt_1, blt_2, isiR_some, viewR_v, view_v, frz_v, kE2, fBin, fCmp, negK, fNeg, kC1, kC2, kC3, kC4, kO1, kO2, kN1, kN2, kI1, kI2, tupR, lstR, lstHR, fIx, kS1, kS2, fCall, fIsi, isiD, kL, lcF, kF1, kF2, kAc, kAn, kOi, kOi2, fItems, kR1, kR3, kR4, kEn1, kEn2, kZ1, kZ2, kZ3, zipO, kG2, kG3, kNx, kSa, kSp, setR, setAll, kSg1, kSg2, kSg3, kSe, kSi1, kSi2, kSl, kRt, kA1, kA2, kM1, kM2, st_asg, st_par, st_aug, st_expr, st_ife, st_loop, st_ret, st_ret0, st_brk, st_cnt, st_pas, ss_nil, ss_cons, loopR_nil, run_fd, gd_con, gd_fn, gd_fnP, vals, itemsV, itemsD, seqD, o_add, o_sub, o_lt, o_le, o_gt, o_ge, o_isn, o_isnn, o_eqi, o_nei, o_eqs, o_nes, isNone, List.map, List.length, List.replicate, List.set, List.cons_append, List.nil_append, List.append_nil, Nat.reduceSub, Nat.reduceAdd, wipeD, Option.map_some, Option.map, Bool.not_true, Bool.not_false, reduceCtorEq, ↓reduceIte, Bool.true_eq_false, Bool.false_eq_true, decide_true, decide_false, if_true, if_false, Nat.zero_le, List.isEmpty_nil, List.isEmpty_cons, thenM_exc, thenS_exc, nextS_exc, turnS_exc, finR_exc, pureR_exc, fEqR, ev_eqR, fIsN, ev_isN, ev_isx, ev_atx, st_rai, st_try, tryS_next, tryS_ret, tryS_exc, raiS]
end L2.K79

set_option maxRecDepth 100000
set_option maxHeartbeats 2000000
namespace L2.K79
open PySem PySem.Spec PyProof.Rows L2 L2.Cap
theorem prA_lt : ∀ {c : List St3}, OkC c → prA c < 2 ^ (1 + 12 * c.length)
  | [], _ => by decide
  | t :: c, hc => by
    have hc' : OkC c := fun x hx => hc x (List.mem_cons_of_mem _ hx)
    have h1 := hc t (List.mem_cons_self ..)
    have h2 := prA_lt hc'
    have h3 := prA_pos hc'
    have h4 := pow12 (by omega) h2
    have h5 := Int.mul_le_mul_of_nonneg_right h1.a2 (show 0 ≤ prA c by omega)
    have e2 : 1 + 12 * c.length + 12 = 1 + 12 * (t :: c).length := by rw [List.length_cons]; omega
    rw [e2] at h4
    show t.1 * prA c < _
    omega
structure Good4 (c : List St3) : Prop where
  ok : OkC c
  len : c.length ≤ 4
  prod : prB c ≤ 100000
theorem Good4.a {c : List St3} (g : Good4 c) : 1 ≤ prA c ∧ prA c < 2 ^ 64 := by
  refine ⟨prA_pos g.ok, ?_⟩
  have h := prA_lt g.ok
  have q : (2 : Int) ^ (1 + 12 * c.length) ≤ 2 ^ 49 := by
    have hl := g.len
    have r := Nat.pow_le_pow_right (n := 2) (by decide) (show 1 + 12 * c.length ≤ 49 by omega)
    exact_mod_cast r
  omega
theorem Good4.b {c : List St3} (g : Good4 c) : 1 ≤ prB c ∧ prB c ≤ 100000 := ⟨prB_pos g.ok, g.prod⟩
abbrev gc (c : List St3) : Int := eu fuelW (prA c) (prB c)
theorem Good4.g {c : List St3} (g : Good4 c) : 0 < gc c ∧ gc c < 2 ^ 64 := by
  have h := eu_pos fuelW (prA c) (prB c) (2 ^ 64 - 1) (by have := g.a; omega) (by have := g.a; omega) (by have := g.b; omega) (by have := g.b; omega)
  have h2 : gc c ≤ 2 ^ 64 - 1 := h.2
  exact ⟨h.1, by omega⟩
theorem two_le : (2 : Nat) ≤ sizeLine := by decide
theorem r_slope (k : Nat) (c : List St3) (h : AH) (g : Good4 c) : run P (k + 4) "slope" [.val (chD c)] h = some (.ok (.val (.tuple [.int (prA c / gc c), .int (prB c / gc c)])), h) := by
  have e1 := fun h => r_need_chain k c h g.ok g.len g.prod
  have e2 := fun h => r_products (k + 2) c h g.ok (by have := g.len; omega)
  have e3 := fun h => r_common (k + 2) (prA c) (prB c) h (by have := g.b; omega) g.prod
  have q1 : 0 < gc c := g.g.1
  have q2 : Sm200 (gc c) := ⟨by have := g.g; omega, by have := g.g; omega⟩
  rw [u_slope]
  simp only [f_slope, e1, e2, e3, o_fdivS, q1, q2, two_le, thenM_ok, thenS_ok, nextS_next, nextS_ret, nextS_brk, nextS_cont, turnS_next, turnS_cont, turnS_brk, turnS_ret, finR_next, finR_ret, sureR_ok, slot0, slotS, conR_some, optR_some, valO_some, two_vv, tru_v, truD, ev_var, ev_cint, ev_cstr, ev_cbl, ev_cnon, ev_glo, ev_bin, ev_neg, ev_cmp, ev_chn, ev_bop, ev_b1, ev_b2, ev_nt, ev_ife, ev_tup, ev_lst, ev_lstH, ev_ix, ev_slc, ev_slcH, ev_call, ev_callP, ev_blt, ev_isi, ev_lc, ev_app, ev_dsp, ev_mth1, ev_frz, ev_a0, ev_a1, ev_c0, ev_c1, ev_o0, ev_o1, ev_iex, ev_rng1, ev_rng2, ev_enu, ev_zip, ev_gnm, ev_gtup, ev_gsub, ev_gs0, ev_gs1, intOf_i, boolOf_b, strOf_s, dataOf_d, ix_vv, slR_v, pureR_v, callR_1, callR_2, callR_3, callR_4, callR_5, blt_1, blt_2, isiR_some, viewR_v, view_v, frz_v, kE2, fBin, fCmp, negK, fNeg, kC1, kC2, kC3, kC4, kO1, kO2, kN1, kN2, kI1, kI2, tupR, lstR, lstHR, fIx, kS1, kS2, fCall, fIsi, isiD, kL, lcF, kF1, kF2, kAc, kAn, kOi, kOi2, fItems, kR1, kR3, kR4, kEn1, kEn2, kZ1, kZ2, kZ3, zipO, kG2, kG3, kNx, kSa, kSp, setR, setAll, kSg1, kSg2, kSg3, kSe, kSi1, kSi2, kSl, kRt, kA1, kA2, kM1, kM2, st_asg, st_par, st_aug, st_expr, st_ife, st_loop, st_ret, st_ret0, st_brk, st_cnt, st_pas, ss_nil, ss_cons, loopR_nil, run_fd, gd_con, gd_fn, gd_fnP, vals, itemsV, itemsD, seqD, o_add, o_sub, o_lt, o_le, o_gt, o_ge, o_isn, o_isnn, o_eqi, o_nei, o_eqs, o_nes, isNone, List.map, List.length, List.replicate, List.set, List.cons_append, List.nil_append, List.append_nil, Nat.reduceSub, Nat.reduceAdd, wipeD, Option.map_some, Option.map, Bool.not_true, Bool.not_false, reduceCtorEq, ↓reduceIte, Bool.true_eq_false, Bool.false_eq_true, decide_true, decide_false, if_true, if_false, Nat.zero_le, List.isEmpty_nil, List.isEmpty_cons, thenM_exc, thenS_exc, nextS_exc, turnS_exc, finR_exc, pureR_exc, fEqR, ev_eqR, fIsN, ev_isN, ev_isx, ev_atx, st_rai, st_try, tryS_next, tryS_ret, tryS_exc, raiS]
/-! values in a row -/
def findM (p : Int → Bool) : Int → Nat → Option Int
  | _, 0 => none
  | j, n + 1 => if p j = true then some j else findM p (j + 1) n
theorem findM_some {p : Int → Bool} : ∀ {n : Nat} {j m : Int}, findM p j n = some m → j ≤ m ∧ m < j + n ∧ p m = true ∧ ∀ i, j ≤ i → i < m → p i = false
  | 0, j, m, h => by cases h
  | n + 1, j, m, h => by
    unfold findM at h
    split at h
    · cases h
      exact ⟨by omega, by omega, by assumption, fun i h1 h2 => by omega⟩
    · rename_i hp
      obtain ⟨h1, h2, h3, h4⟩ := findM_some h
      refine ⟨by omega, by omega, h3, fun i i1 i2 => ?_⟩
      by_cases e : i = j
      · subst e; simpa using hp
      · exact h4 i (by omega) i2
theorem findM_none {p : Int → Bool} : ∀ {n : Nat} {j : Int}, findM p j n = none → ∀ i, j ≤ i → i < j + n → p i = false
  | 0, j, h, i, h1, h2 => by omega
  | n + 1, j, h, i, h1, h2 => by
    unfold findM at h
    split at h
    · cases h
    · rename_i hp
      by_cases e : i = j
      · subst e; simpa using hp
      · exact findM_none h i (by omega) (by omega)
theorem findM_is {p : Int → Bool} {n : Nat} {j m : Int} (h1 : j ≤ m) (h2 : m < j + n) (h3 : p m = true) (h4 : ∀ i, j ≤ i → i < m → p i = false) : findM p j n = some m := by
  cases e : findM p j n with
  | none => rw [findM_none e m h1 h2] at h3; cases h3
  | some m' =>
    obtain ⟨a1, a2, a3, a4⟩ := findM_some e
    by_cases l : m' < m
    · rw [h4 m' a1 l] at a3; cases a3
    · by_cases l2 : m < m'
      · rw [a4 m h1 l2] at h3; cases h3
      · have : m' = m := by omega
        rw [this]
theorem stp_per (t : St3) (ht : 0 < t.2.1) (f q : Int) : stp t.1 t.2.1 t.2.2 (f + t.2.1 * q) = stp t.1 t.2.1 t.2.2 f + t.1 * q := by
  obtain ⟨a, b, s⟩ := t
  dsimp only at ht ⊢
  have e : (f + b * q) * a = f * a + b * (a * q) := by
    rw [Int.add_mul, Int.mul_assoc, Int.mul_comm q a]
  unfold stp
  split
  · rw [e, Int.add_mul_ediv_left _ _ (by omega)]
  · split
    · have e2 : 0 - (f * a + b * (a * q)) = (0 - f * a) + b * (-(a * q)) := by rw [Int.mul_neg]; omega
      rw [e, e2, Int.add_mul_ediv_left _ _ (by omega)]
      omega
    · have e3 : 2 * (f + b * q) * a + b = (2 * f * a + b) + 2 * b * (a * q) := by
        rw [Int.mul_assoc, e, Int.mul_add, Int.mul_assoc 2 f a, Int.mul_assoc 2 b]
        omega
      rw [e3, Int.add_mul_ediv_left _ _ (by omega)]
theorem mv_per : ∀ (c : List St3), OkC c → ∀ f q : Int, mv c (f + prB c * q) = mv c f + prA c * q
  | [], _, f, q => by simp [mv, prA, prB]
  | t :: c, hc, f, q => by
    have ht := hc t (List.mem_cons_self ..)
    have ih := mv_per c (fun x hx => hc x (List.mem_cons_of_mem _ hx))
    show mv c (stp t.1 t.2.1 t.2.2 (f + t.2.1 * prB c * q)) = mv c (stp t.1 t.2.1 t.2.2 f) + t.1 * prA c * q
    rw [Int.mul_assoc, stp_per t (by have := ht.b1; omega), show t.1 * (prB c * q) = prB c * (t.1 * q) by rw [Int.mul_left_comm], ih]
    rw [show t.1 * prA c * q = prA c * (t.1 * q) by rw [Int.mul_comm t.1, Int.mul_assoc]]
theorem sd {a b f g : Int} (hb : 0 < b) : stp a b "down" f = g ↔ b * g ≤ f * a ∧ f * a < b * g + b := by
  show f * a / b = g ↔ _
  constructor
  · rintro rfl
    have e := Int.emod_add_mul_ediv (f * a) b
    have := Int.emod_nonneg (f * a) (show b ≠ 0 by omega)
    have := Int.emod_lt_of_pos (f * a) hb
    omega
  · rintro ⟨h1, h2⟩
    have e : f * a = (f * a - b * g) + b * g := by omega
    rw [e, Int.add_mul_ediv_left _ _ (by omega), Int.ediv_eq_zero_of_lt (by omega) (by omega)]
    omega
theorem su {a b f g : Int} (hb : 0 < b) : stp a b "up" f = g ↔ f * a ≤ b * g ∧ b * g < f * a + b := by
  have q : stp a b "up" f = 0 - (0 - f * a) / b := by
    unfold stp
    rw [if_neg (by rw [d1]; exact id), if_pos rfl]
  rw [q]
  constructor
  · rintro rfl
    have e := Int.emod_add_mul_ediv (0 - f * a) b
    have := Int.emod_nonneg (0 - f * a) (show b ≠ 0 by omega)
    have := Int.emod_lt_of_pos (0 - f * a) hb
    rw [Int.mul_sub, Int.mul_zero]
    omega
  · rintro ⟨h1, h2⟩
    have e : 0 - f * a = (b * g - f * a) + b * (-g) := by rw [Int.mul_neg]; omega
    rw [e, Int.add_mul_ediv_left _ _ (by omega), Int.ediv_eq_zero_of_lt (by omega) (by omega)]
    omega
theorem sn {a b f g : Int} (hb : 0 < b) : stp a b "near" f = g ↔ 2 * (b * g) ≤ 2 * (f * a) + b ∧ 2 * (f * a) + b < 2 * (b * g) + 2 * b := by
  have q : stp a b "near" f = (2 * f * a + b) / (2 * b) := by
    unfold stp
    rw [if_neg (by rw [d2]; exact id), if_neg (by rw [d3]; exact id)]
  rw [q, Int.mul_assoc 2 f a]
  constructor
  · rintro rfl
    have e := Int.emod_add_mul_ediv (2 * (f * a) + b) (2 * b)
    have := Int.emod_nonneg (2 * (f * a) + b) (show 2 * b ≠ 0 by omega)
    have := Int.emod_lt_of_pos (2 * (f * a) + b) (show 0 < 2 * b by omega)
    rw [Int.mul_assoc 2 b] at e
    omega
  · rintro ⟨h1, h2⟩
    have e : 2 * (f * a) + b = (2 * (f * a) + b - 2 * (b * g)) + 2 * b * g := by rw [Int.mul_assoc]; omega
    rw [e, Int.add_mul_ediv_left _ _ (by omega), Int.ediv_eq_zero_of_lt (by omega) (by omega)]
    omega
theorem mulc (a b : Int) : a * b = b * a := Int.mul_comm a b
theorem stp_0 {a b : Int} (hb : 0 < b) {w : Str} (hw : Word w) : stp a b w 0 = 0 := by
  rcases hw with rfl | rfl | rfl
  · rw [sd hb]; simp; omega
  · rw [su hb]; simp; omega
  · rw [sn hb]; simp; omega
theorem line_ge : 500000 ≤ sizeLine := by decide
theorem eu_dvd : ∀ (n : Nat) (a b : Int), 0 ≤ b → b < n → eu n a b ∣ a ∧ eu n a b ∣ b
  | 0, a, b, h0, h1 => by omega
  | n + 1, a, b, h0, h1 => by
    unfold eu
    split
    · rename_i e
      rw [e]
      exact ⟨Int.dvd_refl a, Int.dvd_zero a⟩
    · have p : 0 < b := by omega
      have ih := eu_dvd n b (a % b) (Int.emod_nonneg a (by omega)) (by have := Int.emod_lt_of_pos a p; omega)
      refine ⟨?_, ih.1⟩
      have e := Int.emod_add_mul_ediv a b
      have q := Int.dvd_add ih.2 (Int.dvd_trans ih.1 (Int.dvd_mul_right b (a / b)))
      rw [e] at q
      exact q
/-! ### where two chains part -/
def prt (c e : List St3) (f : Int) : Bool := decide (mv c f ≠ mv e f)
def whl (c e : List St3) : Int := prB c / eu fuelW (prB c) (prB e) * prB e
def apO (c e : List St3) : Option Int := findM (prt c e) 0 (whl c e + 1).toNat
def apD : Option Int → PyData
  | some m => .int m
  | none => .none
structure Two (c e : List St3) : Prop where
  g : Good4 c
  g' : Good4 e
  le : prB c * prB e ≤ 100000
theorem whl_is {c e : List St3} (t : Two c e) : ∃ x y : Int, whl c e = prB c * y ∧ whl c e = prB e * x ∧ 1 ≤ x ∧ 1 ≤ y ∧ 1 ≤ whl c e ∧ whl c e ≤ prB c * prB e := by
  have hb := t.g.b
  have hb' := t.g'.b
  have gp := eu_pos fuelW (prB c) (prB e) 100000 (by omega) (by omega) (by omega) (by omega)
  obtain ⟨⟨x, hx⟩, ⟨y, hy⟩⟩ := eu_dvd fuelW (prB c) (prB e) (by omega) (by show prB e < (1000000 : Nat); omega)
  unfold whl
  generalize eu fuelW (prB c) (prB e) = g at *
  have e1 : prB c / g = x := by rw [hx]; exact Int.mul_ediv_cancel_left x (by omega)
  have x1 : 1 ≤ x := by
    have : 0 < g * x := by omega
    have := Int.pos_of_mul_pos_right this (by omega)
    omega
  have y1 : 1 ≤ y := by
    have : 0 < g * y := by omega
    have := Int.pos_of_mul_pos_right this (by omega)
    omega
  have m1 : 1 * 1 ≤ x * prB e := Int.mul_le_mul x1 (by omega) (by omega) (by omega)
  have m2 : 1 * x ≤ g * x := Int.mul_le_mul_of_nonneg_right (by omega) (by omega)
  have m3 : x * prB e ≤ prB c * prB e := Int.mul_le_mul_of_nonneg_right (by omega) (by omega)
  rw [e1]
  refine ⟨x, y, ?_, Int.mul_comm _ _, x1, y1, by omega, m3⟩
  rw [hx]
  rw [hy, ← Int.mul_assoc, Int.mul_comm x g]
theorem l_apart (k : Nat) (c e : List St3) (h : AH) (g : Good4 c) (g' : Good4 e) (w : Option RV) : ∀ (n : Nat) (j : Int) (z : Option RV), 0 ≤ j → j + n ≤ 2 ^ 40 →
    (findM (prt c e) j n = none → ∃ z', loopR (P.gd (k + 2)) (.nm 3) lb_apart_in_1 (rngL j n) [some (.val (chD c)), some (.val (chD e)), w, z] h = some (.next [some (.val (chD c)), some (.val (chD e)), w, z'], h)) ∧
    (∀ m, findM (prt c e) j n = some m → loopR (P.gd (k + 2)) (.nm 3) lb_apart_in_1 (rngL j n) [some (.val (chD c)), some (.val (chD e)), w, z] h = some (.ret (.val (.int m)), h))
  | 0, j, z, _, _ => ⟨fun _ => ⟨z, rfl⟩, fun m e => by cases e⟩
  | n + 1, j, z, h0, h1 => by
    have ih := l_apart k c e h g g' w n (j + 1) (some (.val (.int j))) (by omega) (by omega)
    have e1 := fun h => r_moved_in k c j h g.ok (by have := g.len; omega) h0 (by omega)
    have e2 := fun h => r_moved_in k e j h g'.ok (by have := g'.len; omega) h0 (by omega)
    rw [findM, rngL, loopR_cons]
    by_cases q : mv c j = mv e j
    · have p : prt c e j = false := by simp [prt, q]
      have e' : (mv c j = mv e j) = True := eq_true q
      rw [p, if_neg Bool.false_ne_true]
      refine ⟨fun q => ?_, fun m q => ?_⟩
      · obtain ⟨z', r⟩ := ih.1 q
        refine ⟨z', ?_⟩
        simp only [lb_apart_in_1, kSl2, e1, e2, e', thenM_ok, thenS_ok, nextS_next, nextS_ret, nextS_brk, nextS_cont, turnS_next, turnS_cont, turnS_brk, turnS_ret, finR_next, finR_ret, sureR_ok, slot0, slotS, conR_some, optR_some, valO_some, two_vv, tru_v, truD, ev_var, ev_cint, ev_cstr, ev_cbl, ev_cnon, ev_glo, ev_bin, ev_neg, ev_cmp, ev_chn, ev_bop, ev_b1, ev_b2, ev_nt, ev_ife, ev_tup, ev_lst, ev_lstH, ev_ix, ev_slc, ev_slcH, ev_call, ev_callP, ev_blt, ev_isi, ev_lc, ev_app, ev_dsp, ev_mth1, ev_frz, ev_a0, ev_a1, ev_c0, ev_c1, ev_o0, ev_o1, ev_iex, ev_rng1, ev_rng2, ev_enu, ev_zip, ev_gnm, ev_gtup, ev_gsub, ev_gs0, ev_gs1, intOf_i, boolOf_b, strOf_s, dataOf_d, ix_vv, slR_v, pureR_v, callR_1, callR_2, callR_3, callR_4, callR_5, blt_1, blt_2, isiR_some, viewR_v, view_v, frz_v, kE2, fBin, fCmp, negK, fNeg, kC1, kC2, kC3, kC4, kO1, kO2, kN1, kN2, kI1, kI2, tupR, lstR, lstHR, fIx, kS1, kS2, fCall, fIsi, isiD, kL, lcF, kF1, kF2, kAc, kAn, kOi, kOi2, fItems, kR1, kR3, kR4, kEn1, kEn2, kZ1, kZ2, kZ3, zipO, kG2, kG3, kNx, kSa, kSp, setR, setAll, kSg1, kSg2, kSg3, kSe, kSi1, kSi2, kSl, kRt, kA1, kA2, kM1, kM2, st_asg, st_par, st_aug, st_expr, st_ife, st_loop, st_ret, st_ret0, st_brk, st_cnt, st_pas, ss_nil, ss_cons, loopR_nil, run_fd, gd_con, gd_fn, gd_fnP, vals, itemsV, itemsD, seqD, o_add, o_sub, o_lt, o_le, o_gt, o_ge, o_isn, o_isnn, o_eqi, o_nei, o_eqs, o_nes, isNone, List.map, List.length, List.replicate, List.set, List.cons_append, List.nil_append, List.append_nil, Nat.reduceSub, Nat.reduceAdd, wipeD, Option.map_some, Option.map, Bool.not_true, Bool.not_false, reduceCtorEq, ↓reduceIte, Bool.true_eq_false, Bool.false_eq_true, decide_true, decide_false, if_true, if_false, Nat.zero_le, List.isEmpty_nil, List.isEmpty_cons, thenM_exc, thenS_exc, nextS_exc, turnS_exc, finR_exc, pureR_exc, fEqR, ev_eqR, fIsN, ev_isN, ev_isx, ev_atx, st_rai, st_try, tryS_next, tryS_ret, tryS_exc, raiS]
        exact r
      · have r := ih.2 m q
        simp only [lb_apart_in_1, kSl2, e1, e2, e', thenM_ok, thenS_ok, nextS_next, nextS_ret, nextS_brk, nextS_cont, turnS_next, turnS_cont, turnS_brk, turnS_ret, finR_next, finR_ret, sureR_ok, slot0, slotS, conR_some, optR_some, valO_some, two_vv, tru_v, truD, ev_var, ev_cint, ev_cstr, ev_cbl, ev_cnon, ev_glo, ev_bin, ev_neg, ev_cmp, ev_chn, ev_bop, ev_b1, ev_b2, ev_nt, ev_ife, ev_tup, ev_lst, ev_lstH, ev_ix, ev_slc, ev_slcH, ev_call, ev_callP, ev_blt, ev_isi, ev_lc, ev_app, ev_dsp, ev_mth1, ev_frz, ev_a0, ev_a1, ev_c0, ev_c1, ev_o0, ev_o1, ev_iex, ev_rng1, ev_rng2, ev_enu, ev_zip, ev_gnm, ev_gtup, ev_gsub, ev_gs0, ev_gs1, intOf_i, boolOf_b, strOf_s, dataOf_d, ix_vv, slR_v, pureR_v, callR_1, callR_2, callR_3, callR_4, callR_5, blt_1, blt_2, isiR_some, viewR_v, view_v, frz_v, kE2, fBin, fCmp, negK, fNeg, kC1, kC2, kC3, kC4, kO1, kO2, kN1, kN2, kI1, kI2, tupR, lstR, lstHR, fIx, kS1, kS2, fCall, fIsi, isiD, kL, lcF, kF1, kF2, kAc, kAn, kOi, kOi2, fItems, kR1, kR3, kR4, kEn1, kEn2, kZ1, kZ2, kZ3, zipO, kG2, kG3, kNx, kSa, kSp, setR, setAll, kSg1, kSg2, kSg3, kSe, kSi1, kSi2, kSl, kRt, kA1, kA2, kM1, kM2, st_asg, st_par, st_aug, st_expr, st_ife, st_loop, st_ret, st_ret0, st_brk, st_cnt, st_pas, ss_nil, ss_cons, loopR_nil, run_fd, gd_con, gd_fn, gd_fnP, vals, itemsV, itemsD, seqD, o_add, o_sub, o_lt, o_le, o_gt, o_ge, o_isn, o_isnn, o_eqi, o_nei, o_eqs, o_nes, isNone, List.map, List.length, List.replicate, List.set, List.cons_append, List.nil_append, List.append_nil, Nat.reduceSub, Nat.reduceAdd, wipeD, Option.map_some, Option.map, Bool.not_true, Bool.not_false, reduceCtorEq, ↓reduceIte, Bool.true_eq_false, Bool.false_eq_true, decide_true, decide_false, if_true, if_false, Nat.zero_le, List.isEmpty_nil, List.isEmpty_cons, thenM_exc, thenS_exc, nextS_exc, turnS_exc, finR_exc, pureR_exc, fEqR, ev_eqR, fIsN, ev_isN, ev_isx, ev_atx, st_rai, st_try, tryS_next, tryS_ret, tryS_exc, raiS]
        exact r
    · have p : prt c e j = true := by simp [prt, q]
      have e' : (mv c j = mv e j) = False := eq_false q
      rw [p, if_pos rfl]
      refine ⟨fun q => (by cases q), fun m q => ?_⟩
      cases q
      simp only [lb_apart_in_1, kSl2, e1, e2, e', thenM_ok, thenS_ok, nextS_next, nextS_ret, nextS_brk, nextS_cont, turnS_next, turnS_cont, turnS_brk, turnS_ret, finR_next, finR_ret, sureR_ok, slot0, slotS, conR_some, optR_some, valO_some, two_vv, tru_v, truD, ev_var, ev_cint, ev_cstr, ev_cbl, ev_cnon, ev_glo, ev_bin, ev_neg, ev_cmp, ev_chn, ev_bop, ev_b1, ev_b2, ev_nt, ev_ife, ev_tup, ev_lst, ev_lstH, ev_ix, ev_slc, ev_slcH, ev_call, ev_callP, ev_blt, ev_isi, ev_lc, ev_app, ev_dsp, ev_mth1, ev_frz, ev_a0, ev_a1, ev_c0, ev_c1, ev_o0, ev_o1, ev_iex, ev_rng1, ev_rng2, ev_enu, ev_zip, ev_gnm, ev_gtup, ev_gsub, ev_gs0, ev_gs1, intOf_i, boolOf_b, strOf_s, dataOf_d, ix_vv, slR_v, pureR_v, callR_1, callR_2, callR_3, callR_4, callR_5, blt_1, blt_2, isiR_some, viewR_v, view_v, frz_v, kE2, fBin, fCmp, negK, fNeg, kC1, kC2, kC3, kC4, kO1, kO2, kN1, kN2, kI1, kI2, tupR, lstR, lstHR, fIx, kS1, kS2, fCall, fIsi, isiD, kL, lcF, kF1, kF2, kAc, kAn, kOi, kOi2, fItems, kR1, kR3, kR4, kEn1, kEn2, kZ1, kZ2, kZ3, zipO, kG2, kG3, kNx, kSa, kSp, setR, setAll, kSg1, kSg2, kSg3, kSe, kSi1, kSi2, kSl, kRt, kA1, kA2, kM1, kM2, st_asg, st_par, st_aug, st_expr, st_ife, st_loop, st_ret, st_ret0, st_brk, st_cnt, st_pas, ss_nil, ss_cons, loopR_nil, run_fd, gd_con, gd_fn, gd_fnP, vals, itemsV, itemsD, seqD, o_add, o_sub, o_lt, o_le, o_gt, o_ge, o_isn, o_isnn, o_eqi, o_nei, o_eqs, o_nes, isNone, List.map, List.length, List.replicate, List.set, List.cons_append, List.nil_append, List.append_nil, Nat.reduceSub, Nat.reduceAdd, wipeD, Option.map_some, Option.map, Bool.not_true, Bool.not_false, reduceCtorEq, ↓reduceIte, Bool.true_eq_false, Bool.false_eq_true, decide_true, decide_false, if_true, if_false, Nat.zero_le, List.isEmpty_nil, List.isEmpty_cons, thenM_exc, thenS_exc, nextS_exc, turnS_exc, finR_exc, pureR_exc, fEqR, ev_eqR, fIsN, ev_isN, ev_isx, ev_atx, st_rai, st_try, tryS_next, tryS_ret, tryS_exc, raiS]
theorem r_apart_in (k : Nat) (c e : List St3) (h : AH) (t : Two c e) : run P (k + 3) "apart_in" [.val (chD c), .val (chD e)] h = some (.ok (.val (apD (apO c e))), h) := by
  have hb := t.g.b
  have hb' := t.g'.b
  obtain ⟨x, y, w1, w2, x1, y1, wp, wl⟩ := whl_is t
  have tl := t.le
  have gp := eu_pos fuelW (prB c) (prB e) 100000 (by omega) (by omega) (by omega) (by omega)
  have e1 := fun h => r_products (k + 1) c h t.g.ok (by have := t.g.len; omega)
  have e2 := fun h => r_products (k + 1) e h t.g'.ok (by have := t.g'.len; omega)
  have e3 := fun h => r_common (k + 1) (prB c) (prB e) h (by omega) (by omega)
  have q1 : 0 < eu fuelW (prB c) (prB e) := gp.1
  have q2 : Sm200 (eu fuelW (prB c) (prB e)) := ⟨by omega, by omega⟩
  have q3 : Sm200 (prB c / eu fuelW (prB c) (prB e)) := by
    have := Int.ediv_nonneg (show 0 ≤ prB c by omega) (show 0 ≤ eu fuelW (prB c) (prB e) by omega)
    have := Int.ediv_le_self (eu fuelW (prB c) (prB e)) (show 0 ≤ prB c by omega)
    exact ⟨by omega, by omega⟩
  have q4 : Sm200 (prB e) := ⟨by omega, by omega⟩
  have ew : prB c / eu fuelW (prB c) (prB e) * prB e = whl c e := rfl
  have q5 : (100000 < whl c e) = False := eq_false (by omega)
  have q6 : (-(2 ^ 62) ≤ whl c e + 1 ∧ whl c e + 1 < 2 ^ 62) := ⟨by omega, by omega⟩
  rw [u_apart_in]
  have ll := l_apart k c e h t.g t.g' (some (.val (.int (whl c e)))) (whl c e + 1).toNat 0 none (by omega) (by omega)
  simp only [f_apart_in, e1, e2, e3, o_fdivS, o_mulS, ix2_1, q1, q2, q3, q4, ew, q5, q6, c_MOST_PRODUCT, and_self, kR2, thenM_ok, thenS_ok, nextS_next, nextS_ret, nextS_brk, nextS_cont, turnS_next, turnS_cont, turnS_brk, turnS_ret, finR_next, finR_ret, sureR_ok, slot0, slotS, conR_some, optR_some, valO_some, two_vv, tru_v, truD, ev_var, ev_cint, ev_cstr, ev_cbl, ev_cnon, ev_glo, ev_bin, ev_neg, ev_cmp, ev_chn, ev_bop, ev_b1, ev_b2, ev_nt, ev_ife, ev_tup, ev_lst, ev_lstH, ev_ix, ev_slc, ev_slcH, ev_call, ev_callP, ev_blt, ev_isi, ev_lc, ev_app, ev_dsp, ev_mth1, ev_frz, ev_a0, ev_a1, ev_c0, ev_c1, ev_o0, ev_o1, ev_iex, ev_rng1, ev_rng2, ev_enu, ev_zip, ev_gnm, ev_gtup, ev_gsub, ev_gs0, ev_gs1, intOf_i, boolOf_b, strOf_s, dataOf_d, ix_vv, slR_v, pureR_v, callR_1, callR_2, callR_3, callR_4, callR_5, blt_1, blt_2, isiR_some, viewR_v, view_v, frz_v, kE2, fBin, fCmp, negK, fNeg, kC1, kC2, kC3, kC4, kO1, kO2, kN1, kN2, kI1, kI2, tupR, lstR, lstHR, fIx, kS1, kS2, fCall, fIsi, isiD, kL, lcF, kF1, kF2, kAc, kAn, kOi, kOi2, fItems, kR1, kR3, kR4, kEn1, kEn2, kZ1, kZ2, kZ3, zipO, kG2, kG3, kNx, kSa, kSp, setR, setAll, kSg1, kSg2, kSg3, kSe, kSi1, kSi2, kSl, kRt, kA1, kA2, kM1, kM2, st_asg, st_par, st_aug, st_expr, st_ife, st_loop, st_ret, st_ret0, st_brk, st_cnt, st_pas, ss_nil, ss_cons, loopR_nil, run_fd, gd_con, gd_fn, gd_fnP, vals, itemsV, itemsD, seqD, o_add, o_sub, o_lt, o_le, o_gt, o_ge, o_isn, o_isnn, o_eqi, o_nei, o_eqs, o_nes, isNone, List.map, List.length, List.replicate, List.set, List.cons_append, List.nil_append, List.append_nil, Nat.reduceSub, Nat.reduceAdd, wipeD, Option.map_some, Option.map, Bool.not_true, Bool.not_false, reduceCtorEq, ↓reduceIte, Bool.true_eq_false, Bool.false_eq_true, decide_true, decide_false, if_true, if_false, Nat.zero_le, List.isEmpty_nil, List.isEmpty_cons, thenM_exc, thenS_exc, nextS_exc, turnS_exc, finR_exc, pureR_exc, fEqR, ev_eqR, fIsN, ev_isN, ev_isx, ev_atx, st_rai, st_try, tryS_next, tryS_ret, tryS_exc, raiS]
  unfold apO
  cases q : findM (prt c e) 0 (whl c e + 1).toNat with
  | none =>
    obtain ⟨z', r⟩ := ll.1 q
    rw [r]
    simp only [apD, thenM_ok, thenS_ok, nextS_next, nextS_ret, nextS_brk, nextS_cont, turnS_next, turnS_cont, turnS_brk, turnS_ret, finR_next, finR_ret, sureR_ok, slot0, slotS, conR_some, optR_some, valO_some, two_vv, tru_v, truD, ev_var, ev_cint, ev_cstr, ev_cbl, ev_cnon, ev_glo, ev_bin, ev_neg, ev_cmp, ev_chn, ev_bop, ev_b1, ev_b2, ev_nt, ev_ife, ev_tup, ev_lst, ev_lstH, ev_ix, ev_slc, ev_slcH, ev_call, ev_callP, ev_blt, ev_isi, ev_lc, ev_app, ev_dsp, ev_mth1, ev_frz, ev_a0, ev_a1, ev_c0, ev_c1, ev_o0, ev_o1, ev_iex, ev_rng1, ev_rng2, ev_enu, ev_zip, ev_gnm, ev_gtup, ev_gsub, ev_gs0, ev_gs1, intOf_i, boolOf_b, strOf_s, dataOf_d, ix_vv, slR_v, pureR_v, callR_1, callR_2, callR_3, callR_4, callR_5, blt_1, blt_2, isiR_some, viewR_v, view_v, frz_v, kE2, fBin, fCmp, negK, fNeg, kC1, kC2, kC3, kC4, kO1, kO2, kN1, kN2, kI1, kI2, tupR, lstR, lstHR, fIx, kS1, kS2, fCall, fIsi, isiD, kL, lcF, kF1, kF2, kAc, kAn, kOi, kOi2, fItems, kR1, kR3, kR4, kEn1, kEn2, kZ1, kZ2, kZ3, zipO, kG2, kG3, kNx, kSa, kSp, setR, setAll, kSg1, kSg2, kSg3, kSe, kSi1, kSi2, kSl, kRt, kA1, kA2, kM1, kM2, st_asg, st_par, st_aug, st_expr, st_ife, st_loop, st_ret, st_ret0, st_brk, st_cnt, st_pas, ss_nil, ss_cons, loopR_nil, run_fd, gd_con, gd_fn, gd_fnP, vals, itemsV, itemsD, seqD, o_add, o_sub, o_lt, o_le, o_gt, o_ge, o_isn, o_isnn, o_eqi, o_nei, o_eqs, o_nes, isNone, List.map, List.length, List.replicate, List.set, List.cons_append, List.nil_append, List.append_nil, Nat.reduceSub, Nat.reduceAdd, wipeD, Option.map_some, Option.map, Bool.not_true, Bool.not_false, reduceCtorEq, ↓reduceIte, Bool.true_eq_false, Bool.false_eq_true, decide_true, decide_false, if_true, if_false, Nat.zero_le, List.isEmpty_nil, List.isEmpty_cons, thenM_exc, thenS_exc, nextS_exc, turnS_exc, finR_exc, pureR_exc, fEqR, ev_eqR, fIsN, ev_isN, ev_isx, ev_atx, st_rai, st_try, tryS_next, tryS_ret, tryS_exc, raiS]
  | some m =>
    rw [ll.2 m q]
    simp only [apD, thenM_ok, thenS_ok, nextS_next, nextS_ret, nextS_brk, nextS_cont, turnS_next, turnS_cont, turnS_brk, turnS_ret, finR_next, finR_ret, sureR_ok, slot0, slotS, conR_some, optR_some, valO_some, two_vv, tru_v, truD, ev_var, ev_cint, ev_cstr, ev_cbl, ev_cnon, ev_glo, ev_bin, ev_neg, ev_cmp, ev_chn, ev_bop, ev_b1, ev_b2, ev_nt, ev_ife, ev_tup, ev_lst, ev_lstH, ev_ix, ev_slc, ev_slcH, ev_call, ev_callP, ev_blt, ev_isi, ev_lc, ev_app, ev_dsp, ev_mth1, ev_frz, ev_a0, ev_a1, ev_c0, ev_c1, ev_o0, ev_o1, ev_iex, ev_rng1, ev_rng2, ev_enu, ev_zip, ev_gnm, ev_gtup, ev_gsub, ev_gs0, ev_gs1, intOf_i, boolOf_b, strOf_s, dataOf_d, ix_vv, slR_v, pureR_v, callR_1, callR_2, callR_3, callR_4, callR_5, blt_1, blt_2, isiR_some, viewR_v, view_v, frz_v, kE2, fBin, fCmp, negK, fNeg, kC1, kC2, kC3, kC4, kO1, kO2, kN1, kN2, kI1, kI2, tupR, lstR, lstHR, fIx, kS1, kS2, fCall, fIsi, isiD, kL, lcF, kF1, kF2, kAc, kAn, kOi, kOi2, fItems, kR1, kR3, kR4, kEn1, kEn2, kZ1, kZ2, kZ3, zipO, kG2, kG3, kNx, kSa, kSp, setR, setAll, kSg1, kSg2, kSg3, kSe, kSi1, kSi2, kSl, kRt, kA1, kA2, kM1, kM2, st_asg, st_par, st_aug, st_expr, st_ife, st_loop, st_ret, st_ret0, st_brk, st_cnt, st_pas, ss_nil, ss_cons, loopR_nil, run_fd, gd_con, gd_fn, gd_fnP, vals, itemsV, itemsD, seqD, o_add, o_sub, o_lt, o_le, o_gt, o_ge, o_isn, o_isnn, o_eqi, o_nei, o_eqs, o_nes, isNone, List.map, List.length, List.replicate, List.set, List.cons_append, List.nil_append, List.append_nil, Nat.reduceSub, Nat.reduceAdd, wipeD, Option.map_some, Option.map, Bool.not_true, Bool.not_false, reduceCtorEq, ↓reduceIte, Bool.true_eq_false, Bool.false_eq_true, decide_true, decide_false, if_true, if_false, Nat.zero_le, List.isEmpty_nil, List.isEmpty_cons, thenM_exc, thenS_exc, nextS_exc, turnS_exc, finR_exc, pureR_exc, fEqR, ev_eqR, fIsN, ev_isN, ev_isx, ev_atx, st_rai, st_try, tryS_next, tryS_ret, tryS_exc, raiS]
theorem r_apart (k : Nat) (c e : List St3) (h : AH) (t : Two c e) : run P (k + 4) "apart_chains" [.val (chD c), .val (chD e)] h = some (.ok (.val (apD (apO c e))), h) := by
  have e1 := fun h => r_need_chain k c h t.g.ok t.g.len t.g.prod
  have e2 := fun h => r_need_chain k e h t.g'.ok t.g'.len t.g'.prod
  have e3 := fun h => r_apart_in k c e h t
  rw [u_apart_chains]
  simp only [f_apart_chains, e1, e2, e3, thenM_ok, thenS_ok, nextS_next, nextS_ret, nextS_brk, nextS_cont, turnS_next, turnS_cont, turnS_brk, turnS_ret, finR_next, finR_ret, sureR_ok, slot0, slotS, conR_some, optR_some, valO_some, two_vv, tru_v, truD, ev_var, ev_cint, ev_cstr, ev_cbl, ev_cnon, ev_glo, ev_bin, ev_neg, ev_cmp, ev_chn, ev_bop, ev_b1, ev_b2, ev_nt, ev_ife, ev_tup, ev_lst, ev_lstH, ev_ix, ev_slc, ev_slcH, ev_call, ev_callP, ev_blt, ev_isi, ev_lc, ev_app, ev_dsp, ev_mth1, ev_frz, ev_a0, ev_a1, ev_c0, ev_c1, ev_o0, ev_o1, ev_iex, ev_rng1, ev_rng2, ev_enu, ev_zip, ev_gnm, ev_gtup, ev_gsub, ev_gs0, ev_gs1, intOf_i, boolOf_b, strOf_s, dataOf_d, ix_vv, slR_v, pureR_v, callR_1, callR_2, callR_3, callR_4, callR_5, blt_1, blt_2, isiR_some, viewR_v, view_v, frz_v, kE2, fBin, fCmp, negK, fNeg, kC1, kC2, kC3, kC4, kO1, kO2, kN1, kN2, kI1, kI2, tupR, lstR, lstHR, fIx, kS1, kS2, fCall, fIsi, isiD, kL, lcF, kF1, kF2, kAc, kAn, kOi, kOi2, fItems, kR1, kR3, kR4, kEn1, kEn2, kZ1, kZ2, kZ3, zipO, kG2, kG3, kNx, kSa, kSp, setR, setAll, kSg1, kSg2, kSg3, kSe, kSi1, kSi2, kSl, kRt, kA1, kA2, kM1, kM2, st_asg, st_par, st_aug, st_expr, st_ife, st_loop, st_ret, st_ret0, st_brk, st_cnt, st_pas, ss_nil, ss_cons, loopR_nil, run_fd, gd_con, gd_fn, gd_fnP, vals, itemsV, itemsD, seqD, o_add, o_sub, o_lt, o_le, o_gt, o_ge, o_isn, o_isnn, o_eqi, o_nei, o_eqs, o_nes, isNone, List.map, List.length, List.replicate, List.set, List.cons_append, List.nil_append, List.append_nil, Nat.reduceSub, Nat.reduceAdd, wipeD, Option.map_some, Option.map, Bool.not_true, Bool.not_false, reduceCtorEq, ↓reduceIte, Bool.true_eq_false, Bool.false_eq_true, decide_true, decide_false, if_true, if_false, Nat.zero_le, List.isEmpty_nil, List.isEmpty_cons, thenM_exc, thenS_exc, nextS_exc, turnS_exc, finR_exc, pureR_exc, fEqR, ev_eqR, fIsN, ev_isN, ev_isx, ev_atx, st_rai, st_try, tryS_next, tryS_ret, tryS_exc, raiS]
theorem r_alike (k : Nat) (c e : List St3) (h : AH) (t : Two c e) : run P (k + 5) "alike_chains" [.val (chD c), .val (chD e)] h = some (.ok (.val (.bool (apO c e).isNone)), h) := by
  have e3 := fun h => r_apart k c e h t
  rw [u_alike_chains]
  simp only [f_alike_chains, e3, thenM_ok, thenS_ok, nextS_next, nextS_ret, nextS_brk, nextS_cont, turnS_next, turnS_cont, turnS_brk, turnS_ret, finR_next, finR_ret, sureR_ok, slot0, slotS, conR_some, optR_some, valO_some, two_vv, tru_v, truD, ev_var, ev_cint, ev_cstr, ev_cbl, ev_cnon, ev_glo, ev_bin, ev_neg, ev_cmp, ev_chn, ev_bop, ev_b1, ev_b2, ev_nt, ev_ife, ev_tup, ev_lst, ev_lstH, ev_ix, ev_slc, ev_slcH, ev_call, ev_callP, ev_blt, ev_isi, ev_lc, ev_app, ev_dsp, ev_mth1, ev_frz, ev_a0, ev_a1, ev_c0, ev_c1, ev_o0, ev_o1, ev_iex, ev_rng1, ev_rng2, ev_enu, ev_zip, ev_gnm, ev_gtup, ev_gsub, ev_gs0, ev_gs1, intOf_i, boolOf_b, strOf_s, dataOf_d, ix_vv, slR_v, pureR_v, callR_1, callR_2, callR_3, callR_4, callR_5, blt_1, blt_2, isiR_some, viewR_v, view_v, frz_v, kE2, fBin, fCmp, negK, fNeg, kC1, kC2, kC3, kC4, kO1, kO2, kN1, kN2, kI1, kI2, tupR, lstR, lstHR, fIx, kS1, kS2, fCall, fIsi, isiD, kL, lcF, kF1, kF2, kAc, kAn, kOi, kOi2, fItems, kR1, kR3, kR4, kEn1, kEn2, kZ1, kZ2, kZ3, zipO, kG2, kG3, kNx, kSa, kSp, setR, setAll, kSg1, kSg2, kSg3, kSe, kSi1, kSi2, kSl, kRt, kA1, kA2, kM1, kM2, st_asg, st_par, st_aug, st_expr, st_ife, st_loop, st_ret, st_ret0, st_brk, st_cnt, st_pas, ss_nil, ss_cons, loopR_nil, run_fd, gd_con, gd_fn, gd_fnP, vals, itemsV, itemsD, seqD, o_add, o_sub, o_lt, o_le, o_gt, o_ge, o_isn, o_isnn, o_eqi, o_nei, o_eqs, o_nes, isNone, List.map, List.length, List.replicate, List.set, List.cons_append, List.nil_append, List.append_nil, Nat.reduceSub, Nat.reduceAdd, wipeD, Option.map_some, Option.map, Bool.not_true, Bool.not_false, reduceCtorEq, ↓reduceIte, Bool.true_eq_false, Bool.false_eq_true, decide_true, decide_false, if_true, if_false, Nat.zero_le, List.isEmpty_nil, List.isEmpty_cons, thenM_exc, thenS_exc, nextS_exc, turnS_exc, finR_exc, pureR_exc, fEqR, ev_eqR, fIsN, ev_isN, ev_isx, ev_atx, st_rai, st_try, tryS_next, tryS_ret, tryS_exc, raiS]
  cases apO c e <;> rfl
end L2.K79

set_option maxRecDepth 100000
set_option maxHeartbeats 2000000
namespace L2.K79
open PySem PySem.Spec PyProof.Rows L2 L2.Cap
/-! ### the simplest number between two -/
/-- p / q lies behind a / b, up to c / d; or from a / b on, ahead of c / d -/
def Sin (a b c d : Int) (ab : Bool) (p q : Int) : Prop := 1 ≤ q ∧ (if ab = true then a * q < p * b ∧ p * d ≤ c * q else a * q ≤ p * b ∧ p * d < c * q)
structure Best (a b c d : Int) (ab : Bool) (p q : Int) : Prop where
  in_ : Sin a b c d ab p q
  min : ∀ p' q', Sin a b c d ab p' q' → q ≤ q' ∧ p ≤ p'
structure Vl (a b c d : Int) : Prop where
  a0 : 0 ≤ a
  b1 : 1 ≤ b
  c1 : 1 ≤ c
  d0 : 0 ≤ d
  lt : a * d < c * b
def whO (a b : Int) (ab : Bool) : Int := if ab = true then a / b + 1 else 0 - (0 - a) / b
/-- is there a whole number -/
def baseO (a b c d : Int) (ab : Bool) : Bool := if ab = true then decide (whO a b ab * d ≤ c) else decide (whO a b ab * d < c)
theorem div_is {a b : Int} (hb : 1 ≤ b) : b * (a / b) ≤ a ∧ a < b * (a / b) + b := by
  have e := Int.emod_add_mul_ediv a b
  have := Int.emod_nonneg a (show b ≠ 0 by omega)
  have := Int.emod_lt_of_pos a (show 0 < b by omega)
  omega
theorem cancel_lt {b x y : Int} (hb : 1 ≤ b) (h : b * x < b * y) : x < y := Int.lt_of_mul_lt_mul_left h (by omega)
theorem cancel_le {b x y : Int} (hb : 1 ≤ b) (h : b * x ≤ b * y) : x ≤ y := Int.le_of_mul_le_mul_left h (by omega)
theorem base_ok {a b c d : Int} {ab : Bool} (v : Vl a b c d) (h : baseO a b c d ab = true) : Best a b c d ab (whO a b ab) 1 := by
  obtain ⟨a0, b1, c1, d0, lt⟩ := v
  cases ab with
  | true =>
    have h : (a / b + 1) * d ≤ c := of_decide_eq_true h
    have q := div_is (a := a) b1
    refine ⟨⟨Int.le_refl 1, ?_⟩, fun p' q' ⟨k1, k2⟩ => ⟨k1, ?_⟩⟩
    · show a * 1 < (a / b + 1) * b ∧ (a / b + 1) * d ≤ c * 1
      grind
    · have k2 : a * q' < p' * b ∧ p' * d ≤ c * q' := k2
      show a / b + 1 ≤ p'
      have m : a * 1 ≤ a * q' := Int.mul_le_mul_of_nonneg_left k1 a0
      have : b * (a / b) < b * p' := by rw [Int.mul_comm b p']; omega
      have := cancel_lt b1 this
      omega
  | false =>
    have h : (0 - (0 - a) / b) * d < c := of_decide_eq_true h
    have q := div_is (a := 0 - a) b1
    refine ⟨⟨Int.le_refl 1, ?_⟩, fun p' q' ⟨k1, k2⟩ => ⟨k1, ?_⟩⟩
    · show a * 1 ≤ (0 - (0 - a) / b) * b ∧ (0 - (0 - a) / b) * d < c * 1
      grind
    · have k2 : a * q' ≤ p' * b ∧ p' * d < c * q' := k2
      show 0 - (0 - a) / b ≤ p'
      have m : a * 1 ≤ a * q' := Int.mul_le_mul_of_nonneg_left k1 a0
      have e : b * (0 - (0 - a) / b) = 0 - b * ((0 - a) / b) := by rw [Int.mul_sub, Int.mul_zero]
      have : b * (0 - (0 - a) / b) < b * (p' + 1) := by rw [e, Int.mul_add, Int.mul_comm b p']; omega
      have := cancel_lt b1 this
      omega
/-- how it goes on where there is none -/
theorem next_ok {a b c d : Int} {ab : Bool} (v : Vl a b c d) (h : baseO a b c d ab = false) :
    1 ≤ d ∧ 0 ≤ a / b ∧ (ab = false → a / b * b < a) ∧ 1 ≤ c - a / b * d ∧ c - a / b * d ≤ d ∧ 0 ≤ a - a / b * b ∧ a - a / b * b < b ∧ Vl d (c - a / b * d) b (a - a / b * b) := by
  obtain ⟨a0, b1, c1, d0, lt⟩ := v
  have q := div_is (a := a) b1
  have k0 : 0 ≤ a / b := Int.ediv_nonneg a0 (by omega)
  generalize ek : a / b = k at *
  have e1 : k * b = b * k := Int.mul_comm k b
  have kd : b * (k * d) < b * c := by
    have m : (b * k) * d ≤ a * d := Int.mul_le_mul_of_nonneg_right q.1 d0
    grind
  have kd := cancel_lt b1 kd
  have dd : d ≤ 0 → False := fun z => by
    have z : d = 0 := by omega
    subst z
    cases ab with
    | true =>
      have h : ¬ whO a b true * 0 ≤ c := of_decide_eq_false h
      rw [Int.mul_zero] at h
      omega
    | false =>
      have h : ¬ whO a b false * 0 < c := of_decide_eq_false h
      rw [Int.mul_zero] at h
      omega
  have d1 : 1 ≤ d := by
    by_cases z : d ≤ 0
    · exact (dd z).elim
    · omega
  cases ab with
  | true =>
    have h : ¬ (a / b + 1) * d ≤ c := of_decide_eq_false h
    rw [ek] at h
    rw [Int.add_mul, Int.one_mul] at h
    exact ⟨d1, k0, (fun z => by cases z), by omega, by omega, by omega, by omega, ⟨by omega, by omega, by omega, by omega, by grind⟩⟩
  | false =>
    have h : ¬ (0 - (0 - a) / b) * d < c := of_decide_eq_false h
    have q2 := div_is (a := 0 - a) b1
    generalize (0 - a) / b = u at *
    -- u is -k or -k - 1
    have e2 : b * (0 - u) = 0 - b * u := by rw [Int.mul_sub, Int.mul_zero]
    have u1 : b * (0 - u) < b * (k + 2) := by rw [e2, Int.mul_add]; omega
    have u1 := cancel_lt b1 u1
    have u2 : b * k ≤ b * (0 - u) := by rw [e2]; omega
    have u2 := cancel_le b1 u2
    have ne : 0 - u ≠ k := fun z => by
      rw [z] at h
      omega
    have u3 : 0 - u = k + 1 := by omega
    rw [u3, Int.add_mul, Int.one_mul] at h
    have nk : b * k ≠ a := fun z => by
      have e3 : b * (0 - u) = b * k + b := by rw [u3, Int.mul_add, Int.mul_one]
      omega
    exact ⟨d1, k0, (fun _ => by omega), by omega, by omega, by omega, by omega, ⟨by omega, by omega, by omega, by omega, by grind⟩⟩
/-- and what comes of it -/
theorem back_ok {a b c d : Int} {ab : Bool} (v : Vl a b c d) (h : baseO a b c d ab = false) {x y : Int} (B : Best d (c - a / b * d) b (a - a / b * b) (!ab) x y) : Best a b c d ab (a / b * x + y) x := by
  obtain ⟨d1, k0, kn, n1, n2, n3, n4, w⟩ := next_ok v h
  obtain ⟨a0, b1, c1, d0, lt⟩ := v
  have q := div_is (a := a) b1
  generalize a / b = k at *
  obtain ⟨⟨y1, i1⟩, mn⟩ := B
  cases ab with
  | true =>
    have i1 : d * y ≤ x * (c - k * d) ∧ x * (a - k * b) < b * y := i1
    have x1 : 1 ≤ x := by
      have m : 1 * 1 ≤ d * y := Int.mul_le_mul d1 y1 (by omega) (by omega)
      have : 0 < x * (c - k * d) := by omega
      have := Int.pos_of_mul_pos_left this (by omega)
      omega
    refine ⟨⟨x1, ?_⟩, fun p' q' ⟨k1, k2⟩ => ?_⟩
    · show a * x < (k * x + y) * b ∧ (k * x + y) * d ≤ c * x
      constructor <;> grind
    · have k2 : a * q' < p' * b ∧ p' * d ≤ c * q' := k2
      have r : k * q' < p' := by
        have m : b * k * q' ≤ a * q' := Int.mul_le_mul_of_nonneg_right q.1 (by omega)
        have : b * (k * q') < b * p' := by grind
        exact cancel_lt b1 this
      have mm := mn q' (p' - k * q') ⟨by omega, by
        show d * (p' - k * q') ≤ q' * (c - k * d) ∧ q' * (a - k * b) < b * (p' - k * q')
        constructor <;> grind⟩
      refine ⟨mm.2, ?_⟩
      have m : k * x ≤ k * q' := Int.mul_le_mul_of_nonneg_left mm.2 k0
      omega
  | false =>
    have i1 : d * y < x * (c - k * d) ∧ x * (a - k * b) ≤ b * y := i1
    have kn := kn rfl
    have x1 : 1 ≤ x := by
      have m : 1 * 1 ≤ d * y := Int.mul_le_mul d1 y1 (by omega) (by omega)
      have : 0 < x * (c - k * d) := by omega
      have := Int.pos_of_mul_pos_left this (by omega)
      omega
    refine ⟨⟨x1, ?_⟩, fun p' q' ⟨k1, k2⟩ => ?_⟩
    · show a * x ≤ (k * x + y) * b ∧ (k * x + y) * d < c * x
      constructor <;> grind
    · have k2 : a * q' ≤ p' * b ∧ p' * d < c * q' := k2
      have r : k * q' < p' := by
        have m : (k * b + 1) * q' ≤ a * q' := Int.mul_le_mul_of_nonneg_right (by omega) (by omega)
        have : b * (k * q') < b * p' := by grind
        exact cancel_lt b1 this
      have mm := mn q' (p' - k * q') ⟨by omega, by
        show d * (p' - k * q') < q' * (c - k * d) ∧ q' * (a - k * b) ≤ b * (p' - k * q')
        constructor <;> grind⟩
      refine ⟨mm.2, ?_⟩
      have m : k * x ≤ k * q' := Int.mul_le_mul_of_nonneg_left mm.2 k0
      omega
end L2.K79

set_option maxRecDepth 100000
set_option maxHeartbeats 2000000
namespace L2.K79
open PySem PySem.Spec PyProof.Rows L2 L2.Cap
theorem o_mulL {i j : Int} (q1 : -(2 ^ 64) < i) (q2 : i < 2 ^ 64) : valO (opF .mul (.int i) (.int j)) = some (.val (.int (i * j))) := by
  show valO (if _ then _ else _) = _
  rw [if_pos (.inr (.inl ⟨q1, q2⟩))]
  rfl
structure Sml (a b c d : Int) : Prop where
  a : a < 2 ^ 40
  b : b < 2 ^ 40
  c : c < 2 ^ 40
  d : d < 2 ^ 40
def frD (a b : Int) : PyData := .tuple [.int a, .int b]
theorem wh_small {a b : Int} {ab : Bool} (a0 : 0 ≤ a) (b1 : 1 ≤ b) (ha : a < 2 ^ 40) : -(2 ^ 64) < whO a b ab ∧ whO a b ab < 2 ^ 64 := by
  cases ab with
  | true =>
    show -(2 ^ 64) < a / b + 1 ∧ a / b + 1 < 2 ^ 64
    have := Int.ediv_nonneg a0 (show 0 ≤ b by omega)
    have := Int.ediv_le_self b a0
    omega
  | false =>
    show -(2 ^ 64) < 0 - (0 - a) / b ∧ 0 - (0 - a) / b < 2 ^ 64
    have q := div_is (a := 0 - a) b1
    have e : b * (0 - (0 - a) / b) = 0 - b * ((0 - a) / b) := by rw [Int.mul_sub, Int.mul_zero]
    have u : b * (0 - (0 - a) / b) < b * (a + 1) := by
      rw [e, Int.mul_add, Int.mul_one]
      have : 1 * a ≤ b * a := Int.mul_le_mul_of_nonneg_right b1 a0
      omega
    have u := cancel_lt b1 u
    have l : b * 0 ≤ b * (0 - (0 - a) / b) := by rw [e, Int.mul_zero]; omega
    have l := cancel_le b1 l
    omega
theorem s_base (k : Nat) {a b c d : Int} {ab : Bool} (v : Vl a b c d) (m : Sml a b c d) (hb : baseO a b c d ab = true) (h : AH) : run P (k + 1) "_law_simple" [.val (frD a b), .val (frD c d), .val (.bool ab)] h = some (.ok (.val (frD (whO a b ab) 1)), h) := by
  have w := wh_small (ab := ab) v.a0 v.b1 m.a
  have p1 : 0 < b := by have := v.b1; omega
  have q2 : Sm200 b := by have := v.b1; have := m.b; exact ⟨by omega, by omega⟩
  have w1 := w.1
  have w2 := w.2
  have z2 : (2 : Nat) ≤ sizeLine := by decide
  rw [u__law_simple]
  cases ab with
  | true =>
    have w1 : -(2 ^ 64) < a / b + 1 := w1
    have w2 : a / b + 1 < 2 ^ 64 := w2
    have hb : ((a / b + 1) * d ≤ c) = True := eq_true (of_decide_eq_true hb)
    simp only [f__law_simple, frD, whO, o_fdivS, o_mulL, p1, q2, w1, w2, hb, z2, thenM_ok, thenS_ok, nextS_next, nextS_ret, nextS_brk, nextS_cont, turnS_next, turnS_cont, turnS_brk, turnS_ret, finR_next, finR_ret, sureR_ok, slot0, slotS, conR_some, optR_some, valO_some, two_vv, tru_v, truD, ev_var, ev_cint, ev_cstr, ev_cbl, ev_cnon, ev_glo, ev_bin, ev_neg, ev_cmp, ev_chn, ev_bop, ev_b1, ev_b2, ev_nt, ev_ife, ev_tup, ev_lst, ev_lstH, ev_ix, ev_slc, ev_slcH, ev_call, ev_callP, ev_blt, ev_isi, ev_lc, ev_app, ev_dsp, ev_mth1, ev_frz, ev_a0, ev_a1, ev_c0, ev_c1, ev_o0, ev_o1, ev_iex, ev_rng1, ev_rng2, ev_enu, ev_zip, ev_gnm, ev_gtup, ev_gsub, ev_gs0, ev_gs1, intOf_i, boolOf_b, strOf_s, dataOf_d, ix_vv, slR_v, pureR_v, callR_1, callR_2, callR_3, callR_4, callR_5, blt_1, blt_2, isiR_some, viewR_v, view_v, frz_v, kE2, fBin, fCmp, negK, fNeg, kC1, kC2, kC3, kC4, kO1, kO2, kN1, kN2, kI1, kI2, tupR, lstR, lstHR, fIx, kS1, kS2, fCall, fIsi, isiD, kL, lcF, kF1, kF2, kAc, kAn, kOi, kOi2, fItems, kR1, kR3, kR4, kEn1, kEn2, kZ1, kZ2, kZ3, zipO, kG2, kG3, kNx, kSa, kSp, setR, setAll, kSg1, kSg2, kSg3, kSe, kSi1, kSi2, kSl, kRt, kA1, kA2, kM1, kM2, st_asg, st_par, st_aug, st_expr, st_ife, st_loop, st_ret, st_ret0, st_brk, st_cnt, st_pas, ss_nil, ss_cons, loopR_nil, run_fd, gd_con, gd_fn, gd_fnP, vals, itemsV, itemsD, seqD, o_add, o_sub, o_lt, o_le, o_gt, o_ge, o_isn, o_isnn, o_eqi, o_nei, o_eqs, o_nes, isNone, List.map, List.length, List.replicate, List.set, List.cons_append, List.nil_append, List.append_nil, Nat.reduceSub, Nat.reduceAdd, wipeD, Option.map_some, Option.map, Bool.not_true, Bool.not_false, reduceCtorEq, ↓reduceIte, Bool.true_eq_false, Bool.false_eq_true, decide_true, decide_false, if_true, if_false, Nat.zero_le, List.isEmpty_nil, List.isEmpty_cons, thenM_exc, thenS_exc, nextS_exc, turnS_exc, finR_exc, pureR_exc, fEqR, ev_eqR, fIsN, ev_isN, ev_isx, ev_atx, st_rai, st_try, tryS_next, tryS_ret, tryS_exc, raiS]
  | false =>
    have w1 : -(2 ^ 64) < 0 - (0 - a) / b := w1
    have w2 : 0 - (0 - a) / b < 2 ^ 64 := w2
    have hb : ((0 - (0 - a) / b) * d < c) = True := eq_true (of_decide_eq_true hb)
    simp only [f__law_simple, frD, whO, o_fdivS, o_mulL, p1, q2, w1, w2, hb, z2, thenM_ok, thenS_ok, nextS_next, nextS_ret, nextS_brk, nextS_cont, turnS_next, turnS_cont, turnS_brk, turnS_ret, finR_next, finR_ret, sureR_ok, slot0, slotS, conR_some, optR_some, valO_some, two_vv, tru_v, truD, ev_var, ev_cint, ev_cstr, ev_cbl, ev_cnon, ev_glo, ev_bin, ev_neg, ev_cmp, ev_chn, ev_bop, ev_b1, ev_b2, ev_nt, ev_ife, ev_tup, ev_lst, ev_lstH, ev_ix, ev_slc, ev_slcH, ev_call, ev_callP, ev_blt, ev_isi, ev_lc, ev_app, ev_dsp, ev_mth1, ev_frz, ev_a0, ev_a1, ev_c0, ev_c1, ev_o0, ev_o1, ev_iex, ev_rng1, ev_rng2, ev_enu, ev_zip, ev_gnm, ev_gtup, ev_gsub, ev_gs0, ev_gs1, intOf_i, boolOf_b, strOf_s, dataOf_d, ix_vv, slR_v, pureR_v, callR_1, callR_2, callR_3, callR_4, callR_5, blt_1, blt_2, isiR_some, viewR_v, view_v, frz_v, kE2, fBin, fCmp, negK, fNeg, kC1, kC2, kC3, kC4, kO1, kO2, kN1, kN2, kI1, kI2, tupR, lstR, lstHR, fIx, kS1, kS2, fCall, fIsi, isiD, kL, lcF, kF1, kF2, kAc, kAn, kOi, kOi2, fItems, kR1, kR3, kR4, kEn1, kEn2, kZ1, kZ2, kZ3, zipO, kG2, kG3, kNx, kSa, kSp, setR, setAll, kSg1, kSg2, kSg3, kSe, kSi1, kSi2, kSl, kRt, kA1, kA2, kM1, kM2, st_asg, st_par, st_aug, st_expr, st_ife, st_loop, st_ret, st_ret0, st_brk, st_cnt, st_pas, ss_nil, ss_cons, loopR_nil, run_fd, gd_con, gd_fn, gd_fnP, vals, itemsV, itemsD, seqD, o_add, o_sub, o_lt, o_le, o_gt, o_ge, o_isn, o_isnn, o_eqi, o_nei, o_eqs, o_nes, isNone, List.map, List.length, List.replicate, List.set, List.cons_append, List.nil_append, List.append_nil, Nat.reduceSub, Nat.reduceAdd, wipeD, Option.map_some, Option.map, Bool.not_true, Bool.not_false, reduceCtorEq, ↓reduceIte, Bool.true_eq_false, Bool.false_eq_true, decide_true, decide_false, if_true, if_false, Nat.zero_le, List.isEmpty_nil, List.isEmpty_cons, thenM_exc, thenS_exc, nextS_exc, turnS_exc, finR_exc, pureR_exc, fEqR, ev_eqR, fIsN, ev_isN, ev_isx, ev_atx, st_rai, st_try, tryS_next, tryS_ret, tryS_exc, raiS]
theorem s_next (k : Nat) {a b c d x y : Int} {ab : Bool} (v : Vl a b c d) (m : Sml a b c d) (hb : baseO a b c d ab = false) (r : ∀ h, run P k "_law_simple" [.val (frD d (c - a / b * d)), .val (frD b (a - a / b * b)), .val (.bool !ab)] h = some (.ok (.val (frD x y)), h)) (h : AH) : run P (k + 1) "_law_simple" [.val (frD a b), .val (frD c d), .val (.bool ab)] h = some (.ok (.val (frD (a / b * x + y) x)), h) := by
  have w := wh_small (ab := ab) v.a0 v.b1 m.a
  have p1 : 0 < b := by have := v.b1; omega
  have q2 : Sm200 b := by have := v.b1; have := m.b; exact ⟨by omega, by omega⟩
  have k0 := Int.ediv_nonneg v.a0 (show 0 ≤ b by omega)
  have k1 := Int.ediv_le_self b v.a0
  have ma := m.a
  have k2 : -(2 ^ 64) < a / b := by omega
  have k3 : a / b < 2 ^ 64 := by omega
  have w1 := w.1
  have w2 := w.2
  have z2 : (2 : Nat) ≤ sizeLine := by decide
  unfold frD at r
  rw [u__law_simple]
  cases ab with
  | true =>
    have w1 : -(2 ^ 64) < a / b + 1 := w1
    have w2 : a / b + 1 < 2 ^ 64 := w2
    have hb : ((a / b + 1) * d ≤ c) = False := eq_false (of_decide_eq_false hb)
    have r : ∀ h, run P k "_law_simple" [.val (.tuple [.int d, .int (c - a / b * d)]), .val (.tuple [.int b, .int (a - a / b * b)]), .val (.bool false)] h = some (.ok (.val (.tuple [.int x, .int y])), h) := r
    simp only [f__law_simple, frD, o_fdivS, o_mulL, p1, q2, w1, w2, k2, k3, hb, r, z2, thenM_ok, thenS_ok, nextS_next, nextS_ret, nextS_brk, nextS_cont, turnS_next, turnS_cont, turnS_brk, turnS_ret, finR_next, finR_ret, sureR_ok, slot0, slotS, conR_some, optR_some, valO_some, two_vv, tru_v, truD, ev_var, ev_cint, ev_cstr, ev_cbl, ev_cnon, ev_glo, ev_bin, ev_neg, ev_cmp, ev_chn, ev_bop, ev_b1, ev_b2, ev_nt, ev_ife, ev_tup, ev_lst, ev_lstH, ev_ix, ev_slc, ev_slcH, ev_call, ev_callP, ev_blt, ev_isi, ev_lc, ev_app, ev_dsp, ev_mth1, ev_frz, ev_a0, ev_a1, ev_c0, ev_c1, ev_o0, ev_o1, ev_iex, ev_rng1, ev_rng2, ev_enu, ev_zip, ev_gnm, ev_gtup, ev_gsub, ev_gs0, ev_gs1, intOf_i, boolOf_b, strOf_s, dataOf_d, ix_vv, slR_v, pureR_v, callR_1, callR_2, callR_3, callR_4, callR_5, blt_1, blt_2, isiR_some, viewR_v, view_v, frz_v, kE2, fBin, fCmp, negK, fNeg, kC1, kC2, kC3, kC4, kO1, kO2, kN1, kN2, kI1, kI2, tupR, lstR, lstHR, fIx, kS1, kS2, fCall, fIsi, isiD, kL, lcF, kF1, kF2, kAc, kAn, kOi, kOi2, fItems, kR1, kR3, kR4, kEn1, kEn2, kZ1, kZ2, kZ3, zipO, kG2, kG3, kNx, kSa, kSp, setR, setAll, kSg1, kSg2, kSg3, kSe, kSi1, kSi2, kSl, kRt, kA1, kA2, kM1, kM2, st_asg, st_par, st_aug, st_expr, st_ife, st_loop, st_ret, st_ret0, st_brk, st_cnt, st_pas, ss_nil, ss_cons, loopR_nil, run_fd, gd_con, gd_fn, gd_fnP, vals, itemsV, itemsD, seqD, o_add, o_sub, o_lt, o_le, o_gt, o_ge, o_isn, o_isnn, o_eqi, o_nei, o_eqs, o_nes, isNone, List.map, List.length, List.replicate, List.set, List.cons_append, List.nil_append, List.append_nil, Nat.reduceSub, Nat.reduceAdd, wipeD, Option.map_some, Option.map, Bool.not_true, Bool.not_false, reduceCtorEq, ↓reduceIte, Bool.true_eq_false, Bool.false_eq_true, decide_true, decide_false, if_true, if_false, Nat.zero_le, List.isEmpty_nil, List.isEmpty_cons, thenM_exc, thenS_exc, nextS_exc, turnS_exc, finR_exc, pureR_exc, fEqR, ev_eqR, fIsN, ev_isN, ev_isx, ev_atx, st_rai, st_try, tryS_next, tryS_ret, tryS_exc, raiS]
  | false =>
    have w1 : -(2 ^ 64) < 0 - (0 - a) / b := w1
    have w2 : 0 - (0 - a) / b < 2 ^ 64 := w2
    have hb : ((0 - (0 - a) / b) * d < c) = False := eq_false (of_decide_eq_false hb)
    have r : ∀ h, run P k "_law_simple" [.val (.tuple [.int d, .int (c - a / b * d)]), .val (.tuple [.int b, .int (a - a / b * b)]), .val (.bool true)] h = some (.ok (.val (.tuple [.int x, .int y])), h) := r
    simp only [f__law_simple, frD, o_fdivS, o_mulL, p1, q2, w1, w2, k2, k3, hb, r, z2, thenM_ok, thenS_ok, nextS_next, nextS_ret, nextS_brk, nextS_cont, turnS_next, turnS_cont, turnS_brk, turnS_ret, finR_next, finR_ret, sureR_ok, slot0, slotS, conR_some, optR_some, valO_some, two_vv, tru_v, truD, ev_var, ev_cint, ev_cstr, ev_cbl, ev_cnon, ev_glo, ev_bin, ev_neg, ev_cmp, ev_chn, ev_bop, ev_b1, ev_b2, ev_nt, ev_ife, ev_tup, ev_lst, ev_lstH, ev_ix, ev_slc, ev_slcH, ev_call, ev_callP, ev_blt, ev_isi, ev_lc, ev_app, ev_dsp, ev_mth1, ev_frz, ev_a0, ev_a1, ev_c0, ev_c1, ev_o0, ev_o1, ev_iex, ev_rng1, ev_rng2, ev_enu, ev_zip, ev_gnm, ev_gtup, ev_gsub, ev_gs0, ev_gs1, intOf_i, boolOf_b, strOf_s, dataOf_d, ix_vv, slR_v, pureR_v, callR_1, callR_2, callR_3, callR_4, callR_5, blt_1, blt_2, isiR_some, viewR_v, view_v, frz_v, kE2, fBin, fCmp, negK, fNeg, kC1, kC2, kC3, kC4, kO1, kO2, kN1, kN2, kI1, kI2, tupR, lstR, lstHR, fIx, kS1, kS2, fCall, fIsi, isiD, kL, lcF, kF1, kF2, kAc, kAn, kOi, kOi2, fItems, kR1, kR3, kR4, kEn1, kEn2, kZ1, kZ2, kZ3, zipO, kG2, kG3, kNx, kSa, kSp, setR, setAll, kSg1, kSg2, kSg3, kSe, kSi1, kSi2, kSl, kRt, kA1, kA2, kM1, kM2, st_asg, st_par, st_aug, st_expr, st_ife, st_loop, st_ret, st_ret0, st_brk, st_cnt, st_pas, ss_nil, ss_cons, loopR_nil, run_fd, gd_con, gd_fn, gd_fnP, vals, itemsV, itemsD, seqD, o_add, o_sub, o_lt, o_le, o_gt, o_ge, o_isn, o_isnn, o_eqi, o_nei, o_eqs, o_nes, isNone, List.map, List.length, List.replicate, List.set, List.cons_append, List.nil_append, List.append_nil, Nat.reduceSub, Nat.reduceAdd, wipeD, Option.map_some, Option.map, Bool.not_true, Bool.not_false, reduceCtorEq, ↓reduceIte, Bool.true_eq_false, Bool.false_eq_true, decide_true, decide_false, if_true, if_false, Nat.zero_le, List.isEmpty_nil, List.isEmpty_cons, thenM_exc, thenS_exc, nextS_exc, turnS_exc, finR_exc, pureR_exc, fEqR, ev_eqR, fIsN, ev_isN, ev_isx, ev_atx, st_rai, st_try, tryS_next, tryS_ret, tryS_exc, raiS]
theorem r_simple : ∀ (n k : Nat) (a b c d : Int) (ab : Bool), Vl a b c d → Sml a b c d → b < 2 ^ n → ∃ x y, (∀ h, run P (k + 2 * n) "_law_simple" [.val (frD a b), .val (frD c d), .val (.bool ab)] h = some (.ok (.val (frD x y)), h)) ∧ Best a b c d ab x y
  | 0, k, a, b, c, d, ab, v, m, hb => by
    have := v.b1
    omega
  | n + 1, k, a, b, c, d, ab, v, m, hb => by
    cases e : baseO a b c d ab with
    | true => exact ⟨_, _, fun h => s_base (k + 2 * n + 1) v m e h, base_ok v e⟩
    | false =>
      obtain ⟨d1, k0, kn, n1, n2, n3, n4, v'⟩ := next_ok v e
      have m' : Sml d (c - a / b * d) b (a - a / b * b) := ⟨m.d, by have := m.d; omega, m.b, by have := m.b; omega⟩
      have key : ∃ x y, (∀ h, run P (k + 2 * n + 1) "_law_simple" [.val (frD d (c - a / b * d)), .val (frD b (a - a / b * b)), .val (.bool !ab)] h = some (.ok (.val (frD x y)), h)) ∧ Best d (c - a / b * d) b (a - a / b * b) (!ab) x y := by
        cases e' : baseO d (c - a / b * d) b (a - a / b * b) (!ab) with
        | true => exact ⟨_, _, fun h => s_base (k + 2 * n) v' m' e' h, base_ok v' e'⟩
        | false =>
          obtain ⟨d1', k0', kn', n1', n2', n3', n4', v''⟩ := next_ok v' e'
          have m'' : Sml (a - a / b * b) (b - d / (c - a / b * d) * (a - a / b * b)) (c - a / b * d) (d - d / (c - a / b * d) * (c - a / b * d)) := ⟨m'.d, by have := m'.d; omega, m'.b, by have := m'.b; omega⟩
          have q1 : 1 ≤ d / (c - a / b * d) := by
            have q := div_is (a := d) n1
            have : (c - a / b * d) * 0 < (c - a / b * d) * (d / (c - a / b * d)) := by
              rw [Int.mul_zero]
              omega
            have := cancel_lt n1 this
            omega
          have q2 : 1 * (a - a / b * b) ≤ d / (c - a / b * d) * (a - a / b * b) := Int.mul_le_mul_of_nonneg_right q1 n3
          have hp : (2 : Int) ^ (n + 1) = 2 ^ n * 2 := Int.pow_succ 2 n
          obtain ⟨x, y, r, B⟩ := r_simple n k _ _ _ _ (!!ab) v'' m'' (by omega)
          exact ⟨_, _, fun h => s_next (k + 2 * n) v' m' e' r h, back_ok v' e' B⟩
      obtain ⟨x, y, r, B⟩ := key
      exact ⟨_, _, fun h => s_next (k + 2 * n + 1) v m e r h, back_ok v e B⟩
end L2.K79

set_option maxRecDepth 100000
set_option maxHeartbeats 2000000
namespace L2.K79
open PySem PySem.Spec PyProof.Rows L2 L2.Cap
theorem ap_of {c e : List St3} (t : Two c e) {y : Int} (y0 : 0 ≤ y) (h1 : mv c y ≠ mv e y) (h2 : ∀ i, 0 ≤ i → i < y → mv c i = mv e i) (hw : y ≤ whl c e) : apO c e = some y := by
  obtain ⟨_, _, _, _, _, _, wp, _⟩ := whl_is t
  exact findM_is y0 (by omega) (decide_eq_true h1) fun i i0 i1 => by
    unfold prt
    rw [h2 i i0 i1]
    simp
theorem ap_no {c e : List St3} (h : ∀ i, 0 ≤ i → mv c i = mv e i) : apO c e = none := by
  unfold apO
  cases q : findM (prt c e) 0 (whl c e + 1).toNat with
  | none => rfl
  | some m =>
    obtain ⟨a1, _, a3, _⟩ := findM_some q
    exact absurd (h m a1) (of_decide_eq_true a3)
/-- both ways round -/
def Ap (c e : List St3) (o : Option Int) : Prop := apO c e = o ∧ apO e c = o
theorem two_sym {c e : List St3} (t : Two c e) : Two e c := ⟨t.g', t.g, by rw [Int.mul_comm]; exact t.le⟩
theorem ap_both {c e : List St3} (t : Two c e) {y : Int} (y0 : 0 ≤ y) (h1 : mv c y ≠ mv e y) (h2 : ∀ i, 0 ≤ i → i < y → mv c i = mv e i) (hw : ∀ L X Y : Int, L = prB c * Y → L = prB e * X → 1 ≤ L → y ≤ L) : Ap c e (some y) := by
  refine ⟨ap_of t y0 h1 h2 ?_, ap_of (two_sym t) y0 (fun q => h1 q.symm) (fun i a b => (h2 i a b).symm) ?_⟩
  · obtain ⟨x, y, w1, w2, _, _, wp, _⟩ := whl_is t
    exact hw _ _ _ w1 w2 wp
  · obtain ⟨x, y, w1, w2, _, _, wp, _⟩ := whl_is (two_sym t)
    exact hw _ _ _ w2 w1 wp
section
variable {a b c d : Int} (a1 : 1 ≤ a) (b1 : 1 ≤ b) (c1 : 1 ≤ c) (d1 : 1 ≤ d)
include a1 b1 c1 d1
theorem far (lt : a * d < c * b) {L X Y : Int} (e1 : L = b * Y) (e2 : L = d * X) (l1 : 1 ≤ L) : a * Y < c * X := by
  have m : a * d * L < c * b * L := Int.mul_lt_mul_of_pos_right lt (by omega)
  have m2 : (b * d) * (a * Y) < (b * d) * (c * X) := by
    have q1 : (b * d) * (a * Y) = a * d * L := by rw [e1]; grind
    have q2 : (b * d) * (c * X) = c * b * L := by rw [e2]; grind
    omega
  exact Int.lt_of_mul_lt_mul_left m2 (Int.mul_nonneg (by omega) (by omega))
theorem down_le (lt : a * d ≤ c * b) {i : Int} (i0 : 0 ≤ i) : stp a b "down" i ≤ stp c d "down" i := by
  have h1 := (sd (a := a) (f := i) (show 0 < b by omega)).mp rfl
  have h2 := (sd (a := c) (f := i) (show 0 < d by omega)).mp rfl
  generalize stp a b "down" i = g1 at *
  generalize stp c d "down" i = g2 at *
  have m1 : b * g1 * d ≤ i * a * d := Int.mul_le_mul_of_nonneg_right h1.1 (by omega)
  have m2 : i * (a * d) ≤ i * (c * b) := Int.mul_le_mul_of_nonneg_left lt i0
  have m3 : b * (g1 * d) ≤ b * (i * c) := by grind
  have m4 := cancel_le b1 m3
  have m5 : d * g1 < d * (g2 + 1) := by rw [Int.mul_add, Int.mul_one, Int.mul_comm d g1]; omega
  have := cancel_lt d1 m5
  omega
theorem up_le (lt : a * d ≤ c * b) {i : Int} (i0 : 0 ≤ i) : stp a b "up" i ≤ stp c d "up" i := by
  have h1 := (su (a := a) (f := i) (show 0 < b by omega)).mp rfl
  have h2 := (su (a := c) (f := i) (show 0 < d by omega)).mp rfl
  generalize stp a b "up" i = g1 at *
  generalize stp c d "up" i = g2 at *
  have m1 : i * c * b ≤ d * g2 * b := Int.mul_le_mul_of_nonneg_right h2.1 (by omega)
  have m2 : i * (a * d) ≤ i * (c * b) := Int.mul_le_mul_of_nonneg_left lt i0
  have m3 : d * (i * a) ≤ d * (g2 * b) := by grind
  have m4 := cancel_le d1 m3
  have m5 : b * g1 < b * (g2 + 1) := by rw [Int.mul_add, Int.mul_one, Int.mul_comm b g2]; omega
  have := cancel_lt b1 m5
  omega
end
theorem pb1 {a b : Int} {w : Str} : prB [(a, b, w)] = b := Int.mul_one b
theorem ap_down {a b c d x y : Int} (a1 : 1 ≤ a) (b1 : 1 ≤ b) (c1 : 1 ≤ c) (d1 : 1 ≤ d) (lt : a * d < c * b) (B : Best a b c d true x y) (t : Two [(a, b, "down")] [(c, d, "down")]) : Ap [(a, b, "down")] [(c, d, "down")] (some y) := by
  obtain ⟨⟨y1, s⟩, mn⟩ := B
  have s : a * y < x * b ∧ x * d ≤ c * y := s
  refine ap_both t (by omega) (fun q => ?_) (fun i i0 i1 => ?_) (fun L X Y e1 e2 l1 => ?_)
  · have q : stp a b "down" y = stp c d "down" y := q
    have h1 := (sd (a := a) (f := y) (show 0 < b by omega)).mp rfl
    have h2 := (sd (a := c) (f := y) (show 0 < d by omega)).mp rfl
    rw [← q] at h2
    generalize stp a b "down" y = g at *
    have k1 : b * g < b * x := by rw [Int.mul_comm b x]; rw [Int.mul_comm y a] at h1; omega
    have k1 := cancel_lt b1 k1
    have k2 : d * x < d * (g + 1) := by rw [Int.mul_add, Int.mul_one, Int.mul_comm d x]; rw [Int.mul_comm y c] at h2; omega
    have k2 := cancel_lt d1 k2
    omega
  · show stp a b "down" i = stp c d "down" i
    refine Classical.byContradiction fun ne => ?_
    have le := down_le a1 b1 c1 d1 (by omega) i0
    have h1 := (sd (a := a) (f := i) (show 0 < b by omega)).mp rfl
    have h2 := (sd (a := c) (f := i) (show 0 < d by omega)).mp rfl
    have i1' : 1 ≤ i := by
      by_cases z : i = 0
      · subst z
        rw [stp_0 (by omega) (.inl rfl), stp_0 (by omega) (.inl rfl)] at ne
        exact (ne rfl).elim
      · omega
    generalize stp a b "down" i = g1 at *
    generalize stp c d "down" i = g2 at *
    have k : b * (g1 + 1) ≤ b * g2 := Int.mul_le_mul_of_nonneg_left (by omega) (by omega)
    rw [Int.mul_add, Int.mul_one] at k
    have := mn g2 i ⟨i1', by
      show a * i < g2 * b ∧ g2 * d ≤ c * i
      rw [Int.mul_comm a i, Int.mul_comm g2 b, Int.mul_comm g2 d, Int.mul_comm c i]
      omega⟩
    omega
  · rw [pb1] at e1 e2
    have f := far a1 b1 c1 d1 lt e1 e2 l1
    have m : b * (a * Y) < b * (c * X) := Int.mul_lt_mul_of_pos_left f (by omega)
    exact (mn (c * X) L ⟨l1, by
      show a * L < c * X * b ∧ c * X * d ≤ c * L
      constructor
      · rw [e1]; grind
      · rw [e2]; grind⟩).1
theorem ap_up {a b c d x y : Int} (a1 : 1 ≤ a) (b1 : 1 ≤ b) (c1 : 1 ≤ c) (d1 : 1 ≤ d) (lt : a * d < c * b) (B : Best a b c d false x y) (t : Two [(a, b, "up")] [(c, d, "up")]) : Ap [(a, b, "up")] [(c, d, "up")] (some y) := by
  obtain ⟨⟨y1, s⟩, mn⟩ := B
  have s : a * y ≤ x * b ∧ x * d < c * y := s
  refine ap_both t (by omega) (fun q => ?_) (fun i i0 i1 => ?_) (fun L X Y e1 e2 l1 => ?_)
  · have q : stp a b "up" y = stp c d "up" y := q
    have h1 := (su (a := a) (f := y) (show 0 < b by omega)).mp rfl
    have h2 := (su (a := c) (f := y) (show 0 < d by omega)).mp rfl
    rw [← q] at h2
    generalize stp a b "up" y = g at *
    have k1 : b * g < b * (x + 1) := by rw [Int.mul_add, Int.mul_one, Int.mul_comm b x]; rw [Int.mul_comm y a] at h1; omega
    have k1 := cancel_lt b1 k1
    have k2 : d * x < d * g := by rw [Int.mul_comm d x]; rw [Int.mul_comm y c] at h2; omega
    have k2 := cancel_lt d1 k2
    omega
  · show stp a b "up" i = stp c d "up" i
    refine Classical.byContradiction fun ne => ?_
    have le := up_le a1 b1 c1 d1 (by omega) i0
    have h1 := (su (a := a) (f := i) (show 0 < b by omega)).mp rfl
    have h2 := (su (a := c) (f := i) (show 0 < d by omega)).mp rfl
    have i1' : 1 ≤ i := by
      by_cases z : i = 0
      · subst z
        rw [stp_0 (by omega) (.inr (.inl rfl)), stp_0 (by omega) (.inr (.inl rfl))] at ne
        exact (ne rfl).elim
      · omega
    generalize stp a b "up" i = g1 at *
    generalize stp c d "up" i = g2 at *
    have k : d * (g1 + 1) ≤ d * g2 := Int.mul_le_mul_of_nonneg_left (by omega) (by omega)
    rw [Int.mul_add, Int.mul_one] at k
    have := mn g1 i ⟨i1', by
      show a * i ≤ g1 * b ∧ g1 * d < c * i
      rw [Int.mul_comm a i, Int.mul_comm g1 b, Int.mul_comm g1 d, Int.mul_comm c i]
      omega⟩
    omega
  · rw [pb1] at e1 e2
    have f := far a1 b1 c1 d1 lt e1 e2 l1
    have m : d * (a * Y) < d * (c * X) := Int.mul_lt_mul_of_pos_left f (by omega)
    exact (mn (a * Y) L ⟨l1, by
      show a * L ≤ a * Y * b ∧ a * Y * d < c * L
      constructor
      · rw [e1]; grind
      · rw [e2]; grind⟩).1
theorem ap_same {a b c d : Int} (a1 : 1 ≤ a) (b1 : 1 ≤ b) (c1 : 1 ≤ c) (d1 : 1 ≤ d) (e : a * d = c * b) {w : Str} (hw : w = "down" ∨ w = "up") : Ap [(a, b, w)] [(c, d, w)] none := by
  have q : ∀ i, 0 ≤ i → mv [(a, b, w)] i = mv [(c, d, w)] i := fun i i0 => by
    show stp a b w i = stp c d w i
    rcases hw with rfl | rfl
    · have l1 := down_le a1 b1 c1 d1 (by omega) i0
      have l2 := down_le c1 d1 a1 b1 (by omega) i0
      omega
    · have l1 := up_le a1 b1 c1 d1 (by omega) i0
      have l2 := up_le c1 d1 a1 b1 (by omega) i0
      omega
  exact ⟨ap_no q, ap_no fun i i0 => (q i i0).symm⟩
end L2.K79

set_option maxRecDepth 100000
set_option maxHeartbeats 2000000
namespace L2.K79
open PySem PySem.Spec PyProof.Rows L2 L2.Cap
theorem mv_0 : ∀ (c : List St3), OkC c → mv c 0 = 0
  | [], _ => rfl
  | t :: c, hc => by
    have ht := hc t (List.mem_cons_self ..)
    show mv c (stp t.1 t.2.1 t.2.2 0) = 0
    rw [stp_0 (by have := ht.b1; omega) ht.w]
    exact mv_0 c fun x hx => hc x (List.mem_cons_of_mem _ hx)
/-- looking on changes nothing -/
theorem ap_more {c e : List St3} (t : Two c e) {T : Int} (h : whl c e ≤ T) : findM (prt c e) 0 (T + 1).toNat = apO c e := by
  obtain ⟨x, y, w1, w2, x1, y1, wp, _⟩ := whl_is t
  unfold apO
  cases q : findM (prt c e) 0 (whl c e + 1).toNat with
  | some m =>
    obtain ⟨a1, a2, a3, a4⟩ := findM_some q
    exact findM_is a1 (by omega) a3 a4
  | none =>
    have z := findM_none q
    have eqs : ∀ f, 0 ≤ f → f ≤ whl c e → mv c f = mv e f := fun f f0 f1 => by
      have := z f f0 (by omega)
      exact Decidable.of_not_not (of_decide_eq_false this)
    have p1 : ∀ f q, mv c (f + whl c e * q) = mv c f + prA c * y * q := fun f q => by
      have := mv_per c t.g.ok f (y * q)
      rw [← Int.mul_assoc, ← w1, ← Int.mul_assoc] at this
      exact this
    have p2 : ∀ f q, mv e (f + whl c e * q) = mv e f + prA e * x * q := fun f q => by
      have := mv_per e t.g'.ok f (x * q)
      rw [← Int.mul_assoc, ← w2, ← Int.mul_assoc] at this
      exact this
    have s : prA c * y = prA e * x := by
      have h1 := p1 0 1
      have h2 := p2 0 1
      have h3 := eqs (whl c e) (by omega) (by omega)
      rw [mv_0 c t.g.ok] at h1
      rw [mv_0 e t.g'.ok] at h2
      simp only [Int.mul_one, Int.zero_add] at h1 h2
      omega
    cases q2 : findM (prt c e) 0 (T + 1).toNat with
    | none => rfl
    | some m =>
      exfalso
      obtain ⟨a1, a2, a3, a4⟩ := findM_some q2
      refine of_decide_eq_true a3 ?_
      have d := Int.emod_add_mul_ediv m (whl c e)
      have r0 := Int.emod_nonneg m (show whl c e ≠ 0 by omega)
      have r1 := Int.emod_lt_of_pos m (show 0 < whl c e by omega)
      have h1 := p1 (m % whl c e) (m / whl c e)
      have h2 := p2 (m % whl c e) (m / whl c e)
      rw [d] at h1 h2
      rw [h1, h2, eqs _ r0 (by omega), s]
theorem ap_small {c e : List St3} (t : Two c e) {y : Int} (h : apO c e = some y) : 0 ≤ y ∧ y ≤ 100000 := by
  obtain ⟨_, _, _, _, _, _, wp, wl⟩ := whl_is t
  have := t.le
  obtain ⟨a1, a2, _, _⟩ := findM_some h
  omega
/-! ### their texts -/
theorem sm_log {i : Int} (h : Sm200 i) : i.natAbs.log2 < 1920 := by
  have := log_lt h.na (by decide)
  omega
theorem repr_i {i : Int} (hi : Sm200 i) : ∃ t, valO (bfF .repr [.int i]) = some (.val (.str t)) := by
  have a := int_text_len_1921 (sm_log hi)
  refine ⟨PyData.shown (.int i), ?_⟩
  show valO (if _ then _ else _) = _
  rw [if_pos]
  · rfl
  · refine ⟨by simp [PyData.showable, sm_log hi], by simp [PyData.hasDict], by simp [PyData.depth], ?_⟩
    have hl := line_ge
    have e : PyData.shown (.int i) = Str.ofString (toString i) := rfl
    rw [e]
    omega
theorem repr_ii {i : Int} (hi : Sm200 i) : ∃ t, valO (bfF .repr [.list [.int i, .int i]]) = some (.val (.str t)) := by
  have a := int_text_len_1921 (sm_log hi)
  refine ⟨PyData.shown (.list [.int i, .int i]), ?_⟩
  show valO (if _ then _ else _) = _
  rw [if_pos]
  · rfl
  · refine ⟨by simp [PyData.showable, PyData.showableAll, sm_log hi], by simp [PyData.hasDict, PyData.hasDictAll], by simp [PyData.depth, PyData.depthAll], ?_⟩
    have hl := line_ge
    have e : PyData.shown (.int i) = Str.ofString (toString i) := rfl
    have e2 : PyData.shown (.list [.int i, .int i]) = ((((("[" : Str) ++ Str.ofString "" ++ PyData.shown (.int i)) ++ Str.ofString ", " ++ PyData.shown (.int i)) ++ Str.ofString "]")) := rfl
    rw [e2]
    simp only [Str.length_append]
    have c1 : (("[" : Str)).length = 1 := by decide +kernel
    have c2 : ((Str.ofString "")).length = 0 := by decide +kernel
    have c3 : ((Str.ofString ", ")).length = 2 := by decide +kernel
    have c4 : ((Str.ofString "]")).length = 1 := by decide +kernel
    rw [c1, c2, c3, c4, e]
    omega
theorem repr_o {o : Option Int} (h : ∀ y, o = some y → 0 ≤ y ∧ y ≤ 100000) : (∃ t, valO (bfF .repr [apD o]) = some (.val (.str t))) ∧ ∃ t, valO (bfF .repr [.list [apD o, apD o]]) = some (.val (.str t)) := by
  cases o with
  | none => exact ⟨⟨"None", by kernel_rfl⟩, ⟨"[None, None]", by kernel_rfl⟩⟩
  | some y =>
    have q := h y rfl
    have s : Sm200 y := ⟨by omega, by omega⟩
    exact ⟨repr_i s, repr_ii s⟩
theorem repr_b (x : Bool) : ∃ t, valO (bfF .repr [.bool x]) = some (.val (.str t)) := by
  cases x
  · exact ⟨"False", by kernel_rfl⟩
  · exact ⟨"True", by kernel_rfl⟩
end L2.K79

set_option maxRecDepth 100000
set_option maxHeartbeats 2000000
namespace L2.K79
open PySem PySem.Spec PyProof.Rows L2 L2.Cap
/-! ### the law's own draws -/
def kvs (cells : List Int) (p : Nat) (s : Int) : List (Key × RV) := [(.inr "cells", .val (.list (cells.map .int))), (.inr "left", .ref p), (.inr "spot", .val (.int s))]
structure MS (h : AH) (m p : Nat) (cells left : List Int) (s : Int) (n : Nat) : Prop where
  dct : h[m]? = some (.dct (kvs cells p s))
  lst : h[p]? = some (.lst (left.map fun i => .val (.int i)))
  s0 : 0 ≤ s
  s1 : s ≤ n
  c0 : 0 < cells.length
  cl : cells.length ≤ 63
  ll : left.length = cells.length
structure FR (h h' : AH) (m p : Nat) : Prop where
  len : h.length ≤ h'.length
  same : ∀ i, i < h.length → i ≠ m → i ≠ p → h'[i]? = h[i]?
theorem FR.refl (h : AH) (m p : Nat) : FR h h m p := ⟨Nat.le_refl _, fun _ _ _ _ => rfl⟩
theorem FR.trans {h h1 h2 : AH} {m p : Nat} (a : FR h h1 m p) (b : FR h1 h2 m p) : FR h h2 m p :=
  ⟨Nat.le_trans a.len b.len, fun i hi hm hp => by rw [b.same i (Nat.lt_of_lt_of_le hi a.len) hm hp, a.same i hi hm hp]⟩
theorem MS.lt {h : AH} {m p : Nat} {cells left : List Int} {s : Int} {n : Nat} (M : MS h m p cells left s n) : m < h.length ∧ p < h.length ∧ m ≠ p := by
  refine ⟨(List.getElem?_eq_some_iff.mp M.dct).1, (List.getElem?_eq_some_iff.mp M.lst).1, fun e => ?_⟩
  have := M.dct
  rw [e, M.lst] at this
  cases this
section
variable {h : AH} {m p : Nat} {cells left : List Int} {s : Int} {n : Nat}
theorem ix_left (M : MS h m p cells left s n) : ixV (.ref m) (.val (.str "left")) h = some (.ref p) := by
  show (match h[m]? with | some (.dct kvs) => lookK kvs (.inr "left") | _ => none) = _
  rw [M.dct]
  rfl
theorem ix_cells (M : MS h m p cells left s n) : ixV (.ref m) (.val (.str "cells")) h = some (.val (.list (cells.map .int))) := by
  show (match h[m]? with | some (.dct kvs) => lookK kvs (.inr "cells") | _ => none) = _
  rw [M.dct]
  rfl
theorem ix_spot (M : MS h m p cells left s n) : ixV (.ref m) (.val (.str "spot")) h = some (.val (.int s)) := by
  show (match h[m]? with | some (.dct kvs) => lookK kvs (.inr "spot") | _ => none) = _
  rw [M.dct]
  rfl
theorem set_spot {t : Int} (M : h[m]? = some (.dct (kvs cells p s))) : setV (.ref m) (.val (.str "spot")) (.val (.int t)) h = some (.ok (), h.set m (.dct (kvs cells p t))) := by
  show (match h[m]? with | some (.dct kvs) => if kvs.length < sizeLine then some (Out.ok (), h.set m (.dct (putK' kvs (.inr "spot") (.val (.int t))))) else none | _ => none) = _
  rw [M]
  rfl
theorem ix_at (M : MS h m p cells left s n) {i : Int} (i0 : 0 ≤ i) (i1 : i < cells.length) : ∃ x : Int, ixV (.ref p) (.val (.int i)) h = some (.val (.int x)) := by
  have hl := M.ll
  refine ⟨left[i.toNat]'(by omega), ?_⟩
  show (match h[p]? with | some (.lst xs) => atI xs i | some (.ro ds) => (atI ds i).map .val | some (.dct kvs) => lookK kvs (.inl i) | _ => none) = _
  rw [M.lst]
  show atI (left.map fun i => RV.val (.int i)) i = _
  unfold atI ixN
  rw [List.length_map, if_pos i0, if_pos (by omega)]
  show (left.map fun i => RV.val (.int i))[i.toNat]? = _
  rw [List.getElem?_map, List.getElem?_eq_getElem (by omega)]
  rfl
theorem set_at (M : MS h m p cells left s n) {i t : Int} (i0 : 0 ≤ i) (i1 : i < cells.length) : setV (.ref p) (.val (.int i)) (.val (.int t)) h = some (.ok (), h.set p (.lst ((left.set i.toNat t).map fun i => .val (.int i)))) := by
  have hl := M.ll
  unfold setV
  dsimp only
  rw [M.lst]
  dsimp only
  unfold ixN
  rw [List.length_map, if_pos i0, if_pos (by omega), List.map_set]
  rfl
theorem MS.spot (M : MS h m p cells left s n) : MS (h.set m (.dct (kvs cells p (s + 1)))) m p cells left (s + 1) (n + 1) := by
  obtain ⟨l1, l2, l3⟩ := M.lt
  exact ⟨by rw [List.getElem?_set_self l1], by rw [List.getElem?_set_ne l3]; exact M.lst, by have := M.s0; omega, by have := M.s1; omega, M.c0, M.cl, M.ll⟩
theorem MS.put (M : MS h m p cells left s n) (i : Nat) (t : Int) : MS (h.set p (.lst ((left.set i t).map fun i => .val (.int i)))) m p cells (left.set i t) s n := by
  obtain ⟨l1, l2, l3⟩ := M.lt
  exact ⟨by rw [List.getElem?_set_ne (Ne.symm l3)]; exact M.dct, by rw [List.getElem?_set_self l2], M.s0, M.s1, M.c0, M.cl, by rw [List.length_set]; exact M.ll⟩
theorem FR.set1 (o : AO) : FR h (h.set m o) m p := ⟨by simp, fun i _ hm _ => by rw [List.getElem?_set_ne (Ne.symm hm)]⟩
theorem FR.set2 (o : AO) : FR h (h.set p o) m p := ⟨by simp, fun i _ _ hp => by rw [List.getElem?_set_ne (Ne.symm hp)]⟩
theorem MS.more (M : MS h m p cells left s n) (o : AO) : MS (h ++ [o]) m p cells left s n := by
  obtain ⟨b1, b2, b3⟩ := M.lt
  exact ⟨by rw [List.getElem?_append_left b1]; exact M.dct, by rw [List.getElem?_append_left b2]; exact M.lst, M.s0, M.s1, M.c0, M.cl, M.ll⟩
end
theorem ix_in {cells : List Int} {i : Int} (h0 : 0 ≤ i) (h1 : i < cells.length) : ∃ w, valO (ixD (.list (cells.map .int)) (.int i)) = some (.val (.int w)) := by
  refine ⟨cells[i.toNat]'(by omega), ?_⟩
  show valO (atI (cells.map PyData.int) i) = _
  unfold atI ixN
  rw [List.length_map, if_pos h0, if_pos h1]
  show valO ((cells.map PyData.int)[i.toNat]?) = _
  rw [List.getElem?_map, List.getElem?_eq_getElem (by omega)]
  rfl
def mixO (c s : Int) : Int := (((c * 40503 + s * 69069 + 12345) % 2147483647 * 48271 + c + s) % 2147483647 * 16807 + s * s * 7919) % 2147483647
theorem r_mix (k : Nat) (c s : Int) (h : AH) (s0 : 0 ≤ s) (s1 : s < 2 ^ 40) : ∃ v : Int, 0 ≤ v ∧ v < 2147483647 ∧ ∀ h, run P (k + 1) "_law_mix" [.val (.int c), .val (.int s)] h = some (.ok (.val (.int v)), h) := by
  have q0 : (0 : Int) < 2147483647 := by decide
  have a1 : -(2 ^ 64) < (40503 : Int) := by decide
  have a2 : (40503 : Int) < 2 ^ 64 := by decide
  have b1 : -(2 ^ 64) < (69069 : Int) := by decide
  have b2 : (69069 : Int) < 2 ^ 64 := by decide
  have c1 : -(2 ^ 64) < (48271 : Int) := by decide
  have c2 : (48271 : Int) < 2 ^ 64 := by decide
  have d1 : -(2 ^ 64) < (16807 : Int) := by decide
  have d2 : (16807 : Int) < 2 ^ 64 := by decide
  have e1 : -(2 ^ 64) < (7919 : Int) := by decide
  have e2 : (7919 : Int) < 2 ^ 64 := by decide
  have f1 : -(2 ^ 64) < s := by omega
  have f2 : s < 2 ^ 64 := by omega
  refine ⟨mixO c s, Int.emod_nonneg _ (by decide), Int.emod_lt_of_pos _ q0, fun h => ?_⟩
  rw [u__law_mix]
  unfold mixO
  simp only [f__law_mix, o_mulR, o_mod, b_int, q0, a1, a2, b1, b2, c1, c2, d1, d2, e1, e2, f1, f2, thenM_ok, thenS_ok, nextS_next, nextS_ret, nextS_brk, nextS_cont, turnS_next, turnS_cont, turnS_brk, turnS_ret, finR_next, finR_ret, sureR_ok, slot0, slotS, conR_some, optR_some, valO_some, two_vv, tru_v, truD, ev_var, ev_cint, ev_cstr, ev_cbl, ev_cnon, ev_glo, ev_bin, ev_neg, ev_cmp, ev_chn, ev_bop, ev_b1, ev_b2, ev_nt, ev_ife, ev_tup, ev_lst, ev_lstH, ev_ix, ev_slc, ev_slcH, ev_call, ev_callP, ev_blt, ev_isi, ev_lc, ev_app, ev_dsp, ev_mth1, ev_frz, ev_a0, ev_a1, ev_c0, ev_c1, ev_o0, ev_o1, ev_iex, ev_rng1, ev_rng2, ev_enu, ev_zip, ev_gnm, ev_gtup, ev_gsub, ev_gs0, ev_gs1, intOf_i, boolOf_b, strOf_s, dataOf_d, ix_vv, slR_v, pureR_v, callR_1, callR_2, callR_3, callR_4, callR_5, blt_1, blt_2, isiR_some, viewR_v, view_v, frz_v, kE2, fBin, fCmp, negK, fNeg, kC1, kC2, kC3, kC4, kO1, kO2, kN1, kN2, kI1, kI2, tupR, lstR, lstHR, fIx, kS1, kS2, fCall, fIsi, isiD, kL, lcF, kF1, kF2, kAc, kAn, kOi, kOi2, fItems, kR1, kR3, kR4, kEn1, kEn2, kZ1, kZ2, kZ3, zipO, kG2, kG3, kNx, kSa, kSp, setR, setAll, kSg1, kSg2, kSg3, kSe, kSi1, kSi2, kSl, kRt, kA1, kA2, kM1, kM2, st_asg, st_par, st_aug, st_expr, st_ife, st_loop, st_ret, st_ret0, st_brk, st_cnt, st_pas, ss_nil, ss_cons, loopR_nil, run_fd, gd_con, gd_fn, gd_fnP, vals, itemsV, itemsD, seqD, o_add, o_sub, o_lt, o_le, o_gt, o_ge, o_isn, o_isnn, o_eqi, o_nei, o_eqs, o_nes, isNone, List.map, List.length, List.replicate, List.set, List.cons_append, List.nil_append, List.append_nil, Nat.reduceSub, Nat.reduceAdd, wipeD, Option.map_some, Option.map, Bool.not_true, Bool.not_false, reduceCtorEq, ↓reduceIte, Bool.true_eq_false, Bool.false_eq_true, decide_true, decide_false, if_true, if_false, Nat.zero_le, List.isEmpty_nil, List.isEmpty_cons, thenM_exc, thenS_exc, nextS_exc, turnS_exc, finR_exc, pureR_exc, fEqR, ev_eqR, fIsN, ev_isN, ev_isx, ev_atx, st_rai, st_try, tryS_next, tryS_ret, tryS_exc, raiS]
theorem r_draw (k : Nat) {h : AH} {m p : Nat} {cells left : List Int} {s : Int} {n : Nat} (M : MS h m p cells left s n) (hn : n < 2 ^ 30) (L : Int) (l1 : 1 ≤ L) (l2 : L < 2 ^ 30) :
    ∃ v h' left' s', run P (k + 2) "_law_draw" [.ref m, .val (.int L)] h = some (.ok (.val (.int v)), h') ∧ 0 ≤ v ∧ v < L ∧ MS h' m p cells left' s' (n + 1) ∧ FR h h' m p := by
  have M1 := M.spot
  have s0 := M.s0
  have s1 := M.s1
  have c0 := M.c0
  have cl := M.cl
  have lp : (0 : Int) < (cells.length : Int) := by omega
  have h0 := Int.emod_nonneg s (show (cells.length : Int) ≠ 0 by omega)
  have h1 := Int.emod_lt_of_pos s lp
  obtain ⟨x, ex⟩ := ix_at M1 h0 h1
  obtain ⟨c, ec⟩ := ix_in h0 h1
  obtain ⟨v, v0, v1, ev⟩ := r_mix k c s h s0 (by omega)
  have i1 := ix_spot M
  have i2 := set_spot (t := s + 1) M.dct
  have i3 := ix_cells M1
  have i4 := ix_left M1
  have el : ((cells.map PyData.int).length : Int) = (cells.length : Int) := by rw [List.length_map]
  have q1 : 0 < L := by omega
  have q2 : Sm200 L := ⟨by omega, by omega⟩
  have q3 : (0 : Int) < 97 := by decide
  have q4 : Sm200 97 := ⟨by decide, by decide⟩
  rw [u__law_draw]
  by_cases z : 0 < x
  · have z' : (0 < x) = True := eq_true z
    have i5 := set_at (t := x / L) M1 h0 h1
    refine ⟨x % L, _, _, _, ?_, Int.emod_nonneg _ (by omega), Int.emod_lt_of_pos _ q1, M1.put (s % (cells.length : Int)).toNat (x / L), (FR.set1 _).trans (FR.set2 _)⟩
    simp only [f__law_draw, i1, i2, i3, i4, i5, ex, el, z', b_lenL, b_int, o_mod, o_fdivS, lp, q1, q2, thenM_ok, thenS_ok, nextS_next, nextS_ret, nextS_brk, nextS_cont, turnS_next, turnS_cont, turnS_brk, turnS_ret, finR_next, finR_ret, sureR_ok, slot0, slotS, conR_some, optR_some, valO_some, two_vv, tru_v, truD, ev_var, ev_cint, ev_cstr, ev_cbl, ev_cnon, ev_glo, ev_bin, ev_neg, ev_cmp, ev_chn, ev_bop, ev_b1, ev_b2, ev_nt, ev_ife, ev_tup, ev_lst, ev_lstH, ev_ix, ev_slc, ev_slcH, ev_call, ev_callP, ev_blt, ev_isi, ev_lc, ev_app, ev_dsp, ev_mth1, ev_frz, ev_a0, ev_a1, ev_c0, ev_c1, ev_o0, ev_o1, ev_iex, ev_rng1, ev_rng2, ev_enu, ev_zip, ev_gnm, ev_gtup, ev_gsub, ev_gs0, ev_gs1, intOf_i, boolOf_b, strOf_s, dataOf_d, ix_vv, slR_v, pureR_v, callR_1, callR_2, callR_3, callR_4, callR_5, blt_1, blt_2, isiR_some, viewR_v, view_v, frz_v, kE2, fBin, fCmp, negK, fNeg, kC1, kC2, kC3, kC4, kO1, kO2, kN1, kN2, kI1, kI2, tupR, lstR, lstHR, fIx, kS1, kS2, fCall, fIsi, isiD, kL, lcF, kF1, kF2, kAc, kAn, kOi, kOi2, fItems, kR1, kR3, kR4, kEn1, kEn2, kZ1, kZ2, kZ3, zipO, kG2, kG3, kNx, kSa, kSp, setR, setAll, kSg1, kSg2, kSg3, kSe, kSi1, kSi2, kSl, kRt, kA1, kA2, kM1, kM2, st_asg, st_par, st_aug, st_expr, st_ife, st_loop, st_ret, st_ret0, st_brk, st_cnt, st_pas, ss_nil, ss_cons, loopR_nil, run_fd, gd_con, gd_fn, gd_fnP, vals, itemsV, itemsD, seqD, o_add, o_sub, o_lt, o_le, o_gt, o_ge, o_isn, o_isnn, o_eqi, o_nei, o_eqs, o_nes, isNone, List.map, List.length, List.replicate, List.set, List.cons_append, List.nil_append, List.append_nil, Nat.reduceSub, Nat.reduceAdd, wipeD, Option.map_some, Option.map, Bool.not_true, Bool.not_false, reduceCtorEq, ↓reduceIte, Bool.true_eq_false, Bool.false_eq_true, decide_true, decide_false, if_true, if_false, Nat.zero_le, List.isEmpty_nil, List.isEmpty_cons, thenM_exc, thenS_exc, nextS_exc, turnS_exc, finR_exc, pureR_exc, fEqR, ev_eqR, fIsN, ev_isN, ev_isx, ev_atx, st_rai, st_try, tryS_next, tryS_ret, tryS_exc, raiS]
    try rfl
  · have z' : (0 < x) = False := eq_false z
    refine ⟨v / 97 % L, _, _, _, ?_, Int.emod_nonneg _ (by omega), Int.emod_lt_of_pos _ q1, M1, FR.set1 _⟩
    simp only [f__law_draw, i1, i2, i3, i4, ex, ec, ev, el, z', b_lenL, b_int, o_mod, o_fdivS, lp, q1, q2, q3, q4, thenM_ok, thenS_ok, nextS_next, nextS_ret, nextS_brk, nextS_cont, turnS_next, turnS_cont, turnS_brk, turnS_ret, finR_next, finR_ret, sureR_ok, slot0, slotS, conR_some, optR_some, valO_some, two_vv, tru_v, truD, ev_var, ev_cint, ev_cstr, ev_cbl, ev_cnon, ev_glo, ev_bin, ev_neg, ev_cmp, ev_chn, ev_bop, ev_b1, ev_b2, ev_nt, ev_ife, ev_tup, ev_lst, ev_lstH, ev_ix, ev_slc, ev_slcH, ev_call, ev_callP, ev_blt, ev_isi, ev_lc, ev_app, ev_dsp, ev_mth1, ev_frz, ev_a0, ev_a1, ev_c0, ev_c1, ev_o0, ev_o1, ev_iex, ev_rng1, ev_rng2, ev_enu, ev_zip, ev_gnm, ev_gtup, ev_gsub, ev_gs0, ev_gs1, intOf_i, boolOf_b, strOf_s, dataOf_d, ix_vv, slR_v, pureR_v, callR_1, callR_2, callR_3, callR_4, callR_5, blt_1, blt_2, isiR_some, viewR_v, view_v, frz_v, kE2, fBin, fCmp, negK, fNeg, kC1, kC2, kC3, kC4, kO1, kO2, kN1, kN2, kI1, kI2, tupR, lstR, lstHR, fIx, kS1, kS2, fCall, fIsi, isiD, kL, lcF, kF1, kF2, kAc, kAn, kOi, kOi2, fItems, kR1, kR3, kR4, kEn1, kEn2, kZ1, kZ2, kZ3, zipO, kG2, kG3, kNx, kSa, kSp, setR, setAll, kSg1, kSg2, kSg3, kSe, kSi1, kSi2, kSl, kRt, kA1, kA2, kM1, kM2, st_asg, st_par, st_aug, st_expr, st_ife, st_loop, st_ret, st_ret0, st_brk, st_cnt, st_pas, ss_nil, ss_cons, loopR_nil, run_fd, gd_con, gd_fn, gd_fnP, vals, itemsV, itemsD, seqD, o_add, o_sub, o_lt, o_le, o_gt, o_ge, o_isn, o_isnn, o_eqi, o_nei, o_eqs, o_nes, isNone, List.map, List.length, List.replicate, List.set, List.cons_append, List.nil_append, List.append_nil, Nat.reduceSub, Nat.reduceAdd, wipeD, Option.map_some, Option.map, Bool.not_true, Bool.not_false, reduceCtorEq, ↓reduceIte, Bool.true_eq_false, Bool.false_eq_true, decide_true, decide_false, if_true, if_false, Nat.zero_le, List.isEmpty_nil, List.isEmpty_cons, thenM_exc, thenS_exc, nextS_exc, turnS_exc, finR_exc, pureR_exc, fEqR, ev_eqR, fIsN, ev_isN, ev_isx, ev_atx, st_rai, st_try, tryS_next, tryS_ret, tryS_exc, raiS]
theorem o_p18 : valO (opF .pow (.int 10) (.int 18)) = some (.val (.int 1000000000000000000)) := rfl
def bigD : PyData → PyData
  | .int i => .int (if 1000000000000000000 ≤ i then i else 0)
  | d => d
theorem bigD_map (xs : List Int) : (xs.map PyData.int).map (fun d => RV.val (bigD d)) = (xs.map fun i => if 1000000000000000000 ≤ i then i else 0).map fun i => .val (.int i) := by
  rw [List.map_map, List.map_map]
  rfl
theorem b_list {xs : List PyData} : valO (bfF .list [.list xs]) = some (.val (.list xs)) := rfl
theorem l_begun (k : Nat) (x0 x1 : Option RV) (h : AH) (xs : List Int) (hl : xs.length ≤ 63) :
    lcR (P.gd k) (.nm 2) cc__law_begun_1 ce__law_begun_1 [x0, x1, none] (xs.map .int) [] h = some (.ok ((xs.map fun i => if 1000000000000000000 ≤ i then i else 0).map fun i => .val (.int i)), h) := by
  have q := lc_map (G := P.gd k) (i := 2) (e := ce__law_begun_1) (env := [x0, x1, none]) bigD (xs.map .int) [] h (by
    intro d hd h
    obtain ⟨i, _, rfl⟩ := List.mem_map.mp hd
    by_cases z : 1000000000000000000 ≤ i
    · have z' : (1000000000000000000 ≤ i) = True := eq_true z
      simp only [ce__law_begun_1, bigD, o_p18, z', thenM_ok, thenS_ok, nextS_next, nextS_ret, nextS_brk, nextS_cont, turnS_next, turnS_cont, turnS_brk, turnS_ret, finR_next, finR_ret, sureR_ok, slot0, slotS, conR_some, optR_some, valO_some, two_vv, tru_v, truD, ev_var, ev_cint, ev_cstr, ev_cbl, ev_cnon, ev_glo, ev_bin, ev_neg, ev_cmp, ev_chn, ev_bop, ev_b1, ev_b2, ev_nt, ev_ife, ev_tup, ev_lst, ev_lstH, ev_ix, ev_slc, ev_slcH, ev_call, ev_callP, ev_blt, ev_isi, ev_lc, ev_app, ev_dsp, ev_mth1, ev_frz, ev_a0, ev_a1, ev_c0, ev_c1, ev_o0, ev_o1, ev_iex, ev_rng1, ev_rng2, ev_enu, ev_zip, ev_gnm, ev_gtup, ev_gsub, ev_gs0, ev_gs1, intOf_i, boolOf_b, strOf_s, dataOf_d, ix_vv, slR_v, pureR_v, callR_1, callR_2, callR_3, callR_4, callR_5, blt_1, blt_2, isiR_some, viewR_v, view_v, frz_v, kE2, fBin, fCmp, negK, fNeg, kC1, kC2, kC3, kC4, kO1, kO2, kN1, kN2, kI1, kI2, tupR, lstR, lstHR, fIx, kS1, kS2, fCall, fIsi, isiD, kL, lcF, kF1, kF2, kAc, kAn, kOi, kOi2, fItems, kR1, kR3, kR4, kEn1, kEn2, kZ1, kZ2, kZ3, zipO, kG2, kG3, kNx, kSa, kSp, setR, setAll, kSg1, kSg2, kSg3, kSe, kSi1, kSi2, kSl, kRt, kA1, kA2, kM1, kM2, st_asg, st_par, st_aug, st_expr, st_ife, st_loop, st_ret, st_ret0, st_brk, st_cnt, st_pas, ss_nil, ss_cons, loopR_nil, run_fd, gd_con, gd_fn, gd_fnP, vals, itemsV, itemsD, seqD, o_add, o_sub, o_lt, o_le, o_gt, o_ge, o_isn, o_isnn, o_eqi, o_nei, o_eqs, o_nes, isNone, List.map, List.length, List.replicate, List.set, List.cons_append, List.nil_append, List.append_nil, Nat.reduceSub, Nat.reduceAdd, wipeD, Option.map_some, Option.map, Bool.not_true, Bool.not_false, reduceCtorEq, ↓reduceIte, Bool.true_eq_false, Bool.false_eq_true, decide_true, decide_false, if_true, if_false, Nat.zero_le, List.isEmpty_nil, List.isEmpty_cons, thenM_exc, thenS_exc, nextS_exc, turnS_exc, finR_exc, pureR_exc, fEqR, ev_eqR, fIsN, ev_isN, ev_isx, ev_atx, st_rai, st_try, tryS_next, tryS_ret, tryS_exc, raiS]
    · have z' : (1000000000000000000 ≤ i) = False := eq_false z
      simp only [ce__law_begun_1, bigD, o_p18, z', thenM_ok, thenS_ok, nextS_next, nextS_ret, nextS_brk, nextS_cont, turnS_next, turnS_cont, turnS_brk, turnS_ret, finR_next, finR_ret, sureR_ok, slot0, slotS, conR_some, optR_some, valO_some, two_vv, tru_v, truD, ev_var, ev_cint, ev_cstr, ev_cbl, ev_cnon, ev_glo, ev_bin, ev_neg, ev_cmp, ev_chn, ev_bop, ev_b1, ev_b2, ev_nt, ev_ife, ev_tup, ev_lst, ev_lstH, ev_ix, ev_slc, ev_slcH, ev_call, ev_callP, ev_blt, ev_isi, ev_lc, ev_app, ev_dsp, ev_mth1, ev_frz, ev_a0, ev_a1, ev_c0, ev_c1, ev_o0, ev_o1, ev_iex, ev_rng1, ev_rng2, ev_enu, ev_zip, ev_gnm, ev_gtup, ev_gsub, ev_gs0, ev_gs1, intOf_i, boolOf_b, strOf_s, dataOf_d, ix_vv, slR_v, pureR_v, callR_1, callR_2, callR_3, callR_4, callR_5, blt_1, blt_2, isiR_some, viewR_v, view_v, frz_v, kE2, fBin, fCmp, negK, fNeg, kC1, kC2, kC3, kC4, kO1, kO2, kN1, kN2, kI1, kI2, tupR, lstR, lstHR, fIx, kS1, kS2, fCall, fIsi, isiD, kL, lcF, kF1, kF2, kAc, kAn, kOi, kOi2, fItems, kR1, kR3, kR4, kEn1, kEn2, kZ1, kZ2, kZ3, zipO, kG2, kG3, kNx, kSa, kSp, setR, setAll, kSg1, kSg2, kSg3, kSe, kSi1, kSi2, kSl, kRt, kA1, kA2, kM1, kM2, st_asg, st_par, st_aug, st_expr, st_ife, st_loop, st_ret, st_ret0, st_brk, st_cnt, st_pas, ss_nil, ss_cons, loopR_nil, run_fd, gd_con, gd_fn, gd_fnP, vals, itemsV, itemsD, seqD, o_add, o_sub, o_lt, o_le, o_gt, o_ge, o_isn, o_isnn, o_eqi, o_nei, o_eqs, o_nes, isNone, List.map, List.length, List.replicate, List.set, List.cons_append, List.nil_append, List.append_nil, Nat.reduceSub, Nat.reduceAdd, wipeD, Option.map_some, Option.map, Bool.not_true, Bool.not_false, reduceCtorEq, ↓reduceIte, Bool.true_eq_false, Bool.false_eq_true, decide_true, decide_false, if_true, if_false, Nat.zero_le, List.isEmpty_nil, List.isEmpty_cons, thenM_exc, thenS_exc, nextS_exc, turnS_exc, finR_exc, pureR_exc, fEqR, ev_eqR, fIsN, ev_isN, ev_isx, ev_atx, st_rai, st_try, tryS_next, tryS_ret, tryS_exc, raiS]) (by simp; have := line_ge; omega)
  rw [List.nil_append, bigD_map] at q
  exact q
theorem r_begun (k : Nat) (ns : List Int) (hl : ns.length ≤ 63) : ∃ h' cells left, run P (k + 1) "_law_begun" [.ref 0] [.ro (ns.map .int)] = some (.ok (.ref 2), h') ∧ h'[0]? = some (.ro (ns.map .int)) ∧ MS h' 2 1 cells left 0 0 := by
  have ev2 : ∀ {G : Gd} {env : EnvD} {h : AH} {e : Ex}, denI G (.ex e) env h = thenM (den G e env h) fItems := ev_iex
  have z1 : (1 : Nat) ≤ sizeLine := by decide
  have z0 : (0 : Nat) ≤ sizeLine := by decide
  cases ns with
  | nil =>
    have e1 : twoR (eqF true) (.ref 0) (.val (.list [])) [.ro []] = some (.ok (.val (.bool false)), [.ro []]) := by kernel_rfl
    have ll := l_begun k (some (.ref 0)) (some (.val (.list [.int 0]))) [.ro []] [0] (by decide)
    have ll : lcR (P.gd k) (.nm 2) cc__law_begun_1 ce__law_begun_1 [some (.ref 0), some (.val (.list [.int 0])), none] [.int 0] [] [.ro []] = _ := ll
    refine ⟨[.ro [], .lst (([0].map fun (i : Int) => if 1000000000000000000 ≤ i then i else 0).map fun i => .val (.int i)), .dct (kvs [0] 1 0)], [0], [0].map fun (i : Int) => if 1000000000000000000 ≤ i then i else 0, ?_, rfl, ⟨rfl, rfl, by omega, by omega, by decide, by decide, rfl⟩⟩
    rw [u__law_begun]
    simp only [f__law_begun, e1, ev_dsp, ev2, kL, ll, lcF, fDsp, z0, z1, thenM_ok, thenS_ok, nextS_next, nextS_ret, nextS_brk, nextS_cont, turnS_next, turnS_cont, turnS_brk, turnS_ret, finR_next, finR_ret, sureR_ok, slot0, slotS, conR_some, optR_some, valO_some, two_vv, tru_v, truD, ev_var, ev_cint, ev_cstr, ev_cbl, ev_cnon, ev_glo, ev_bin, ev_neg, ev_cmp, ev_chn, ev_bop, ev_b1, ev_b2, ev_nt, ev_ife, ev_tup, ev_lst, ev_lstH, ev_ix, ev_slc, ev_slcH, ev_call, ev_callP, ev_blt, ev_isi, ev_lc, ev_app, ev_dsp, ev_mth1, ev_frz, ev_a0, ev_a1, ev_c0, ev_c1, ev_o0, ev_o1, ev_iex, ev_rng1, ev_rng2, ev_enu, ev_zip, ev_gnm, ev_gtup, ev_gsub, ev_gs0, ev_gs1, intOf_i, boolOf_b, strOf_s, dataOf_d, ix_vv, slR_v, pureR_v, callR_1, callR_2, callR_3, callR_4, callR_5, blt_1, blt_2, isiR_some, viewR_v, view_v, frz_v, kE2, fBin, fCmp, negK, fNeg, kC1, kC2, kC3, kC4, kO1, kO2, kN1, kN2, kI1, kI2, tupR, lstR, lstHR, fIx, kS1, kS2, fCall, fIsi, isiD, kL, lcF, kF1, kF2, kAc, kAn, kOi, kOi2, fItems, kR1, kR3, kR4, kEn1, kEn2, kZ1, kZ2, kZ3, zipO, kG2, kG3, kNx, kSa, kSp, setR, setAll, kSg1, kSg2, kSg3, kSe, kSi1, kSi2, kSl, kRt, kA1, kA2, kM1, kM2, st_asg, st_par, st_aug, st_expr, st_ife, st_loop, st_ret, st_ret0, st_brk, st_cnt, st_pas, ss_nil, ss_cons, loopR_nil, run_fd, gd_con, gd_fn, gd_fnP, vals, itemsV, itemsD, seqD, o_add, o_sub, o_lt, o_le, o_gt, o_ge, o_isn, o_isnn, o_eqi, o_nei, o_eqs, o_nes, isNone, List.map, List.length, List.replicate, List.set, List.cons_append, List.nil_append, List.append_nil, Nat.reduceSub, Nat.reduceAdd, wipeD, Option.map_some, Option.map, Bool.not_true, Bool.not_false, reduceCtorEq, ↓reduceIte, Bool.true_eq_false, Bool.false_eq_true, decide_true, decide_false, if_true, if_false, Nat.zero_le, List.isEmpty_nil, List.isEmpty_cons, thenM_exc, thenS_exc, nextS_exc, turnS_exc, finR_exc, pureR_exc, fEqR, ev_eqR, fIsN, ev_isN, ev_isx, ev_atx, st_rai, st_try, tryS_next, tryS_ret, tryS_exc, raiS]
    rfl
  | cons a ns =>
    have vw : viewR (.ref 0) [.ro ((a :: ns).map .int)] = some (.list ((a :: ns).map .int)) := viewR_ro (n := 0) rfl
    have e1 : twoR (eqF true) (.ref 0) (.val (.list [])) [.ro ((a :: ns).map .int)] = some (.ok (.val (.bool true)), [.ro ((a :: ns).map .int)]) := by
      have sh := shaped_ints (a :: ns)
      have s0 : SeqAt.shaped (.list []) = true := shaped_ints []
      have q : eqF true (.list ((a :: ns).map .int)) (.list []) = some (.bool true) := by
        show (if (SeqAt.shaped _ && SeqAt.shaped _) = true then some (PyData.bool (!PyData.eqv _ _)) else none) = _
        rw [sh, s0]
        rfl
      unfold twoR
      rw [readM_eq, vw]
      show optR ((eqF true (.list ((a :: ns).map .int)) (.list [])).bind fun d => some (RV.val d)) _ = _
      rw [q]
      rfl
    have ll := l_begun k (some (.ref 0)) (some (.val (.list ((a :: ns).map .int)))) [.ro ((a :: ns).map .int)] (a :: ns) hl
    have b1 : bltR .list [.ref 0] [.ro ((a :: ns).map .int)] = some (.ok (.val (.list ((a :: ns).map .int))), [.ro ((a :: ns).map .int)]) := by
      rw [blt_ref vw, b_list]
      rfl
    generalize eC : a :: ns = cells at *
    refine ⟨[.ro (cells.map .int), .lst ((cells.map fun i => if 1000000000000000000 ≤ i then i else 0).map fun i => .val (.int i)), .dct (kvs cells 1 0)], cells, cells.map fun i => if 1000000000000000000 ≤ i then i else 0, ?_, rfl, ⟨rfl, rfl, by omega, by omega, by rw [← eC]; simp, hl, by simp⟩⟩
    rw [u__law_begun]
    simp only [f__law_begun, e1, b1, ev_dsp, ev2, kL, ll, lcF, fDsp, z0, z1, thenM_ok, thenS_ok, nextS_next, nextS_ret, nextS_brk, nextS_cont, turnS_next, turnS_cont, turnS_brk, turnS_ret, finR_next, finR_ret, sureR_ok, slot0, slotS, conR_some, optR_some, valO_some, two_vv, tru_v, truD, ev_var, ev_cint, ev_cstr, ev_cbl, ev_cnon, ev_glo, ev_bin, ev_neg, ev_cmp, ev_chn, ev_bop, ev_b1, ev_b2, ev_nt, ev_ife, ev_tup, ev_lst, ev_lstH, ev_ix, ev_slc, ev_slcH, ev_call, ev_callP, ev_blt, ev_isi, ev_lc, ev_app, ev_dsp, ev_mth1, ev_frz, ev_a0, ev_a1, ev_c0, ev_c1, ev_o0, ev_o1, ev_iex, ev_rng1, ev_rng2, ev_enu, ev_zip, ev_gnm, ev_gtup, ev_gsub, ev_gs0, ev_gs1, intOf_i, boolOf_b, strOf_s, dataOf_d, ix_vv, slR_v, pureR_v, callR_1, callR_2, callR_3, callR_4, callR_5, blt_1, blt_2, isiR_some, viewR_v, view_v, frz_v, kE2, fBin, fCmp, negK, fNeg, kC1, kC2, kC3, kC4, kO1, kO2, kN1, kN2, kI1, kI2, tupR, lstR, lstHR, fIx, kS1, kS2, fCall, fIsi, isiD, kL, lcF, kF1, kF2, kAc, kAn, kOi, kOi2, fItems, kR1, kR3, kR4, kEn1, kEn2, kZ1, kZ2, kZ3, zipO, kG2, kG3, kNx, kSa, kSp, setR, setAll, kSg1, kSg2, kSg3, kSe, kSi1, kSi2, kSl, kRt, kA1, kA2, kM1, kM2, st_asg, st_par, st_aug, st_expr, st_ife, st_loop, st_ret, st_ret0, st_brk, st_cnt, st_pas, ss_nil, ss_cons, loopR_nil, run_fd, gd_con, gd_fn, gd_fnP, vals, itemsV, itemsD, seqD, o_add, o_sub, o_lt, o_le, o_gt, o_ge, o_isn, o_isnn, o_eqi, o_nei, o_eqs, o_nes, isNone, List.map, List.length, List.replicate, List.set, List.cons_append, List.nil_append, List.append_nil, Nat.reduceSub, Nat.reduceAdd, wipeD, Option.map_some, Option.map, Bool.not_true, Bool.not_false, reduceCtorEq, ↓reduceIte, Bool.true_eq_false, Bool.false_eq_true, decide_true, decide_false, if_true, if_false, Nat.zero_le, List.isEmpty_nil, List.isEmpty_cons, thenM_exc, thenS_exc, nextS_exc, turnS_exc, finR_exc, pureR_exc, fEqR, ev_eqR, fIsN, ev_isN, ev_isx, ev_atx, st_rai, st_try, tryS_next, tryS_ret, tryS_exc, raiS]
    rfl
end L2.K79

set_option maxRecDepth 100000
set_option maxHeartbeats 4000000
namespace L2.K79
open PySem PySem.Spec PyProof.Rows L2 L2.Cap
theorem z1 : (1 : Nat) ≤ sizeLine := by decide
theorem z2 : (2 : Nat) ≤ sizeLine := by decide
theorem z3 : (3 : Nat) ≤ sizeLine := by decide
theorem z0 : (0 : Nat) ≤ sizeLine := by decide
theorem b_abs {i : Int} (h : 0 ≤ i) : valO (bfF .abs [.int i]) = some (.val (.int i)) := by
  show valO (some (PyData.int (if i < 0 then -i else i))) = _
  rw [if_neg (by omega)]
  rfl
theorem l_divisor (k : Nat) (h : AH) : ∀ (n : Nat) (a b : Int), 0 ≤ b → b < n → whileR (P.gd k) wc__law_divisor_1 wb__law_divisor_1 n [some (.val (.int a)), some (.val (.int b))] h = some (.next [some (.val (.int (eu n a b))), some (.val (.int 0))], h)
  | 0, a, b, h0, h1 => by omega
  | n + 1, a, b, h0, h1 => by
    rw [whileR_succ]
    by_cases e : b = 0
    · subst e
      have z' : ((0 : Int) < 0) = False := eq_false (by decide)
      simp only [wc__law_divisor_1, kW1, kW2, eu, z', thenM_ok, thenS_ok, nextS_next, nextS_ret, nextS_brk, nextS_cont, turnS_next, turnS_cont, turnS_brk, turnS_ret, finR_next, finR_ret, sureR_ok, slot0, slotS, conR_some, optR_some, valO_some, two_vv, tru_v, truD, ev_var, ev_cint, ev_cstr, ev_cbl, ev_cnon, ev_glo, ev_bin, ev_neg, ev_cmp, ev_chn, ev_bop, ev_b1, ev_b2, ev_nt, ev_ife, ev_tup, ev_lst, ev_lstH, ev_ix, ev_slc, ev_slcH, ev_call, ev_callP, ev_blt, ev_isi, ev_lc, ev_app, ev_dsp, ev_mth1, ev_frz, ev_a0, ev_a1, ev_c0, ev_c1, ev_o0, ev_o1, ev_iex, ev_rng1, ev_rng2, ev_enu, ev_zip, ev_gnm, ev_gtup, ev_gsub, ev_gs0, ev_gs1, intOf_i, boolOf_b, strOf_s, dataOf_d, ix_vv, slR_v, pureR_v, callR_1, callR_2, callR_3, callR_4, callR_5, blt_1, blt_2, isiR_some, viewR_v, view_v, frz_v, kE2, fBin, fCmp, negK, fNeg, kC1, kC2, kC3, kC4, kO1, kO2, kN1, kN2, kI1, kI2, tupR, lstR, lstHR, fIx, kS1, kS2, fCall, fIsi, isiD, kL, lcF, kF1, kF2, kAc, kAn, kOi, kOi2, fItems, kR1, kR3, kR4, kEn1, kEn2, kZ1, kZ2, kZ3, zipO, kG2, kG3, kNx, kSa, kSp, setR, setAll, kSg1, kSg2, kSg3, kSe, kSi1, kSi2, kSl, kRt, kA1, kA2, kM1, kM2, st_asg, st_par, st_aug, st_expr, st_ife, st_loop, st_ret, st_ret0, st_brk, st_cnt, st_pas, ss_nil, ss_cons, loopR_nil, run_fd, gd_con, gd_fn, gd_fnP, vals, itemsV, itemsD, seqD, o_add, o_sub, o_lt, o_le, o_gt, o_ge, o_isn, o_isnn, o_eqi, o_nei, o_eqs, o_nes, isNone, List.map, List.length, List.replicate, List.set, List.cons_append, List.nil_append, List.append_nil, Nat.reduceSub, Nat.reduceAdd, wipeD, Option.map_some, Option.map, Bool.not_true, Bool.not_false, reduceCtorEq, ↓reduceIte, Bool.true_eq_false, Bool.false_eq_true, decide_true, decide_false, if_true, if_false, Nat.zero_le, List.isEmpty_nil, List.isEmpty_cons, thenM_exc, thenS_exc, nextS_exc, turnS_exc, finR_exc, pureR_exc, fEqR, ev_eqR, fIsN, ev_isN, ev_isx, ev_atx, st_rai, st_try, tryS_next, tryS_ret, tryS_exc, raiS]
    · have p : 0 < b := by omega
      have p' : (0 < b) = True := eq_true p
      have ih := l_divisor k h n b (a % b) (Int.emod_nonneg a e) (by have := Int.emod_lt_of_pos a p; omega)
      simp only [wc__law_divisor_1, wb__law_divisor_1, kW1, kW2, eu, e, p, p', o_mod, b_int, thenM_ok, thenS_ok, nextS_next, nextS_ret, nextS_brk, nextS_cont, turnS_next, turnS_cont, turnS_brk, turnS_ret, finR_next, finR_ret, sureR_ok, slot0, slotS, conR_some, optR_some, valO_some, two_vv, tru_v, truD, ev_var, ev_cint, ev_cstr, ev_cbl, ev_cnon, ev_glo, ev_bin, ev_neg, ev_cmp, ev_chn, ev_bop, ev_b1, ev_b2, ev_nt, ev_ife, ev_tup, ev_lst, ev_lstH, ev_ix, ev_slc, ev_slcH, ev_call, ev_callP, ev_blt, ev_isi, ev_lc, ev_app, ev_dsp, ev_mth1, ev_frz, ev_a0, ev_a1, ev_c0, ev_c1, ev_o0, ev_o1, ev_iex, ev_rng1, ev_rng2, ev_enu, ev_zip, ev_gnm, ev_gtup, ev_gsub, ev_gs0, ev_gs1, intOf_i, boolOf_b, strOf_s, dataOf_d, ix_vv, slR_v, pureR_v, callR_1, callR_2, callR_3, callR_4, callR_5, blt_1, blt_2, isiR_some, viewR_v, view_v, frz_v, kE2, fBin, fCmp, negK, fNeg, kC1, kC2, kC3, kC4, kO1, kO2, kN1, kN2, kI1, kI2, tupR, lstR, lstHR, fIx, kS1, kS2, fCall, fIsi, isiD, kL, lcF, kF1, kF2, kAc, kAn, kOi, kOi2, fItems, kR1, kR3, kR4, kEn1, kEn2, kZ1, kZ2, kZ3, zipO, kG2, kG3, kNx, kSa, kSp, setR, setAll, kSg1, kSg2, kSg3, kSe, kSi1, kSi2, kSl, kRt, kA1, kA2, kM1, kM2, st_asg, st_par, st_aug, st_expr, st_ife, st_loop, st_ret, st_ret0, st_brk, st_cnt, st_pas, ss_nil, ss_cons, loopR_nil, run_fd, gd_con, gd_fn, gd_fnP, vals, itemsV, itemsD, seqD, o_add, o_sub, o_lt, o_le, o_gt, o_ge, o_isn, o_isnn, o_eqi, o_nei, o_eqs, o_nes, isNone, List.map, List.length, List.replicate, List.set, List.cons_append, List.nil_append, List.append_nil, Nat.reduceSub, Nat.reduceAdd, wipeD, Option.map_some, Option.map, Bool.not_true, Bool.not_false, reduceCtorEq, ↓reduceIte, Bool.true_eq_false, Bool.false_eq_true, decide_true, decide_false, if_true, if_false, Nat.zero_le, List.isEmpty_nil, List.isEmpty_cons, thenM_exc, thenS_exc, nextS_exc, turnS_exc, finR_exc, pureR_exc, fEqR, ev_eqR, fIsN, ev_isN, ev_isx, ev_atx, st_rai, st_try, tryS_next, tryS_ret, tryS_exc, raiS]
      exact ih
theorem r_divisor (k : Nat) (a b : Int) (h : AH) (a0 : 0 ≤ a) (b0 : 0 ≤ b) (b1 : b ≤ 100000) : run P (k + 1) "_law_divisor" [.val (.int a), .val (.int b)] h = some (.ok (.val (.int (eu fuelW a b))), h) := by
  have ll := l_divisor k h fuelW a b b0 (by show b < (1000000 : Nat); omega)
  rw [u__law_divisor]
  simp only [f__law_divisor, st_whl, b_abs, a0, b0, thenM_ok, thenS_ok, nextS_next, nextS_ret, nextS_brk, nextS_cont, turnS_next, turnS_cont, turnS_brk, turnS_ret, finR_next, finR_ret, sureR_ok, slot0, slotS, conR_some, optR_some, valO_some, two_vv, tru_v, truD, ev_var, ev_cint, ev_cstr, ev_cbl, ev_cnon, ev_glo, ev_bin, ev_neg, ev_cmp, ev_chn, ev_bop, ev_b1, ev_b2, ev_nt, ev_ife, ev_tup, ev_lst, ev_lstH, ev_ix, ev_slc, ev_slcH, ev_call, ev_callP, ev_blt, ev_isi, ev_lc, ev_app, ev_dsp, ev_mth1, ev_frz, ev_a0, ev_a1, ev_c0, ev_c1, ev_o0, ev_o1, ev_iex, ev_rng1, ev_rng2, ev_enu, ev_zip, ev_gnm, ev_gtup, ev_gsub, ev_gs0, ev_gs1, intOf_i, boolOf_b, strOf_s, dataOf_d, ix_vv, slR_v, pureR_v, callR_1, callR_2, callR_3, callR_4, callR_5, blt_1, blt_2, isiR_some, viewR_v, view_v, frz_v, kE2, fBin, fCmp, negK, fNeg, kC1, kC2, kC3, kC4, kO1, kO2, kN1, kN2, kI1, kI2, tupR, lstR, lstHR, fIx, kS1, kS2, fCall, fIsi, isiD, kL, lcF, kF1, kF2, kAc, kAn, kOi, kOi2, fItems, kR1, kR3, kR4, kEn1, kEn2, kZ1, kZ2, kZ3, zipO, kG2, kG3, kNx, kSa, kSp, setR, setAll, kSg1, kSg2, kSg3, kSe, kSi1, kSi2, kSl, kRt, kA1, kA2, kM1, kM2, st_asg, st_par, st_aug, st_expr, st_ife, st_loop, st_ret, st_ret0, st_brk, st_cnt, st_pas, ss_nil, ss_cons, loopR_nil, run_fd, gd_con, gd_fn, gd_fnP, vals, itemsV, itemsD, seqD, o_add, o_sub, o_lt, o_le, o_gt, o_ge, o_isn, o_isnn, o_eqi, o_nei, o_eqs, o_nes, isNone, List.map, List.length, List.replicate, List.set, List.cons_append, List.nil_append, List.append_nil, Nat.reduceSub, Nat.reduceAdd, wipeD, Option.map_some, Option.map, Bool.not_true, Bool.not_false, reduceCtorEq, ↓reduceIte, Bool.true_eq_false, Bool.false_eq_true, decide_true, decide_false, if_true, if_false, Nat.zero_le, List.isEmpty_nil, List.isEmpty_cons, thenM_exc, thenS_exc, nextS_exc, turnS_exc, finR_exc, pureR_exc, fEqR, ev_eqR, fIsN, ev_isN, ev_isx, ev_atx, st_rai, st_try, tryS_next, tryS_ret, tryS_exc, raiS]
  rw [ll]
  simp only [thenM_ok, thenS_ok, nextS_next, nextS_ret, nextS_brk, nextS_cont, turnS_next, turnS_cont, turnS_brk, turnS_ret, finR_next, finR_ret, sureR_ok, slot0, slotS, conR_some, optR_some, valO_some, two_vv, tru_v, truD, ev_var, ev_cint, ev_cstr, ev_cbl, ev_cnon, ev_glo, ev_bin, ev_neg, ev_cmp, ev_chn, ev_bop, ev_b1, ev_b2, ev_nt, ev_ife, ev_tup, ev_lst, ev_lstH, ev_ix, ev_slc, ev_slcH, ev_call, ev_callP, ev_blt, ev_isi, ev_lc, ev_app, ev_dsp, ev_mth1, ev_frz, ev_a0, ev_a1, ev_c0, ev_c1, ev_o0, ev_o1, ev_iex, ev_rng1, ev_rng2, ev_enu, ev_zip, ev_gnm, ev_gtup, ev_gsub, ev_gs0, ev_gs1, intOf_i, boolOf_b, strOf_s, dataOf_d, ix_vv, slR_v, pureR_v, callR_1, callR_2, callR_3, callR_4, callR_5, blt_1, blt_2, isiR_some, viewR_v, view_v, frz_v, kE2, fBin, fCmp, negK, fNeg, kC1, kC2, kC3, kC4, kO1, kO2, kN1, kN2, kI1, kI2, tupR, lstR, lstHR, fIx, kS1, kS2, fCall, fIsi, isiD, kL, lcF, kF1, kF2, kAc, kAn, kOi, kOi2, fItems, kR1, kR3, kR4, kEn1, kEn2, kZ1, kZ2, kZ3, zipO, kG2, kG3, kNx, kSa, kSp, setR, setAll, kSg1, kSg2, kSg3, kSe, kSi1, kSi2, kSl, kRt, kA1, kA2, kM1, kM2, st_asg, st_par, st_aug, st_expr, st_ife, st_loop, st_ret, st_ret0, st_brk, st_cnt, st_pas, ss_nil, ss_cons, loopR_nil, run_fd, gd_con, gd_fn, gd_fnP, vals, itemsV, itemsD, seqD, o_add, o_sub, o_lt, o_le, o_gt, o_ge, o_isn, o_isnn, o_eqi, o_nei, o_eqs, o_nes, isNone, List.map, List.length, List.replicate, List.set, List.cons_append, List.nil_append, List.append_nil, Nat.reduceSub, Nat.reduceAdd, wipeD, Option.map_some, Option.map, Bool.not_true, Bool.not_false, reduceCtorEq, ↓reduceIte, Bool.true_eq_false, Bool.false_eq_true, decide_true, decide_false, if_true, if_false, Nat.zero_le, List.isEmpty_nil, List.isEmpty_cons, thenM_exc, thenS_exc, nextS_exc, turnS_exc, finR_exc, pureR_exc, fEqR, ev_eqR, fIsN, ev_isN, ev_isx, ev_atx, st_rai, st_try, tryS_next, tryS_ret, tryS_exc, raiS]
structure Rt (a b : Int) : Prop where
  a1 : 1 ≤ a
  a2 : a ≤ 1000
  b1 : 1 ≤ b
  b2 : b ≤ 300
theorem MS.wk {h : AH} {m p : Nat} {cells left : List Int} {s : Int} {n n' : Nat} (M : MS h m p cells left s n) (hn : n ≤ n') : MS h m p cells left s n' :=
  ⟨M.dct, M.lst, M.s0, by have := M.s1; omega, M.c0, M.cl, M.ll⟩
theorem r_near (k : Nat) {h : AH} {m p : Nat} {cells left : List Int} {s : Int} {n : Nat} (M : MS h m p cells left s n) (hn : n < 2 ^ 29) :
    ∃ (a b c d : Int) (h' : AH) (left' : List Int) (s' : Int), run P (k + 3) "_law_near" [.ref m] h = some (.ok (.val (.tuple [frD a b, frD c d])), h') ∧ Rt a b ∧ Rt c d ∧ MS h' m p cells left' s' (n + 5) := by
  obtain ⟨v1, h1, left1, s1, r1, a0, a1, M1, F1⟩ := r_draw k M (by omega) 300 (by decide) (by decide)
  obtain ⟨v2, h2, left2, s2, r2, b0, b1, M2, F2⟩ := r_draw k M1 (by omega) 600 (by decide) (by decide)
  obtain ⟨v3, h3, left3, s3, r3, c0, c1, M3, F3⟩ := r_draw k M2 (by omega) 3 (by decide) (by decide)
  by_cases e0 : v3 = 0
  · obtain ⟨v4, h4, left4, s4, r4, d0, d1, M4, F4⟩ := r_draw k M3 (by omega) 600 (by decide) (by decide)
    obtain ⟨v5, h5, left5, s5, r5, f0, f1, M5, F5⟩ := r_draw k M4 (by omega) 300 (by decide) (by decide)
    refine ⟨1 + v2, 1 + v1, 1 + v4, 1 + v5, h5, left5, s5, ?_, ⟨by omega, by omega, by omega, by omega⟩, ⟨by omega, by omega, by omega, by omega⟩, M5⟩
    have e0' : (v3 = 0) = True := eq_true e0
    rw [u__law_near]
    simp only [f__law_near, frD, r1, r2, r3, r4, r5, e0', z2, thenM_ok, thenS_ok, nextS_next, nextS_ret, nextS_brk, nextS_cont, turnS_next, turnS_cont, turnS_brk, turnS_ret, finR_next, finR_ret, sureR_ok, slot0, slotS, conR_some, optR_some, valO_some, two_vv, tru_v, truD, ev_var, ev_cint, ev_cstr, ev_cbl, ev_cnon, ev_glo, ev_bin, ev_neg, ev_cmp, ev_chn, ev_bop, ev_b1, ev_b2, ev_nt, ev_ife, ev_tup, ev_lst, ev_lstH, ev_ix, ev_slc, ev_slcH, ev_call, ev_callP, ev_blt, ev_isi, ev_lc, ev_app, ev_dsp, ev_mth1, ev_frz, ev_a0, ev_a1, ev_c0, ev_c1, ev_o0, ev_o1, ev_iex, ev_rng1, ev_rng2, ev_enu, ev_zip, ev_gnm, ev_gtup, ev_gsub, ev_gs0, ev_gs1, intOf_i, boolOf_b, strOf_s, dataOf_d, ix_vv, slR_v, pureR_v, callR_1, callR_2, callR_3, callR_4, callR_5, blt_1, blt_2, isiR_some, viewR_v, view_v, frz_v, kE2, fBin, fCmp, negK, fNeg, kC1, kC2, kC3, kC4, kO1, kO2, kN1, kN2, kI1, kI2, tupR, lstR, lstHR, fIx, kS1, kS2, fCall, fIsi, isiD, kL, lcF, kF1, kF2, kAc, kAn, kOi, kOi2, fItems, kR1, kR3, kR4, kEn1, kEn2, kZ1, kZ2, kZ3, zipO, kG2, kG3, kNx, kSa, kSp, setR, setAll, kSg1, kSg2, kSg3, kSe, kSi1, kSi2, kSl, kRt, kA1, kA2, kM1, kM2, st_asg, st_par, st_aug, st_expr, st_ife, st_loop, st_ret, st_ret0, st_brk, st_cnt, st_pas, ss_nil, ss_cons, loopR_nil, run_fd, gd_con, gd_fn, gd_fnP, vals, itemsV, itemsD, seqD, o_add, o_sub, o_lt, o_le, o_gt, o_ge, o_isn, o_isnn, o_eqi, o_nei, o_eqs, o_nes, isNone, List.map, List.length, List.replicate, List.set, List.cons_append, List.nil_append, List.append_nil, Nat.reduceSub, Nat.reduceAdd, wipeD, Option.map_some, Option.map, Bool.not_true, Bool.not_false, reduceCtorEq, ↓reduceIte, Bool.true_eq_false, Bool.false_eq_true, decide_true, decide_false, if_true, if_false, Nat.zero_le, List.isEmpty_nil, List.isEmpty_cons, thenM_exc, thenS_exc, nextS_exc, turnS_exc, finR_exc, pureR_exc, fEqR, ev_eqR, fIsN, ev_isN, ev_isx, ev_atx, st_rai, st_try, tryS_next, tryS_ret, tryS_exc, raiS]
  · have e0' : (v3 = 0) = False := eq_false e0
    by_cases e1 : v3 = 1
    · obtain ⟨v4, h4, left4, s4, r4, d0, d1, M4, F4⟩ := r_draw k M3 (by omega) 2 (by decide) (by decide)
      refine ⟨1 + v2, 1 + v1, 1 + v2 + 1 + v4, 1 + v1, h4, left4, s4, ?_, ⟨by omega, by omega, by omega, by omega⟩, ⟨by omega, by omega, by omega, by omega⟩, M4.wk (by omega)⟩
      have e1' : (v3 = 1) = True := eq_true e1
      rw [u__law_near]
      simp only [f__law_near, frD, r1, r2, r3, r4, e0', e1', z2, thenM_ok, thenS_ok, nextS_next, nextS_ret, nextS_brk, nextS_cont, turnS_next, turnS_cont, turnS_brk, turnS_ret, finR_next, finR_ret, sureR_ok, slot0, slotS, conR_some, optR_some, valO_some, two_vv, tru_v, truD, ev_var, ev_cint, ev_cstr, ev_cbl, ev_cnon, ev_glo, ev_bin, ev_neg, ev_cmp, ev_chn, ev_bop, ev_b1, ev_b2, ev_nt, ev_ife, ev_tup, ev_lst, ev_lstH, ev_ix, ev_slc, ev_slcH, ev_call, ev_callP, ev_blt, ev_isi, ev_lc, ev_app, ev_dsp, ev_mth1, ev_frz, ev_a0, ev_a1, ev_c0, ev_c1, ev_o0, ev_o1, ev_iex, ev_rng1, ev_rng2, ev_enu, ev_zip, ev_gnm, ev_gtup, ev_gsub, ev_gs0, ev_gs1, intOf_i, boolOf_b, strOf_s, dataOf_d, ix_vv, slR_v, pureR_v, callR_1, callR_2, callR_3, callR_4, callR_5, blt_1, blt_2, isiR_some, viewR_v, view_v, frz_v, kE2, fBin, fCmp, negK, fNeg, kC1, kC2, kC3, kC4, kO1, kO2, kN1, kN2, kI1, kI2, tupR, lstR, lstHR, fIx, kS1, kS2, fCall, fIsi, isiD, kL, lcF, kF1, kF2, kAc, kAn, kOi, kOi2, fItems, kR1, kR3, kR4, kEn1, kEn2, kZ1, kZ2, kZ3, zipO, kG2, kG3, kNx, kSa, kSp, setR, setAll, kSg1, kSg2, kSg3, kSe, kSi1, kSi2, kSl, kRt, kA1, kA2, kM1, kM2, st_asg, st_par, st_aug, st_expr, st_ife, st_loop, st_ret, st_ret0, st_brk, st_cnt, st_pas, ss_nil, ss_cons, loopR_nil, run_fd, gd_con, gd_fn, gd_fnP, vals, itemsV, itemsD, seqD, o_add, o_sub, o_lt, o_le, o_gt, o_ge, o_isn, o_isnn, o_eqi, o_nei, o_eqs, o_nes, isNone, List.map, List.length, List.replicate, List.set, List.cons_append, List.nil_append, List.append_nil, Nat.reduceSub, Nat.reduceAdd, wipeD, Option.map_some, Option.map, Bool.not_true, Bool.not_false, reduceCtorEq, ↓reduceIte, Bool.true_eq_false, Bool.false_eq_true, decide_true, decide_false, if_true, if_false, Nat.zero_le, List.isEmpty_nil, List.isEmpty_cons, thenM_exc, thenS_exc, nextS_exc, turnS_exc, finR_exc, pureR_exc, fEqR, ev_eqR, fIsN, ev_isN, ev_isx, ev_atx, st_rai, st_try, tryS_next, tryS_ret, tryS_exc, raiS]
    · have e1' : (v3 = 1) = False := eq_false e1
      by_cases e2 : 1 + v1 < 300
      · refine ⟨1 + v1 + 1, 1 + v1, 1 + v1 + 2, 1 + v1 + 1, h3, left3, s3, ?_, ⟨by omega, by omega, by omega, by omega⟩, ⟨by omega, by omega, by omega, by omega⟩, M3.wk (by omega)⟩
        have e2' : (1 + v1 < 300) = True := eq_true e2
        rw [u__law_near]
        simp only [f__law_near, frD, r1, r2, r3, e0', e1', e2', z2, thenM_ok, thenS_ok, nextS_next, nextS_ret, nextS_brk, nextS_cont, turnS_next, turnS_cont, turnS_brk, turnS_ret, finR_next, finR_ret, sureR_ok, slot0, slotS, conR_some, optR_some, valO_some, two_vv, tru_v, truD, ev_var, ev_cint, ev_cstr, ev_cbl, ev_cnon, ev_glo, ev_bin, ev_neg, ev_cmp, ev_chn, ev_bop, ev_b1, ev_b2, ev_nt, ev_ife, ev_tup, ev_lst, ev_lstH, ev_ix, ev_slc, ev_slcH, ev_call, ev_callP, ev_blt, ev_isi, ev_lc, ev_app, ev_dsp, ev_mth1, ev_frz, ev_a0, ev_a1, ev_c0, ev_c1, ev_o0, ev_o1, ev_iex, ev_rng1, ev_rng2, ev_enu, ev_zip, ev_gnm, ev_gtup, ev_gsub, ev_gs0, ev_gs1, intOf_i, boolOf_b, strOf_s, dataOf_d, ix_vv, slR_v, pureR_v, callR_1, callR_2, callR_3, callR_4, callR_5, blt_1, blt_2, isiR_some, viewR_v, view_v, frz_v, kE2, fBin, fCmp, negK, fNeg, kC1, kC2, kC3, kC4, kO1, kO2, kN1, kN2, kI1, kI2, tupR, lstR, lstHR, fIx, kS1, kS2, fCall, fIsi, isiD, kL, lcF, kF1, kF2, kAc, kAn, kOi, kOi2, fItems, kR1, kR3, kR4, kEn1, kEn2, kZ1, kZ2, kZ3, zipO, kG2, kG3, kNx, kSa, kSp, setR, setAll, kSg1, kSg2, kSg3, kSe, kSi1, kSi2, kSl, kRt, kA1, kA2, kM1, kM2, st_asg, st_par, st_aug, st_expr, st_ife, st_loop, st_ret, st_ret0, st_brk, st_cnt, st_pas, ss_nil, ss_cons, loopR_nil, run_fd, gd_con, gd_fn, gd_fnP, vals, itemsV, itemsD, seqD, o_add, o_sub, o_lt, o_le, o_gt, o_ge, o_isn, o_isnn, o_eqi, o_nei, o_eqs, o_nes, isNone, List.map, List.length, List.replicate, List.set, List.cons_append, List.nil_append, List.append_nil, Nat.reduceSub, Nat.reduceAdd, wipeD, Option.map_some, Option.map, Bool.not_true, Bool.not_false, reduceCtorEq, ↓reduceIte, Bool.true_eq_false, Bool.false_eq_true, decide_true, decide_false, if_true, if_false, Nat.zero_le, List.isEmpty_nil, List.isEmpty_cons, thenM_exc, thenS_exc, nextS_exc, turnS_exc, finR_exc, pureR_exc, fEqR, ev_eqR, fIsN, ev_isN, ev_isx, ev_atx, st_rai, st_try, tryS_next, tryS_ret, tryS_exc, raiS]
      · refine ⟨1 + v1 + 1, 1 + v1, 1 + v1 + 2, 1 + v1, h3, left3, s3, ?_, ⟨by omega, by omega, by omega, by omega⟩, ⟨by omega, by omega, by omega, by omega⟩, M3.wk (by omega)⟩
        have e2' : (1 + v1 < 300) = False := eq_false e2
        rw [u__law_near]
        simp only [f__law_near, frD, r1, r2, r3, e0', e1', e2', z2, thenM_ok, thenS_ok, nextS_next, nextS_ret, nextS_brk, nextS_cont, turnS_next, turnS_cont, turnS_brk, turnS_ret, finR_next, finR_ret, sureR_ok, slot0, slotS, conR_some, optR_some, valO_some, two_vv, tru_v, truD, ev_var, ev_cint, ev_cstr, ev_cbl, ev_cnon, ev_glo, ev_bin, ev_neg, ev_cmp, ev_chn, ev_bop, ev_b1, ev_b2, ev_nt, ev_ife, ev_tup, ev_lst, ev_lstH, ev_ix, ev_slc, ev_slcH, ev_call, ev_callP, ev_blt, ev_isi, ev_lc, ev_app, ev_dsp, ev_mth1, ev_frz, ev_a0, ev_a1, ev_c0, ev_c1, ev_o0, ev_o1, ev_iex, ev_rng1, ev_rng2, ev_enu, ev_zip, ev_gnm, ev_gtup, ev_gsub, ev_gs0, ev_gs1, intOf_i, boolOf_b, strOf_s, dataOf_d, ix_vv, slR_v, pureR_v, callR_1, callR_2, callR_3, callR_4, callR_5, blt_1, blt_2, isiR_some, viewR_v, view_v, frz_v, kE2, fBin, fCmp, negK, fNeg, kC1, kC2, kC3, kC4, kO1, kO2, kN1, kN2, kI1, kI2, tupR, lstR, lstHR, fIx, kS1, kS2, fCall, fIsi, isiD, kL, lcF, kF1, kF2, kAc, kAn, kOi, kOi2, fItems, kR1, kR3, kR4, kEn1, kEn2, kZ1, kZ2, kZ3, zipO, kG2, kG3, kNx, kSa, kSp, setR, setAll, kSg1, kSg2, kSg3, kSe, kSi1, kSi2, kSl, kRt, kA1, kA2, kM1, kM2, st_asg, st_par, st_aug, st_expr, st_ife, st_loop, st_ret, st_ret0, st_brk, st_cnt, st_pas, ss_nil, ss_cons, loopR_nil, run_fd, gd_con, gd_fn, gd_fnP, vals, itemsV, itemsD, seqD, o_add, o_sub, o_lt, o_le, o_gt, o_ge, o_isn, o_isnn, o_eqi, o_nei, o_eqs, o_nes, isNone, List.map, List.length, List.replicate, List.set, List.cons_append, List.nil_append, List.append_nil, Nat.reduceSub, Nat.reduceAdd, wipeD, Option.map_some, Option.map, Bool.not_true, Bool.not_false, reduceCtorEq, ↓reduceIte, Bool.true_eq_false, Bool.false_eq_true, decide_true, decide_false, if_true, if_false, Nat.zero_le, List.isEmpty_nil, List.isEmpty_cons, thenM_exc, thenS_exc, nextS_exc, turnS_exc, finR_exc, pureR_exc, fEqR, ev_eqR, fIsN, ev_isN, ev_isx, ev_atx, st_rai, st_try, tryS_next, tryS_ret, tryS_exc, raiS]
theorem two_of {a b c d : Int} (r : Rt a b) (q : Rt c d) {w : Str} (hw : Word w) : Two [(a, b, w)] [(c, d, w)] := by
  obtain ⟨a1, a2, b1, b2⟩ := r
  obtain ⟨c1, c2, d1, d2⟩ := q
  refine ⟨⟨fun t ht => ?_, Nat.le_of_ble_eq_true rfl, by rw [pb1]; omega⟩, ⟨fun t ht => ?_, Nat.le_of_ble_eq_true rfl, by rw [pb1]; omega⟩, ?_⟩
  · rw [List.mem_singleton] at ht
    subst ht
    exact ⟨a1, by show a ≤ 2000; omega, b1, by show b ≤ 2000; omega, hw⟩
  · rw [List.mem_singleton] at ht
    subst ht
    exact ⟨c1, by show c ≤ 2000; omega, d1, by show d ≤ 2000; omega, hw⟩
  · rw [pb1, pb1]
    have : b * d ≤ 300 * 300 := Int.mul_le_mul b2 d2 (by omega) (by omega)
    omega
theorem ne_pair {i j : Int} : valO (cmF .ne (.tuple [.int i, .int j]) (.tuple [.int i, .int j])) = some (.val (.bool false)) := by
  have h : SeqAt.shaped (.tuple [.int i, .int j]) = true := by simp [SeqAt.shaped, PyData.canLay0, PyData.canLayAll0, PyData.depth, PyData.depthAll]
  rw [valO_ne h h]
  simp [PyData.eqv, PyData.eqvAll]
/-- one word's turn -/
theorem l_word (k : Nat) {a b c d : Int} (r : Rt a b) (q : Rt c d) (le : a * d ≤ c * b) (h : AH) {w : Str} (hw : w = "down" ∨ w = "up") (x0 x1 y5 y6 y7 : Option RV) :
    ∃ y5' y6' y7', denSs (P.gd (k + 20)) lb__law_single_1 [x0, x1, some (.val (.str w)), some (.val (frD a b)), some (.val (frD c d)), y5, y6, y7] h = some (.next [x0, x1, some (.val (.str w)), some (.val (frD a b)), some (.val (frD c d)), y5', y6', y7'], h) := by
  have ww : Word w := by
    rcases hw with q | q
    · exact .inl q
    · exact .inr (.inl q)
  obtain ⟨a1, a2, b1, b2⟩ := r
  obtain ⟨c1, c2, d1, d2⟩ := q
  have t := two_of ⟨a1, a2, b1, b2⟩ ⟨c1, c2, d1, d2⟩ ww
  have q1 : Sm200 a := ⟨by omega, by omega⟩
  have q2 : Sm200 b := ⟨by omega, by omega⟩
  have q3 : Sm200 c := ⟨by omega, by omega⟩
  have q4 : Sm200 d := ⟨by omega, by omega⟩
  by_cases e : a * d = c * b
  · have e' : (a * d = c * b) = True := eq_true e
    obtain ⟨p1, p2⟩ := ap_same a1 b1 c1 d1 e hw
    have g1 : ∀ h, run P (k + 20) "apart_chains" [.val (.tuple [.tuple [.int a, .int b, .str w]]), .val (.tuple [.tuple [.int c, .int d, .str w]])] h = some (.ok (.val .none), h) := fun h => by
      have := r_apart (k + 16) _ _ h t
      rw [p1] at this
      exact this
    have g2 : ∀ h, run P (k + 20) "apart_chains" [.val (.tuple [.tuple [.int c, .int d, .str w]]), .val (.tuple [.tuple [.int a, .int b, .str w]])] h = some (.ok (.val .none), h) := fun h => by
      have := r_apart (k + 16) _ _ h (two_sym t)
      rw [p2] at this
      exact this
    have g3 : ∀ h, run P (k + 20) "alike_chains" [.val (.tuple [.tuple [.int a, .int b, .str w]]), .val (.tuple [.tuple [.int c, .int d, .str w]])] h = some (.ok (.val (.bool true)), h) := fun h => by
      have := r_alike (k + 15) _ _ h t
      rw [p1] at this
      exact this
    obtain ⟨t1, ht1⟩ := (repr_o (o := none) (fun y e => by cases e)).2
    have ht1 : valO (bfF .repr [.list [.none, .none]]) = some (.val (.str t1)) := ht1
    obtain ⟨t2, ht2⟩ := repr_b true
    refine ⟨some (.val .none), some (.val (.tuple [.tuple [.int a, .int b, .str w]])), some (.val (.tuple [.tuple [.int c, .int d, .str w]])), ?_⟩
    simp only [lb__law_single_1, frD, ix2_0, ix2_1, o_mulS, q1, q2, q3, q4, e', g1, g2, g3, ht1, ht2, z1, z2, z3, thenM_ok, thenS_ok, nextS_next, nextS_ret, nextS_brk, nextS_cont, turnS_next, turnS_cont, turnS_brk, turnS_ret, finR_next, finR_ret, sureR_ok, slot0, slotS, conR_some, optR_some, valO_some, two_vv, tru_v, truD, ev_var, ev_cint, ev_cstr, ev_cbl, ev_cnon, ev_glo, ev_bin, ev_neg, ev_cmp, ev_chn, ev_bop, ev_b1, ev_b2, ev_nt, ev_ife, ev_tup, ev_lst, ev_lstH, ev_ix, ev_slc, ev_slcH, ev_call, ev_callP, ev_blt, ev_isi, ev_lc, ev_app, ev_dsp, ev_mth1, ev_frz, ev_a0, ev_a1, ev_c0, ev_c1, ev_o0, ev_o1, ev_iex, ev_rng1, ev_rng2, ev_enu, ev_zip, ev_gnm, ev_gtup, ev_gsub, ev_gs0, ev_gs1, intOf_i, boolOf_b, strOf_s, dataOf_d, ix_vv, slR_v, pureR_v, callR_1, callR_2, callR_3, callR_4, callR_5, blt_1, blt_2, isiR_some, viewR_v, view_v, frz_v, kE2, fBin, fCmp, negK, fNeg, kC1, kC2, kC3, kC4, kO1, kO2, kN1, kN2, kI1, kI2, tupR, lstR, lstHR, fIx, kS1, kS2, fCall, fIsi, isiD, kL, lcF, kF1, kF2, kAc, kAn, kOi, kOi2, fItems, kR1, kR3, kR4, kEn1, kEn2, kZ1, kZ2, kZ3, zipO, kG2, kG3, kNx, kSa, kSp, setR, setAll, kSg1, kSg2, kSg3, kSe, kSi1, kSi2, kSl, kRt, kA1, kA2, kM1, kM2, st_asg, st_par, st_aug, st_expr, st_ife, st_loop, st_ret, st_ret0, st_brk, st_cnt, st_pas, ss_nil, ss_cons, loopR_nil, run_fd, gd_con, gd_fn, gd_fnP, vals, itemsV, itemsD, seqD, o_add, o_sub, o_lt, o_le, o_gt, o_ge, o_isn, o_isnn, o_eqi, o_nei, o_eqs, o_nes, isNone, List.map, List.length, List.replicate, List.set, List.cons_append, List.nil_append, List.append_nil, Nat.reduceSub, Nat.reduceAdd, wipeD, Option.map_some, Option.map, Bool.not_true, Bool.not_false, reduceCtorEq, ↓reduceIte, Bool.true_eq_false, Bool.false_eq_true, decide_true, decide_false, if_true, if_false, Nat.zero_le, List.isEmpty_nil, List.isEmpty_cons, thenM_exc, thenS_exc, nextS_exc, turnS_exc, finR_exc, pureR_exc, fEqR, ev_eqR, fIsN, ev_isN, ev_isx, ev_atx, st_rai, st_try, tryS_next, tryS_ret, tryS_exc, raiS]
  · have e' : (a * d = c * b) = False := eq_false e
    have v : Vl a b c d := ⟨by omega, b1, c1, by omega, by omega⟩
    have m : Sml a b c d := ⟨by omega, by omega, by omega, by omega⟩
    obtain ⟨x, y, rs, B⟩ := r_simple 9 (k + 2) a b c d (decide (w = "down")) v m (by omega)
    have pp : Ap [(a, b, w)] [(c, d, w)] (some y) := by
      rcases hw with rfl | rfl
      · exact ap_down a1 b1 c1 d1 v.lt B t
      · have z : decide (("up" : Str) = "down") = false := decide_eq_false (by rw [L2.K79.d1]; exact id)
        rw [z] at B
        exact ap_up a1 b1 c1 d1 v.lt B t
    obtain ⟨p1, p2⟩ := pp
    have sm := ap_small t p1
    have y1 := B.in_.1
    have g1 : ∀ h, run P (k + 20) "apart_chains" [.val (.tuple [.tuple [.int a, .int b, .str w]]), .val (.tuple [.tuple [.int c, .int d, .str w]])] h = some (.ok (.val (.int y)), h) := fun h => by
      have := r_apart (k + 16) _ _ h t
      rw [p1] at this
      exact this
    have g2 : ∀ h, run P (k + 20) "apart_chains" [.val (.tuple [.tuple [.int c, .int d, .str w]]), .val (.tuple [.tuple [.int a, .int b, .str w]])] h = some (.ok (.val (.int y)), h) := fun h => by
      have := r_apart (k + 16) _ _ h (two_sym t)
      rw [p2] at this
      exact this
    have g3 : ∀ h, run P (k + 20) "alike_chains" [.val (.tuple [.tuple [.int a, .int b, .str w]]), .val (.tuple [.tuple [.int c, .int d, .str w]])] h = some (.ok (.val (.bool false)), h) := fun h => by
      have := r_alike (k + 15) _ _ h t
      rw [p1] at this
      exact this
    have eqm : mv [(a, b, w)] (y - 1) = mv [(c, d, w)] (y - 1) := by
      obtain ⟨_, _, _, a4⟩ := findM_some p1
      exact Decidable.of_not_not (of_decide_eq_false (a4 (y - 1) (by omega) (by omega)))
    have g4 : ∀ h, run P (k + 20) "moved" [.val (.tuple [.tuple [.int a, .int b, .str w]]), .val (.int (y - 1))] h = some (.ok (.val (.int (mv [(a, b, w)] (y - 1)))), h) := fun h => r_moved (k + 16) [(a, b, w)] (y - 1) h t.g.ok t.g.len t.g.prod (by omega) (by omega)
    have g5 : ∀ h, run P (k + 20) "moved" [.val (.tuple [.tuple [.int c, .int d, .str w]]), .val (.int (y - 1))] h = some (.ok (.val (.int (mv [(a, b, w)] (y - 1)))), h) := fun h => by
      rw [eqm]
      exact r_moved (k + 16) [(c, d, w)] (y - 1) h t.g'.ok t.g'.len t.g'.prod (by omega) (by omega)
    obtain ⟨t1, ht1⟩ := (repr_o (o := some y) (fun y' e => by cases e; exact sm)).2
    have ht1 : valO (bfF .repr [.list [.int y, .int y]]) = some (.val (.str t1)) := ht1
    obtain ⟨t2, ht2⟩ := repr_b false
    have y1' : (0 < y) = True := eq_true (by omega)
    refine ⟨some (.val (.int y)), some (.val (.tuple [.tuple [.int a, .int b, .str w]])), some (.val (.tuple [.tuple [.int c, .int d, .str w]])), ?_⟩
    unfold frD at rs
    have rs : ∀ h, run P (k + 20) "_law_simple" [.val (.tuple [.int a, .int b]), .val (.tuple [.int c, .int d]), .val (.bool (decide (w = "down")))] h = some (.ok (.val (.tuple [.int x, .int y])), h) := rs
    simp only [lb__law_single_1, frD, ix2_0, ix2_1, o_mulS, q1, q2, q3, q4, e', rs, g1, g2, g3, g4, g5, y1', ht1, ht2, z1, z2, z3, thenM_ok, thenS_ok, nextS_next, nextS_ret, nextS_brk, nextS_cont, turnS_next, turnS_cont, turnS_brk, turnS_ret, finR_next, finR_ret, sureR_ok, slot0, slotS, conR_some, optR_some, valO_some, two_vv, tru_v, truD, ev_var, ev_cint, ev_cstr, ev_cbl, ev_cnon, ev_glo, ev_bin, ev_neg, ev_cmp, ev_chn, ev_bop, ev_b1, ev_b2, ev_nt, ev_ife, ev_tup, ev_lst, ev_lstH, ev_ix, ev_slc, ev_slcH, ev_call, ev_callP, ev_blt, ev_isi, ev_lc, ev_app, ev_dsp, ev_mth1, ev_frz, ev_a0, ev_a1, ev_c0, ev_c1, ev_o0, ev_o1, ev_iex, ev_rng1, ev_rng2, ev_enu, ev_zip, ev_gnm, ev_gtup, ev_gsub, ev_gs0, ev_gs1, intOf_i, boolOf_b, strOf_s, dataOf_d, ix_vv, slR_v, pureR_v, callR_1, callR_2, callR_3, callR_4, callR_5, blt_1, blt_2, isiR_some, viewR_v, view_v, frz_v, kE2, fBin, fCmp, negK, fNeg, kC1, kC2, kC3, kC4, kO1, kO2, kN1, kN2, kI1, kI2, tupR, lstR, lstHR, fIx, kS1, kS2, fCall, fIsi, isiD, kL, lcF, kF1, kF2, kAc, kAn, kOi, kOi2, fItems, kR1, kR3, kR4, kEn1, kEn2, kZ1, kZ2, kZ3, zipO, kG2, kG3, kNx, kSa, kSp, setR, setAll, kSg1, kSg2, kSg3, kSe, kSi1, kSi2, kSl, kRt, kA1, kA2, kM1, kM2, st_asg, st_par, st_aug, st_expr, st_ife, st_loop, st_ret, st_ret0, st_brk, st_cnt, st_pas, ss_nil, ss_cons, loopR_nil, run_fd, gd_con, gd_fn, gd_fnP, vals, itemsV, itemsD, seqD, o_add, o_sub, o_lt, o_le, o_gt, o_ge, o_isn, o_isnn, o_eqi, o_nei, o_eqs, o_nes, isNone, List.map, List.length, List.replicate, List.set, List.cons_append, List.nil_append, List.append_nil, Nat.reduceSub, Nat.reduceAdd, wipeD, Option.map_some, Option.map, Bool.not_true, Bool.not_false, reduceCtorEq, ↓reduceIte, Bool.true_eq_false, Bool.false_eq_true, decide_true, decide_false, if_true, if_false, Nat.zero_le, List.isEmpty_nil, List.isEmpty_cons, thenM_exc, thenS_exc, nextS_exc, turnS_exc, finR_exc, pureR_exc, fEqR, ev_eqR, fIsN, ev_isN, ev_isx, ev_atx, st_rai, st_try, tryS_next, tryS_ret, tryS_exc, raiS]
theorem r_single (k : Nat) {h : AH} {m p : Nat} {cells left : List Int} {s : Int} {n : Nat} (M : MS h m p cells left s n) (hn : n < 2 ^ 29) :
    ∃ (h' : AH) (left' : List Int) (s' : Int), run P (k + 21) "_law_single" [.ref m] h = some (.ok (.val (.bool true)), h') ∧ MS h' m p cells left' s' (n + 5) := by
  obtain ⟨a, b, c, d, h1, left1, s1, r1, ra, rc, M1⟩ := r_near (k + 17) M hn
  have key : ∀ (a b c d : Int), Rt a b → Rt c d → a * d ≤ c * b → ∀ (h : AH) (x : Option RV), finR (nextS (denS (P.gd (k + 20)) (.asg (.nm 1) (.callP "_law_divisor" (.cons (.ix (.var 3) (.cint 0)) (.cons (.ix (.var 3) (.cint 1)) .nil)))) [some (.ref m), none, none, some (.val (frD a b)), some (.val (frD c d)), none, none, none] h)
      (denSs (P.gd (k + 20)) (match f__law_single.body with | .cons _ (.cons _ (.cons _ r)) => r | _ => .nil))) = some (.ok (.val (.bool true)), h) := by
    intro a b c d ra rc le h x
    obtain ⟨a1, a2, b1, b2⟩ := ra
    have t := two_of ⟨a1, a2, b1, b2⟩ rc (w := "near") (.inr (.inr rfl))
    have e1 := fun h => r_divisor (k + 19) a b h (by omega) (by omega) (by omega)
    have gp := t.g.g
    have eg : gc [(a, b, "near")] = eu fuelW a b := by
      show eu fuelW (a * 1) (b * 1) = _
      rw [Int.mul_one, Int.mul_one]
    rw [eg] at gp
    have e2 : ∀ h, run P (k + 20) "slope" [.val (.tuple [.tuple [.int a, .int b, .str "near"]])] h = some (.ok (.val (.tuple [.int (a / eu fuelW a b), .int (b / eu fuelW a b)])), h) := fun h => by
      have q := r_slope (k + 16) _ h t.g
      rw [eg, pb1, show prA [(a, b, ("near" : Str))] = a from Int.mul_one a] at q
      exact q
    have q1 : 0 < eu fuelW a b := gp.1
    have q2 : Sm200 (eu fuelW a b) := ⟨by omega, by omega⟩
    obtain ⟨u5, u6, u7, w1⟩ := l_word k ⟨a1, a2, b1, b2⟩ rc le h (w := "down") (.inl rfl) (some (.ref m)) (some (.val (.int (eu fuelW a b)))) none none none
    obtain ⟨v5, v6, v7, w2⟩ := l_word k ⟨a1, a2, b1, b2⟩ rc le h (w := "up") (.inr rfl) (some (.ref m)) (some (.val (.int (eu fuelW a b)))) u5 u6 u7
    have lp : loopR (P.gd (k + 20)) (.nm 2) lb__law_single_1 [.str "down", .str "up"] [some (.ref m), some (.val (.int (eu fuelW a b))), none, some (.val (frD a b)), some (.val (frD c d)), none, none, none] h = some (.next [some (.ref m), some (.val (.int (eu fuelW a b))), some (.val (.str "up")), some (.val (frD a b)), some (.val (frD c d)), v5, v6, v7], h) := by
      rw [loopR_cons]
      simp only [kSl2, ev_gnm, sureR_ok, thenS_ok, List.set]
      rw [w1, turnS_next, loopR_cons]
      simp only [kSl2, ev_gnm, sureR_ok, thenS_ok, List.set]
      rw [w2, turnS_next]
      rfl
    unfold frD at lp ⊢
    simp only [f__law_single, e1, e2, ix2_0, ix2_1, o_fdivS, q1, q2, ne_pair, z1, z2, z3, thenM_ok, thenS_ok, nextS_next, nextS_ret, nextS_brk, nextS_cont, turnS_next, turnS_cont, turnS_brk, turnS_ret, finR_next, finR_ret, sureR_ok, slot0, slotS, conR_some, optR_some, valO_some, two_vv, tru_v, truD, ev_var, ev_cint, ev_cstr, ev_cbl, ev_cnon, ev_glo, ev_bin, ev_neg, ev_cmp, ev_chn, ev_bop, ev_b1, ev_b2, ev_nt, ev_ife, ev_tup, ev_lst, ev_lstH, ev_ix, ev_slc, ev_slcH, ev_call, ev_callP, ev_blt, ev_isi, ev_lc, ev_app, ev_dsp, ev_mth1, ev_frz, ev_a0, ev_a1, ev_c0, ev_c1, ev_o0, ev_o1, ev_iex, ev_rng1, ev_rng2, ev_enu, ev_zip, ev_gnm, ev_gtup, ev_gsub, ev_gs0, ev_gs1, intOf_i, boolOf_b, strOf_s, dataOf_d, ix_vv, slR_v, pureR_v, callR_1, callR_2, callR_3, callR_4, callR_5, blt_1, blt_2, isiR_some, viewR_v, view_v, frz_v, kE2, fBin, fCmp, negK, fNeg, kC1, kC2, kC3, kC4, kO1, kO2, kN1, kN2, kI1, kI2, tupR, lstR, lstHR, fIx, kS1, kS2, fCall, fIsi, isiD, kL, lcF, kF1, kF2, kAc, kAn, kOi, kOi2, fItems, kR1, kR3, kR4, kEn1, kEn2, kZ1, kZ2, kZ3, zipO, kG2, kG3, kNx, kSa, kSp, setR, setAll, kSg1, kSg2, kSg3, kSe, kSi1, kSi2, kSl, kRt, kA1, kA2, kM1, kM2, st_asg, st_par, st_aug, st_expr, st_ife, st_loop, st_ret, st_ret0, st_brk, st_cnt, st_pas, ss_nil, ss_cons, loopR_nil, run_fd, gd_con, gd_fn, gd_fnP, vals, itemsV, itemsD, seqD, o_add, o_sub, o_lt, o_le, o_gt, o_ge, o_isn, o_isnn, o_eqi, o_nei, o_eqs, o_nes, isNone, List.map, List.length, List.replicate, List.set, List.cons_append, List.nil_append, List.append_nil, Nat.reduceSub, Nat.reduceAdd, wipeD, Option.map_some, Option.map, Bool.not_true, Bool.not_false, reduceCtorEq, ↓reduceIte, Bool.true_eq_false, Bool.false_eq_true, decide_true, decide_false, if_true, if_false, Nat.zero_le, List.isEmpty_nil, List.isEmpty_cons, thenM_exc, thenS_exc, nextS_exc, turnS_exc, finR_exc, pureR_exc, fEqR, ev_eqR, fIsN, ev_isN, ev_isx, ev_atx, st_rai, st_try, tryS_next, tryS_ret, tryS_exc, raiS]
    rw [lp]
    simp only [thenM_ok, thenS_ok, nextS_next, nextS_ret, nextS_brk, nextS_cont, turnS_next, turnS_cont, turnS_brk, turnS_ret, finR_next, finR_ret, sureR_ok, slot0, slotS, conR_some, optR_some, valO_some, two_vv, tru_v, truD, ev_var, ev_cint, ev_cstr, ev_cbl, ev_cnon, ev_glo, ev_bin, ev_neg, ev_cmp, ev_chn, ev_bop, ev_b1, ev_b2, ev_nt, ev_ife, ev_tup, ev_lst, ev_lstH, ev_ix, ev_slc, ev_slcH, ev_call, ev_callP, ev_blt, ev_isi, ev_lc, ev_app, ev_dsp, ev_mth1, ev_frz, ev_a0, ev_a1, ev_c0, ev_c1, ev_o0, ev_o1, ev_iex, ev_rng1, ev_rng2, ev_enu, ev_zip, ev_gnm, ev_gtup, ev_gsub, ev_gs0, ev_gs1, intOf_i, boolOf_b, strOf_s, dataOf_d, ix_vv, slR_v, pureR_v, callR_1, callR_2, callR_3, callR_4, callR_5, blt_1, blt_2, isiR_some, viewR_v, view_v, frz_v, kE2, fBin, fCmp, negK, fNeg, kC1, kC2, kC3, kC4, kO1, kO2, kN1, kN2, kI1, kI2, tupR, lstR, lstHR, fIx, kS1, kS2, fCall, fIsi, isiD, kL, lcF, kF1, kF2, kAc, kAn, kOi, kOi2, fItems, kR1, kR3, kR4, kEn1, kEn2, kZ1, kZ2, kZ3, zipO, kG2, kG3, kNx, kSa, kSp, setR, setAll, kSg1, kSg2, kSg3, kSe, kSi1, kSi2, kSl, kRt, kA1, kA2, kM1, kM2, st_asg, st_par, st_aug, st_expr, st_ife, st_loop, st_ret, st_ret0, st_brk, st_cnt, st_pas, ss_nil, ss_cons, loopR_nil, run_fd, gd_con, gd_fn, gd_fnP, vals, itemsV, itemsD, seqD, o_add, o_sub, o_lt, o_le, o_gt, o_ge, o_isn, o_isnn, o_eqi, o_nei, o_eqs, o_nes, isNone, List.map, List.length, List.replicate, List.set, List.cons_append, List.nil_append, List.append_nil, Nat.reduceSub, Nat.reduceAdd, wipeD, Option.map_some, Option.map, Bool.not_true, Bool.not_false, reduceCtorEq, ↓reduceIte, Bool.true_eq_false, Bool.false_eq_true, decide_true, decide_false, if_true, if_false, Nat.zero_le, List.isEmpty_nil, List.isEmpty_cons, thenM_exc, thenS_exc, nextS_exc, turnS_exc, finR_exc, pureR_exc, fEqR, ev_eqR, fIsN, ev_isN, ev_isx, ev_atx, st_rai, st_try, tryS_next, tryS_ret, tryS_exc, raiS]
  obtain ⟨a1, a2, b1, b2⟩ := ra
  obtain ⟨c1, c2, d1, d2⟩ := rc
  have q1 : Sm200 a := ⟨by omega, by omega⟩
  have q2 : Sm200 b := ⟨by omega, by omega⟩
  have q3 : Sm200 c := ⟨by omega, by omega⟩
  have q4 : Sm200 d := ⟨by omega, by omega⟩
  refine ⟨h1, left1, s1, ?_, M1⟩
  rw [u__law_single, run_fd]
  unfold frD at r1
  by_cases g : c * b < a * d
  · have g' : (c * b < a * d) = True := eq_true g
    have kk := key c d a b ⟨c1, c2, d1, d2⟩ ⟨a1, a2, b1, b2⟩ (by omega) h1 none
    unfold frD at kk
    rw [← kk]
    simp only [f__law_single]
    rw [ss_cons, st_asg, ev_call]
    simp only [r1, o_mulS, q1, q2, q3, q4, g', ix2_0, ix2_1, thenM_ok, thenS_ok, nextS_next, nextS_ret, nextS_brk, nextS_cont, turnS_next, turnS_cont, turnS_brk, turnS_ret, finR_next, finR_ret, sureR_ok, slot0, slotS, conR_some, optR_some, valO_some, two_vv, tru_v, truD, ev_var, ev_cint, ev_cstr, ev_cbl, ev_cnon, ev_glo, ev_bin, ev_neg, ev_cmp, ev_chn, ev_bop, ev_b1, ev_b2, ev_nt, ev_ife, ev_tup, ev_lst, ev_lstH, ev_ix, ev_slc, ev_slcH, ev_call, ev_callP, ev_blt, ev_isi, ev_lc, ev_app, ev_dsp, ev_mth1, ev_frz, ev_a0, ev_a1, ev_c0, ev_c1, ev_o0, ev_o1, ev_iex, ev_rng1, ev_rng2, ev_enu, ev_zip, ev_gnm, ev_gtup, ev_gsub, ev_gs0, ev_gs1, intOf_i, boolOf_b, strOf_s, dataOf_d, ix_vv, slR_v, pureR_v, callR_1, callR_2, callR_3, callR_4, callR_5, blt_1, blt_2, isiR_some, viewR_v, view_v, frz_v, kE2, fBin, fCmp, negK, fNeg, kC1, kC2, kC3, kC4, kO1, kO2, kN1, kN2, kI1, kI2, tupR, lstR, lstHR, fIx, kS1, kS2, fCall, fIsi, isiD, kL, lcF, kF1, kF2, kAc, kAn, kOi, kOi2, fItems, kR1, kR3, kR4, kEn1, kEn2, kZ1, kZ2, kZ3, zipO, kG2, kG3, kNx, kSa, kSp, setR, setAll, kSg1, kSg2, kSg3, kSe, kSi1, kSi2, kSl, kRt, kA1, kA2, kM1, kM2, st_asg, st_par, st_aug, st_expr, st_ife, st_loop, st_ret, st_ret0, st_brk, st_cnt, st_pas, ss_nil, ss_cons, loopR_nil, run_fd, gd_con, gd_fn, gd_fnP, vals, itemsV, itemsD, seqD, o_add, o_sub, o_lt, o_le, o_gt, o_ge, o_isn, o_isnn, o_eqi, o_nei, o_eqs, o_nes, isNone, List.map, List.length, List.replicate, List.set, List.cons_append, List.nil_append, List.append_nil, Nat.reduceSub, Nat.reduceAdd, wipeD, Option.map_some, Option.map, Bool.not_true, Bool.not_false, reduceCtorEq, ↓reduceIte, Bool.true_eq_false, Bool.false_eq_true, decide_true, decide_false, if_true, if_false, Nat.zero_le, List.isEmpty_nil, List.isEmpty_cons, thenM_exc, thenS_exc, nextS_exc, turnS_exc, finR_exc, pureR_exc, fEqR, ev_eqR, fIsN, ev_isN, ev_isx, ev_atx, st_rai, st_try, tryS_next, tryS_ret, tryS_exc, raiS]
  · have g' : (c * b < a * d) = False := eq_false g
    have kk := key a b c d ⟨a1, a2, b1, b2⟩ ⟨c1, c2, d1, d2⟩ (by omega) h1 none
    unfold frD at kk
    rw [← kk]
    simp only [f__law_single]
    rw [ss_cons, st_asg, ev_call]
    simp only [r1, o_mulS, q1, q2, q3, q4, g', ix2_0, ix2_1, thenM_ok, thenS_ok, nextS_next, nextS_ret, nextS_brk, nextS_cont, turnS_next, turnS_cont, turnS_brk, turnS_ret, finR_next, finR_ret, sureR_ok, slot0, slotS, conR_some, optR_some, valO_some, two_vv, tru_v, truD, ev_var, ev_cint, ev_cstr, ev_cbl, ev_cnon, ev_glo, ev_bin, ev_neg, ev_cmp, ev_chn, ev_bop, ev_b1, ev_b2, ev_nt, ev_ife, ev_tup, ev_lst, ev_lstH, ev_ix, ev_slc, ev_slcH, ev_call, ev_callP, ev_blt, ev_isi, ev_lc, ev_app, ev_dsp, ev_mth1, ev_frz, ev_a0, ev_a1, ev_c0, ev_c1, ev_o0, ev_o1, ev_iex, ev_rng1, ev_rng2, ev_enu, ev_zip, ev_gnm, ev_gtup, ev_gsub, ev_gs0, ev_gs1, intOf_i, boolOf_b, strOf_s, dataOf_d, ix_vv, slR_v, pureR_v, callR_1, callR_2, callR_3, callR_4, callR_5, blt_1, blt_2, isiR_some, viewR_v, view_v, frz_v, kE2, fBin, fCmp, negK, fNeg, kC1, kC2, kC3, kC4, kO1, kO2, kN1, kN2, kI1, kI2, tupR, lstR, lstHR, fIx, kS1, kS2, fCall, fIsi, isiD, kL, lcF, kF1, kF2, kAc, kAn, kOi, kOi2, fItems, kR1, kR3, kR4, kEn1, kEn2, kZ1, kZ2, kZ3, zipO, kG2, kG3, kNx, kSa, kSp, setR, setAll, kSg1, kSg2, kSg3, kSe, kSi1, kSi2, kSl, kRt, kA1, kA2, kM1, kM2, st_asg, st_par, st_aug, st_expr, st_ife, st_loop, st_ret, st_ret0, st_brk, st_cnt, st_pas, ss_nil, ss_cons, loopR_nil, run_fd, gd_con, gd_fn, gd_fnP, vals, itemsV, itemsD, seqD, o_add, o_sub, o_lt, o_le, o_gt, o_ge, o_isn, o_isnn, o_eqi, o_nei, o_eqs, o_nes, isNone, List.map, List.length, List.replicate, List.set, List.cons_append, List.nil_append, List.append_nil, Nat.reduceSub, Nat.reduceAdd, wipeD, Option.map_some, Option.map, Bool.not_true, Bool.not_false, reduceCtorEq, ↓reduceIte, Bool.true_eq_false, Bool.false_eq_true, decide_true, decide_false, if_true, if_false, Nat.zero_le, List.isEmpty_nil, List.isEmpty_cons, thenM_exc, thenS_exc, nextS_exc, turnS_exc, finR_exc, pureR_exc, fEqR, ev_eqR, fIsN, ev_isN, ev_isx, ev_atx, st_rai, st_try, tryS_next, tryS_ret, tryS_exc, raiS]
end L2.K79

set_option maxRecDepth 100000
set_option maxHeartbeats 4000000
namespace L2.K79
open PySem PySem.Spec PyProof.Rows L2 L2.Cap
theorem r_lstep (k : Nat) (t : St3) (f : Int) (h : AH) (ht : OkS t) (hf : 0 ≤ f) (hf2 : f < 2 ^ 180) :
    run P (k + 1) "_law_step" [.val (stD t), .val (.int f)] h = some (.ok (.val (.int (stp t.1 t.2.1 t.2.2 f))), h) := by
  obtain ⟨a, b, s⟩ := t
  obtain ⟨a1, a2, b1, b2, w⟩ := ht
  dsimp only at a1 a2 b1 b2 w ⊢
  have q0 : Sm200 f := ⟨by omega, by omega⟩
  have q1 : Sm200 a := ⟨by omega, by omega⟩
  have q2 : Sm200 (2 * f) := ⟨by omega, by omega⟩
  have q3 : Sm200 b := ⟨by omega, by omega⟩
  have q4 : Sm200 2 := ⟨by omega, by omega⟩
  have q5 : Sm200 (2 * b) := ⟨by omega, by omega⟩
  have p1 : 0 < b := by omega
  have p2 : 0 < 2 * b := by omega
  rw [u__law_step]
  rcases w with rfl | rfl | rfl <;> simp only [stD, stp, f__law_step, s_down, s_up, s_near, d1, d2, d3, o_mulS, o_fdivS, q0, q1, q2, q3, q4, q5, p1, p2, thenM_ok, thenS_ok, nextS_next, nextS_ret, nextS_brk, nextS_cont, turnS_next, turnS_cont, turnS_brk, turnS_ret, finR_next, finR_ret, sureR_ok, slot0, slotS, conR_some, optR_some, valO_some, two_vv, tru_v, truD, ev_var, ev_cint, ev_cstr, ev_cbl, ev_cnon, ev_glo, ev_bin, ev_neg, ev_cmp, ev_chn, ev_bop, ev_b1, ev_b2, ev_nt, ev_ife, ev_tup, ev_lst, ev_lstH, ev_ix, ev_slc, ev_slcH, ev_call, ev_callP, ev_blt, ev_isi, ev_lc, ev_app, ev_dsp, ev_mth1, ev_frz, ev_a0, ev_a1, ev_c0, ev_c1, ev_o0, ev_o1, ev_iex, ev_rng1, ev_rng2, ev_enu, ev_zip, ev_gnm, ev_gtup, ev_gsub, ev_gs0, ev_gs1, intOf_i, boolOf_b, strOf_s, dataOf_d, ix_vv, slR_v, pureR_v, callR_1, callR_2, callR_3, callR_4, callR_5, blt_1, blt_2, isiR_some, viewR_v, view_v, frz_v, kE2, fBin, fCmp, negK, fNeg, kC1, kC2, kC3, kC4, kO1, kO2, kN1, kN2, kI1, kI2, tupR, lstR, lstHR, fIx, kS1, kS2, fCall, fIsi, isiD, kL, lcF, kF1, kF2, kAc, kAn, kOi, kOi2, fItems, kR1, kR3, kR4, kEn1, kEn2, kZ1, kZ2, kZ3, zipO, kG2, kG3, kNx, kSa, kSp, setR, setAll, kSg1, kSg2, kSg3, kSe, kSi1, kSi2, kSl, kRt, kA1, kA2, kM1, kM2, st_asg, st_par, st_aug, st_expr, st_ife, st_loop, st_ret, st_ret0, st_brk, st_cnt, st_pas, ss_nil, ss_cons, loopR_nil, run_fd, gd_con, gd_fn, gd_fnP, vals, itemsV, itemsD, seqD, o_add, o_sub, o_lt, o_le, o_gt, o_ge, o_isn, o_isnn, o_eqi, o_nei, o_eqs, o_nes, isNone, List.map, List.length, List.replicate, List.set, List.cons_append, List.nil_append, List.append_nil, Nat.reduceSub, Nat.reduceAdd, wipeD, Option.map_some, Option.map, Bool.not_true, Bool.not_false, reduceCtorEq, ↓reduceIte, Bool.true_eq_false, Bool.false_eq_true, decide_true, decide_false, if_true, if_false, Nat.zero_le, List.isEmpty_nil, List.isEmpty_cons, thenM_exc, thenS_exc, nextS_exc, turnS_exc, finR_exc, pureR_exc, fEqR, ev_eqR, fIsN, ev_isN, ev_isx, ev_atx, st_rai, st_try, tryS_next, tryS_ret, tryS_exc, raiS]
theorem l_led (k : Nat) (x : RV) (h : AH) : ∀ (c : List St3) (f : Int) (y : Option RV) (e : Nat), OkC c → 0 ≤ f → f < 2 ^ e → e + 12 * c.length ≤ 180 →
    ∃ y', loopR (P.gd (k + 1)) (.nm 2) lb__law_led_1 (c.map stD) [some x, some (.val (.int f)), y] h = some (.next [some x, some (.val (.int (mv c f))), y'], h)
  | [], f, y, e, _, _, _, _ => ⟨y, by rw [List.map_nil, loopR_nil]; rfl⟩
  | t :: c, f, y, e, hc, h0, h1, he => by
    rw [List.length_cons] at he
    have ht := hc t (List.mem_cons_self ..)
    have q := stp_nn ht h0
    obtain ⟨y', ih⟩ := l_led k x h c (stp t.1 t.2.1 t.2.2 f) (some (.val (stD t))) (e + 12) (fun x hx => hc x (List.mem_cons_of_mem _ hx)) q.1 (by have := pow12 h0 h1; omega) (by omega)
    have hf2 : f < 2 ^ 180 := by have := pow_le (e := e) (by omega); omega
    have rs := fun h => r_lstep k t f h ht h0 hf2
    refine ⟨y', ?_⟩
    rw [List.map_cons, loopR_cons]
    simp only [lb__law_led_1, kSl2, rs, thenM_ok, thenS_ok, nextS_next, nextS_ret, nextS_brk, nextS_cont, turnS_next, turnS_cont, turnS_brk, turnS_ret, finR_next, finR_ret, sureR_ok, slot0, slotS, conR_some, optR_some, valO_some, two_vv, tru_v, truD, ev_var, ev_cint, ev_cstr, ev_cbl, ev_cnon, ev_glo, ev_bin, ev_neg, ev_cmp, ev_chn, ev_bop, ev_b1, ev_b2, ev_nt, ev_ife, ev_tup, ev_lst, ev_lstH, ev_ix, ev_slc, ev_slcH, ev_call, ev_callP, ev_blt, ev_isi, ev_lc, ev_app, ev_dsp, ev_mth1, ev_frz, ev_a0, ev_a1, ev_c0, ev_c1, ev_o0, ev_o1, ev_iex, ev_rng1, ev_rng2, ev_enu, ev_zip, ev_gnm, ev_gtup, ev_gsub, ev_gs0, ev_gs1, intOf_i, boolOf_b, strOf_s, dataOf_d, ix_vv, slR_v, pureR_v, callR_1, callR_2, callR_3, callR_4, callR_5, blt_1, blt_2, isiR_some, viewR_v, view_v, frz_v, kE2, fBin, fCmp, negK, fNeg, kC1, kC2, kC3, kC4, kO1, kO2, kN1, kN2, kI1, kI2, tupR, lstR, lstHR, fIx, kS1, kS2, fCall, fIsi, isiD, kL, lcF, kF1, kF2, kAc, kAn, kOi, kOi2, fItems, kR1, kR3, kR4, kEn1, kEn2, kZ1, kZ2, kZ3, zipO, kG2, kG3, kNx, kSa, kSp, setR, setAll, kSg1, kSg2, kSg3, kSe, kSi1, kSi2, kSl, kRt, kA1, kA2, kM1, kM2, st_asg, st_par, st_aug, st_expr, st_ife, st_loop, st_ret, st_ret0, st_brk, st_cnt, st_pas, ss_nil, ss_cons, loopR_nil, run_fd, gd_con, gd_fn, gd_fnP, vals, itemsV, itemsD, seqD, o_add, o_sub, o_lt, o_le, o_gt, o_ge, o_isn, o_isnn, o_eqi, o_nei, o_eqs, o_nes, isNone, List.map, List.length, List.replicate, List.set, List.cons_append, List.nil_append, List.append_nil, Nat.reduceSub, Nat.reduceAdd, wipeD, Option.map_some, Option.map, Bool.not_true, Bool.not_false, reduceCtorEq, ↓reduceIte, Bool.true_eq_false, Bool.false_eq_true, decide_true, decide_false, if_true, if_false, Nat.zero_le, List.isEmpty_nil, List.isEmpty_cons, thenM_exc, thenS_exc, nextS_exc, turnS_exc, finR_exc, pureR_exc, fEqR, ev_eqR, fIsN, ev_isN, ev_isx, ev_atx, st_rai, st_try, tryS_next, tryS_ret, tryS_exc, raiS]
    exact ih
theorem r_led (k : Nat) (c : List St3) (f : Int) (h : AH) (hc : OkC c) (hl : c.length ≤ 8) (h0 : 0 ≤ f) (h1 : f < 2 ^ 64) :
    run P (k + 2) "_law_led" [.val (chD c), .val (.int f)] h = some (.ok (.val (.int (mv c f))), h) := by
  obtain ⟨y, ll⟩ := l_led k (.val (chD c)) h c f none 64 hc h0 h1 (by omega)
  rw [u__law_led]
  simp only [f__law_led, chD, thenM_ok, thenS_ok, nextS_next, nextS_ret, nextS_brk, nextS_cont, turnS_next, turnS_cont, turnS_brk, turnS_ret, finR_next, finR_ret, sureR_ok, slot0, slotS, conR_some, optR_some, valO_some, two_vv, tru_v, truD, ev_var, ev_cint, ev_cstr, ev_cbl, ev_cnon, ev_glo, ev_bin, ev_neg, ev_cmp, ev_chn, ev_bop, ev_b1, ev_b2, ev_nt, ev_ife, ev_tup, ev_lst, ev_lstH, ev_ix, ev_slc, ev_slcH, ev_call, ev_callP, ev_blt, ev_isi, ev_lc, ev_app, ev_dsp, ev_mth1, ev_frz, ev_a0, ev_a1, ev_c0, ev_c1, ev_o0, ev_o1, ev_iex, ev_rng1, ev_rng2, ev_enu, ev_zip, ev_gnm, ev_gtup, ev_gsub, ev_gs0, ev_gs1, intOf_i, boolOf_b, strOf_s, dataOf_d, ix_vv, slR_v, pureR_v, callR_1, callR_2, callR_3, callR_4, callR_5, blt_1, blt_2, isiR_some, viewR_v, view_v, frz_v, kE2, fBin, fCmp, negK, fNeg, kC1, kC2, kC3, kC4, kO1, kO2, kN1, kN2, kI1, kI2, tupR, lstR, lstHR, fIx, kS1, kS2, fCall, fIsi, isiD, kL, lcF, kF1, kF2, kAc, kAn, kOi, kOi2, fItems, kR1, kR3, kR4, kEn1, kEn2, kZ1, kZ2, kZ3, zipO, kG2, kG3, kNx, kSa, kSp, setR, setAll, kSg1, kSg2, kSg3, kSe, kSi1, kSi2, kSl, kRt, kA1, kA2, kM1, kM2, st_asg, st_par, st_aug, st_expr, st_ife, st_loop, st_ret, st_ret0, st_brk, st_cnt, st_pas, ss_nil, ss_cons, loopR_nil, run_fd, gd_con, gd_fn, gd_fnP, vals, itemsV, itemsD, seqD, o_add, o_sub, o_lt, o_le, o_gt, o_ge, o_isn, o_isnn, o_eqi, o_nei, o_eqs, o_nes, isNone, List.map, List.length, List.replicate, List.set, List.cons_append, List.nil_append, List.append_nil, Nat.reduceSub, Nat.reduceAdd, wipeD, Option.map_some, Option.map, Bool.not_true, Bool.not_false, reduceCtorEq, ↓reduceIte, Bool.true_eq_false, Bool.false_eq_true, decide_true, decide_false, if_true, if_false, Nat.zero_le, List.isEmpty_nil, List.isEmpty_cons, thenM_exc, thenS_exc, nextS_exc, turnS_exc, finR_exc, pureR_exc, fEqR, ev_eqR, fIsN, ev_isN, ev_isx, ev_atx, st_rai, st_try, tryS_next, tryS_ret, tryS_exc, raiS]
  simp only [chD] at ll
  rw [ll]
  simp only [thenM_ok, thenS_ok, nextS_next, nextS_ret, nextS_brk, nextS_cont, turnS_next, turnS_cont, turnS_brk, turnS_ret, finR_next, finR_ret, sureR_ok, slot0, slotS, conR_some, optR_some, valO_some, two_vv, tru_v, truD, ev_var, ev_cint, ev_cstr, ev_cbl, ev_cnon, ev_glo, ev_bin, ev_neg, ev_cmp, ev_chn, ev_bop, ev_b1, ev_b2, ev_nt, ev_ife, ev_tup, ev_lst, ev_lstH, ev_ix, ev_slc, ev_slcH, ev_call, ev_callP, ev_blt, ev_isi, ev_lc, ev_app, ev_dsp, ev_mth1, ev_frz, ev_a0, ev_a1, ev_c0, ev_c1, ev_o0, ev_o1, ev_iex, ev_rng1, ev_rng2, ev_enu, ev_zip, ev_gnm, ev_gtup, ev_gsub, ev_gs0, ev_gs1, intOf_i, boolOf_b, strOf_s, dataOf_d, ix_vv, slR_v, pureR_v, callR_1, callR_2, callR_3, callR_4, callR_5, blt_1, blt_2, isiR_some, viewR_v, view_v, frz_v, kE2, fBin, fCmp, negK, fNeg, kC1, kC2, kC3, kC4, kO1, kO2, kN1, kN2, kI1, kI2, tupR, lstR, lstHR, fIx, kS1, kS2, fCall, fIsi, isiD, kL, lcF, kF1, kF2, kAc, kAn, kOi, kOi2, fItems, kR1, kR3, kR4, kEn1, kEn2, kZ1, kZ2, kZ3, zipO, kG2, kG3, kNx, kSa, kSp, setR, setAll, kSg1, kSg2, kSg3, kSe, kSi1, kSi2, kSl, kRt, kA1, kA2, kM1, kM2, st_asg, st_par, st_aug, st_expr, st_ife, st_loop, st_ret, st_ret0, st_brk, st_cnt, st_pas, ss_nil, ss_cons, loopR_nil, run_fd, gd_con, gd_fn, gd_fnP, vals, itemsV, itemsD, seqD, o_add, o_sub, o_lt, o_le, o_gt, o_ge, o_isn, o_isnn, o_eqi, o_nei, o_eqs, o_nes, isNone, List.map, List.length, List.replicate, List.set, List.cons_append, List.nil_append, List.append_nil, Nat.reduceSub, Nat.reduceAdd, wipeD, Option.map_some, Option.map, Bool.not_true, Bool.not_false, reduceCtorEq, ↓reduceIte, Bool.true_eq_false, Bool.false_eq_true, decide_true, decide_false, if_true, if_false, Nat.zero_le, List.isEmpty_nil, List.isEmpty_cons, thenM_exc, thenS_exc, nextS_exc, turnS_exc, finR_exc, pureR_exc, fEqR, ev_eqR, fIsN, ev_isN, ev_isx, ev_atx, st_rai, st_try, tryS_next, tryS_ret, tryS_exc, raiS]
theorem l_first (k : Nat) (c e : List St3) (h : AH) (g : Good4 c) (g' : Good4 e) (w : Option RV) : ∀ (n : Nat) (j : Int) (z : Option RV), 0 ≤ j → j + n ≤ 2 ^ 40 →
    (findM (prt c e) j n = none → ∃ z', loopR (P.gd (k + 2)) (.nm 3) lb__law_first_1 (rngL j n) [some (.val (chD c)), some (.val (chD e)), w, z] h = some (.next [some (.val (chD c)), some (.val (chD e)), w, z'], h)) ∧
    (∀ m, findM (prt c e) j n = some m → loopR (P.gd (k + 2)) (.nm 3) lb__law_first_1 (rngL j n) [some (.val (chD c)), some (.val (chD e)), w, z] h = some (.ret (.val (.int m)), h))
  | 0, j, z, _, _ => ⟨fun _ => ⟨z, rfl⟩, fun m e => by cases e⟩
  | n + 1, j, z, h0, h1 => by
    have ih := l_first k c e h g g' w n (j + 1) (some (.val (.int j))) (by omega) (by omega)
    have e1 := fun h => r_led k c j h g.ok (by have := g.len; omega) h0 (by omega)
    have e2 := fun h => r_led k e j h g'.ok (by have := g'.len; omega) h0 (by omega)
    rw [findM, rngL, loopR_cons]
    by_cases q : mv c j = mv e j
    · have p : prt c e j = false := by simp [prt, q]
      have e' : (mv c j = mv e j) = True := eq_true q
      rw [p, if_neg Bool.false_ne_true]
      refine ⟨fun q => ?_, fun m q => ?_⟩
      · obtain ⟨z', r⟩ := ih.1 q
        refine ⟨z', ?_⟩
        simp only [lb__law_first_1, kSl2, e1, e2, e', thenM_ok, thenS_ok, nextS_next, nextS_ret, nextS_brk, nextS_cont, turnS_next, turnS_cont, turnS_brk, turnS_ret, finR_next, finR_ret, sureR_ok, slot0, slotS, conR_some, optR_some, valO_some, two_vv, tru_v, truD, ev_var, ev_cint, ev_cstr, ev_cbl, ev_cnon, ev_glo, ev_bin, ev_neg, ev_cmp, ev_chn, ev_bop, ev_b1, ev_b2, ev_nt, ev_ife, ev_tup, ev_lst, ev_lstH, ev_ix, ev_slc, ev_slcH, ev_call, ev_callP, ev_blt, ev_isi, ev_lc, ev_app, ev_dsp, ev_mth1, ev_frz, ev_a0, ev_a1, ev_c0, ev_c1, ev_o0, ev_o1, ev_iex, ev_rng1, ev_rng2, ev_enu, ev_zip, ev_gnm, ev_gtup, ev_gsub, ev_gs0, ev_gs1, intOf_i, boolOf_b, strOf_s, dataOf_d, ix_vv, slR_v, pureR_v, callR_1, callR_2, callR_3, callR_4, callR_5, blt_1, blt_2, isiR_some, viewR_v, view_v, frz_v, kE2, fBin, fCmp, negK, fNeg, kC1, kC2, kC3, kC4, kO1, kO2, kN1, kN2, kI1, kI2, tupR, lstR, lstHR, fIx, kS1, kS2, fCall, fIsi, isiD, kL, lcF, kF1, kF2, kAc, kAn, kOi, kOi2, fItems, kR1, kR3, kR4, kEn1, kEn2, kZ1, kZ2, kZ3, zipO, kG2, kG3, kNx, kSa, kSp, setR, setAll, kSg1, kSg2, kSg3, kSe, kSi1, kSi2, kSl, kRt, kA1, kA2, kM1, kM2, st_asg, st_par, st_aug, st_expr, st_ife, st_loop, st_ret, st_ret0, st_brk, st_cnt, st_pas, ss_nil, ss_cons, loopR_nil, run_fd, gd_con, gd_fn, gd_fnP, vals, itemsV, itemsD, seqD, o_add, o_sub, o_lt, o_le, o_gt, o_ge, o_isn, o_isnn, o_eqi, o_nei, o_eqs, o_nes, isNone, List.map, List.length, List.replicate, List.set, List.cons_append, List.nil_append, List.append_nil, Nat.reduceSub, Nat.reduceAdd, wipeD, Option.map_some, Option.map, Bool.not_true, Bool.not_false, reduceCtorEq, ↓reduceIte, Bool.true_eq_false, Bool.false_eq_true, decide_true, decide_false, if_true, if_false, Nat.zero_le, List.isEmpty_nil, List.isEmpty_cons, thenM_exc, thenS_exc, nextS_exc, turnS_exc, finR_exc, pureR_exc, fEqR, ev_eqR, fIsN, ev_isN, ev_isx, ev_atx, st_rai, st_try, tryS_next, tryS_ret, tryS_exc, raiS]
        exact r
      · have r := ih.2 m q
        simp only [lb__law_first_1, kSl2, e1, e2, e', thenM_ok, thenS_ok, nextS_next, nextS_ret, nextS_brk, nextS_cont, turnS_next, turnS_cont, turnS_brk, turnS_ret, finR_next, finR_ret, sureR_ok, slot0, slotS, conR_some, optR_some, valO_some, two_vv, tru_v, truD, ev_var, ev_cint, ev_cstr, ev_cbl, ev_cnon, ev_glo, ev_bin, ev_neg, ev_cmp, ev_chn, ev_bop, ev_b1, ev_b2, ev_nt, ev_ife, ev_tup, ev_lst, ev_lstH, ev_ix, ev_slc, ev_slcH, ev_call, ev_callP, ev_blt, ev_isi, ev_lc, ev_app, ev_dsp, ev_mth1, ev_frz, ev_a0, ev_a1, ev_c0, ev_c1, ev_o0, ev_o1, ev_iex, ev_rng1, ev_rng2, ev_enu, ev_zip, ev_gnm, ev_gtup, ev_gsub, ev_gs0, ev_gs1, intOf_i, boolOf_b, strOf_s, dataOf_d, ix_vv, slR_v, pureR_v, callR_1, callR_2, callR_3, callR_4, callR_5, blt_1, blt_2, isiR_some, viewR_v, view_v, frz_v, kE2, fBin, fCmp, negK, fNeg, kC1, kC2, kC3, kC4, kO1, kO2, kN1, kN2, kI1, kI2, tupR, lstR, lstHR, fIx, kS1, kS2, fCall, fIsi, isiD, kL, lcF, kF1, kF2, kAc, kAn, kOi, kOi2, fItems, kR1, kR3, kR4, kEn1, kEn2, kZ1, kZ2, kZ3, zipO, kG2, kG3, kNx, kSa, kSp, setR, setAll, kSg1, kSg2, kSg3, kSe, kSi1, kSi2, kSl, kRt, kA1, kA2, kM1, kM2, st_asg, st_par, st_aug, st_expr, st_ife, st_loop, st_ret, st_ret0, st_brk, st_cnt, st_pas, ss_nil, ss_cons, loopR_nil, run_fd, gd_con, gd_fn, gd_fnP, vals, itemsV, itemsD, seqD, o_add, o_sub, o_lt, o_le, o_gt, o_ge, o_isn, o_isnn, o_eqi, o_nei, o_eqs, o_nes, isNone, List.map, List.length, List.replicate, List.set, List.cons_append, List.nil_append, List.append_nil, Nat.reduceSub, Nat.reduceAdd, wipeD, Option.map_some, Option.map, Bool.not_true, Bool.not_false, reduceCtorEq, ↓reduceIte, Bool.true_eq_false, Bool.false_eq_true, decide_true, decide_false, if_true, if_false, Nat.zero_le, List.isEmpty_nil, List.isEmpty_cons, thenM_exc, thenS_exc, nextS_exc, turnS_exc, finR_exc, pureR_exc, fEqR, ev_eqR, fIsN, ev_isN, ev_isx, ev_atx, st_rai, st_try, tryS_next, tryS_ret, tryS_exc, raiS]
        exact r
    · have p : prt c e j = true := by simp [prt, q]
      have e' : (mv c j = mv e j) = False := eq_false q
      rw [p, if_pos rfl]
      refine ⟨fun q => (by cases q), fun m q => ?_⟩
      cases q
      simp only [lb__law_first_1, kSl2, e1, e2, e', thenM_ok, thenS_ok, nextS_next, nextS_ret, nextS_brk, nextS_cont, turnS_next, turnS_cont, turnS_brk, turnS_ret, finR_next, finR_ret, sureR_ok, slot0, slotS, conR_some, optR_some, valO_some, two_vv, tru_v, truD, ev_var, ev_cint, ev_cstr, ev_cbl, ev_cnon, ev_glo, ev_bin, ev_neg, ev_cmp, ev_chn, ev_bop, ev_b1, ev_b2, ev_nt, ev_ife, ev_tup, ev_lst, ev_lstH, ev_ix, ev_slc, ev_slcH, ev_call, ev_callP, ev_blt, ev_isi, ev_lc, ev_app, ev_dsp, ev_mth1, ev_frz, ev_a0, ev_a1, ev_c0, ev_c1, ev_o0, ev_o1, ev_iex, ev_rng1, ev_rng2, ev_enu, ev_zip, ev_gnm, ev_gtup, ev_gsub, ev_gs0, ev_gs1, intOf_i, boolOf_b, strOf_s, dataOf_d, ix_vv, slR_v, pureR_v, callR_1, callR_2, callR_3, callR_4, callR_5, blt_1, blt_2, isiR_some, viewR_v, view_v, frz_v, kE2, fBin, fCmp, negK, fNeg, kC1, kC2, kC3, kC4, kO1, kO2, kN1, kN2, kI1, kI2, tupR, lstR, lstHR, fIx, kS1, kS2, fCall, fIsi, isiD, kL, lcF, kF1, kF2, kAc, kAn, kOi, kOi2, fItems, kR1, kR3, kR4, kEn1, kEn2, kZ1, kZ2, kZ3, zipO, kG2, kG3, kNx, kSa, kSp, setR, setAll, kSg1, kSg2, kSg3, kSe, kSi1, kSi2, kSl, kRt, kA1, kA2, kM1, kM2, st_asg, st_par, st_aug, st_expr, st_ife, st_loop, st_ret, st_ret0, st_brk, st_cnt, st_pas, ss_nil, ss_cons, loopR_nil, run_fd, gd_con, gd_fn, gd_fnP, vals, itemsV, itemsD, seqD, o_add, o_sub, o_lt, o_le, o_gt, o_ge, o_isn, o_isnn, o_eqi, o_nei, o_eqs, o_nes, isNone, List.map, List.length, List.replicate, List.set, List.cons_append, List.nil_append, List.append_nil, Nat.reduceSub, Nat.reduceAdd, wipeD, Option.map_some, Option.map, Bool.not_true, Bool.not_false, reduceCtorEq, ↓reduceIte, Bool.true_eq_false, Bool.false_eq_true, decide_true, decide_false, if_true, if_false, Nat.zero_le, List.isEmpty_nil, List.isEmpty_cons, thenM_exc, thenS_exc, nextS_exc, turnS_exc, finR_exc, pureR_exc, fEqR, ev_eqR, fIsN, ev_isN, ev_isx, ev_atx, st_rai, st_try, tryS_next, tryS_ret, tryS_exc, raiS]
theorem r_first (k : Nat) (c e : List St3) (h : AH) (t : Two c e) {T : Int} (hT : whl c e ≤ T) (hT2 : T ≤ 100000) : run P (k + 3) "_law_first" [.val (chD c), .val (chD e), .val (.int T)] h = some (.ok (.val (apD (apO c e))), h) := by
  obtain ⟨_, _, _, _, _, _, wp, _⟩ := whl_is t
  have q6 : (-(2 ^ 62) ≤ T + 1 ∧ T + 1 < 2 ^ 62) := ⟨by omega, by omega⟩
  have ll := l_first k c e h t.g t.g' (some (.val (.int T))) (T + 1).toNat 0 none (by omega) (by omega)
  rw [u__law_first]
  simp only [f__law_first, q6, and_self, kR2, thenM_ok, thenS_ok, nextS_next, nextS_ret, nextS_brk, nextS_cont, turnS_next, turnS_cont, turnS_brk, turnS_ret, finR_next, finR_ret, sureR_ok, slot0, slotS, conR_some, optR_some, valO_some, two_vv, tru_v, truD, ev_var, ev_cint, ev_cstr, ev_cbl, ev_cnon, ev_glo, ev_bin, ev_neg, ev_cmp, ev_chn, ev_bop, ev_b1, ev_b2, ev_nt, ev_ife, ev_tup, ev_lst, ev_lstH, ev_ix, ev_slc, ev_slcH, ev_call, ev_callP, ev_blt, ev_isi, ev_lc, ev_app, ev_dsp, ev_mth1, ev_frz, ev_a0, ev_a1, ev_c0, ev_c1, ev_o0, ev_o1, ev_iex, ev_rng1, ev_rng2, ev_enu, ev_zip, ev_gnm, ev_gtup, ev_gsub, ev_gs0, ev_gs1, intOf_i, boolOf_b, strOf_s, dataOf_d, ix_vv, slR_v, pureR_v, callR_1, callR_2, callR_3, callR_4, callR_5, blt_1, blt_2, isiR_some, viewR_v, view_v, frz_v, kE2, fBin, fCmp, negK, fNeg, kC1, kC2, kC3, kC4, kO1, kO2, kN1, kN2, kI1, kI2, tupR, lstR, lstHR, fIx, kS1, kS2, fCall, fIsi, isiD, kL, lcF, kF1, kF2, kAc, kAn, kOi, kOi2, fItems, kR1, kR3, kR4, kEn1, kEn2, kZ1, kZ2, kZ3, zipO, kG2, kG3, kNx, kSa, kSp, setR, setAll, kSg1, kSg2, kSg3, kSe, kSi1, kSi2, kSl, kRt, kA1, kA2, kM1, kM2, st_asg, st_par, st_aug, st_expr, st_ife, st_loop, st_ret, st_ret0, st_brk, st_cnt, st_pas, ss_nil, ss_cons, loopR_nil, run_fd, gd_con, gd_fn, gd_fnP, vals, itemsV, itemsD, seqD, o_add, o_sub, o_lt, o_le, o_gt, o_ge, o_isn, o_isnn, o_eqi, o_nei, o_eqs, o_nes, isNone, List.map, List.length, List.replicate, List.set, List.cons_append, List.nil_append, List.append_nil, Nat.reduceSub, Nat.reduceAdd, wipeD, Option.map_some, Option.map, Bool.not_true, Bool.not_false, reduceCtorEq, ↓reduceIte, Bool.true_eq_false, Bool.false_eq_true, decide_true, decide_false, if_true, if_false, Nat.zero_le, List.isEmpty_nil, List.isEmpty_cons, thenM_exc, thenS_exc, nextS_exc, turnS_exc, finR_exc, pureR_exc, fEqR, ev_eqR, fIsN, ev_isN, ev_isx, ev_atx, st_rai, st_try, tryS_next, tryS_ret, tryS_exc, raiS]
  rw [← ap_more t hT]
  cases q : findM (prt c e) 0 (T + 1).toNat with
  | none =>
    obtain ⟨z', r⟩ := ll.1 q
    rw [r]
    simp only [apD, thenM_ok, thenS_ok, nextS_next, nextS_ret, nextS_brk, nextS_cont, turnS_next, turnS_cont, turnS_brk, turnS_ret, finR_next, finR_ret, sureR_ok, slot0, slotS, conR_some, optR_some, valO_some, two_vv, tru_v, truD, ev_var, ev_cint, ev_cstr, ev_cbl, ev_cnon, ev_glo, ev_bin, ev_neg, ev_cmp, ev_chn, ev_bop, ev_b1, ev_b2, ev_nt, ev_ife, ev_tup, ev_lst, ev_lstH, ev_ix, ev_slc, ev_slcH, ev_call, ev_callP, ev_blt, ev_isi, ev_lc, ev_app, ev_dsp, ev_mth1, ev_frz, ev_a0, ev_a1, ev_c0, ev_c1, ev_o0, ev_o1, ev_iex, ev_rng1, ev_rng2, ev_enu, ev_zip, ev_gnm, ev_gtup, ev_gsub, ev_gs0, ev_gs1, intOf_i, boolOf_b, strOf_s, dataOf_d, ix_vv, slR_v, pureR_v, callR_1, callR_2, callR_3, callR_4, callR_5, blt_1, blt_2, isiR_some, viewR_v, view_v, frz_v, kE2, fBin, fCmp, negK, fNeg, kC1, kC2, kC3, kC4, kO1, kO2, kN1, kN2, kI1, kI2, tupR, lstR, lstHR, fIx, kS1, kS2, fCall, fIsi, isiD, kL, lcF, kF1, kF2, kAc, kAn, kOi, kOi2, fItems, kR1, kR3, kR4, kEn1, kEn2, kZ1, kZ2, kZ3, zipO, kG2, kG3, kNx, kSa, kSp, setR, setAll, kSg1, kSg2, kSg3, kSe, kSi1, kSi2, kSl, kRt, kA1, kA2, kM1, kM2, st_asg, st_par, st_aug, st_expr, st_ife, st_loop, st_ret, st_ret0, st_brk, st_cnt, st_pas, ss_nil, ss_cons, loopR_nil, run_fd, gd_con, gd_fn, gd_fnP, vals, itemsV, itemsD, seqD, o_add, o_sub, o_lt, o_le, o_gt, o_ge, o_isn, o_isnn, o_eqi, o_nei, o_eqs, o_nes, isNone, List.map, List.length, List.replicate, List.set, List.cons_append, List.nil_append, List.append_nil, Nat.reduceSub, Nat.reduceAdd, wipeD, Option.map_some, Option.map, Bool.not_true, Bool.not_false, reduceCtorEq, ↓reduceIte, Bool.true_eq_false, Bool.false_eq_true, decide_true, decide_false, if_true, if_false, Nat.zero_le, List.isEmpty_nil, List.isEmpty_cons, thenM_exc, thenS_exc, nextS_exc, turnS_exc, finR_exc, pureR_exc, fEqR, ev_eqR, fIsN, ev_isN, ev_isx, ev_atx, st_rai, st_try, tryS_next, tryS_ret, tryS_exc, raiS]
  | some m =>
    rw [ll.2 m q]
    simp only [apD, thenM_ok, thenS_ok, nextS_next, nextS_ret, nextS_brk, nextS_cont, turnS_next, turnS_cont, turnS_brk, turnS_ret, finR_next, finR_ret, sureR_ok, slot0, slotS, conR_some, optR_some, valO_some, two_vv, tru_v, truD, ev_var, ev_cint, ev_cstr, ev_cbl, ev_cnon, ev_glo, ev_bin, ev_neg, ev_cmp, ev_chn, ev_bop, ev_b1, ev_b2, ev_nt, ev_ife, ev_tup, ev_lst, ev_lstH, ev_ix, ev_slc, ev_slcH, ev_call, ev_callP, ev_blt, ev_isi, ev_lc, ev_app, ev_dsp, ev_mth1, ev_frz, ev_a0, ev_a1, ev_c0, ev_c1, ev_o0, ev_o1, ev_iex, ev_rng1, ev_rng2, ev_enu, ev_zip, ev_gnm, ev_gtup, ev_gsub, ev_gs0, ev_gs1, intOf_i, boolOf_b, strOf_s, dataOf_d, ix_vv, slR_v, pureR_v, callR_1, callR_2, callR_3, callR_4, callR_5, blt_1, blt_2, isiR_some, viewR_v, view_v, frz_v, kE2, fBin, fCmp, negK, fNeg, kC1, kC2, kC3, kC4, kO1, kO2, kN1, kN2, kI1, kI2, tupR, lstR, lstHR, fIx, kS1, kS2, fCall, fIsi, isiD, kL, lcF, kF1, kF2, kAc, kAn, kOi, kOi2, fItems, kR1, kR3, kR4, kEn1, kEn2, kZ1, kZ2, kZ3, zipO, kG2, kG3, kNx, kSa, kSp, setR, setAll, kSg1, kSg2, kSg3, kSe, kSi1, kSi2, kSl, kRt, kA1, kA2, kM1, kM2, st_asg, st_par, st_aug, st_expr, st_ife, st_loop, st_ret, st_ret0, st_brk, st_cnt, st_pas, ss_nil, ss_cons, loopR_nil, run_fd, gd_con, gd_fn, gd_fnP, vals, itemsV, itemsD, seqD, o_add, o_sub, o_lt, o_le, o_gt, o_ge, o_isn, o_isnn, o_eqi, o_nei, o_eqs, o_nes, isNone, List.map, List.length, List.replicate, List.set, List.cons_append, List.nil_append, List.append_nil, Nat.reduceSub, Nat.reduceAdd, wipeD, Option.map_some, Option.map, Bool.not_true, Bool.not_false, reduceCtorEq, ↓reduceIte, Bool.true_eq_false, Bool.false_eq_true, decide_true, decide_false, if_true, if_false, Nat.zero_le, List.isEmpty_nil, List.isEmpty_cons, thenM_exc, thenS_exc, nextS_exc, turnS_exc, finR_exc, pureR_exc, fEqR, ev_eqR, fIsN, ev_isN, ev_isx, ev_atx, st_rai, st_try, tryS_next, tryS_ret, tryS_exc, raiS]
theorem lst_ok {h : AH} {f : Nat} {xs : List RV} (e : h[f]? = some (.lst xs)) : lstM (.ref f) h = some (.ok (), h) := by
  unfold lstM
  rw [readM_eq]
  dsimp only
  rw [e]
  rfl
theorem app_at {h : AH} {f : Nat} {xs : List RV} {y : RV} (e : h[f]? = some (.lst xs)) (l : xs.length < sizeLine) : appV (.ref f) y h = some (.ok (.val .none), h.set f (.lst (xs ++ [y]))) := by
  unfold appV
  dsimp only
  rw [e]
  dsimp only
  rw [if_pos l]
/-- a drawn step -/
structure Ds (t : St3) : Prop where
  a1 : 1 ≤ t.1
  a2 : t.1 ≤ 30
  b1 : 1 ≤ t.2.1
  b2 : t.2.1 ≤ 12
  w : Word t.2.2
structure Dc (c : List St3) : Prop where
  l1 : 1 ≤ c.length
  l2 : c.length ≤ 2
  ds : ∀ t ∈ c, Ds t
theorem Dc.pb {c : List St3} (h : Dc c) : 1 ≤ prB c ∧ prB c ≤ 144 := by
  obtain ⟨l1, l2, ds⟩ := h
  match c, l1, l2, ds with
  | [t], _, _, ds =>
    have d := ds t (List.mem_cons_self ..)
    have b1 := d.b1
    have b2 := d.b2
    show 1 ≤ t.2.1 * 1 ∧ t.2.1 * 1 ≤ 144
    omega
  | [t, u], _, _, ds =>
    have d := ds t (List.mem_cons_self ..)
    have e := ds u (List.mem_cons_of_mem _ (List.mem_cons_self ..))
    have m1 : 1 * 1 ≤ t.2.1 * u.2.1 := Int.mul_le_mul d.b1 e.b1 (by omega) (by have := d.b1; omega)
    have m2 : t.2.1 * u.2.1 ≤ 12 * 12 := Int.mul_le_mul d.b2 e.b2 (by have := e.b1; omega) (by omega)
    show 1 ≤ t.2.1 * (u.2.1 * 1) ∧ t.2.1 * (u.2.1 * 1) ≤ 144
    rw [Int.mul_one]
    omega
theorem Dc.good {c : List St3} (h : Dc c) : Good4 c := by
  refine ⟨fun t ht => ?_, by have := h.l2; omega, by have := h.pb; omega⟩
  obtain ⟨a1, a2, b1, b2, w⟩ := h.ds t ht
  exact ⟨a1, by omega, b1, by omega, w⟩
theorem Dc.two {c e : List St3} (h : Dc c) (h' : Dc e) : Two c e := by
  refine ⟨h.good, h'.good, ?_⟩
  have q := h.pb
  have q' := h'.pb
  have : prB c * prB e ≤ 144 * 144 := Int.mul_le_mul q.2 q'.2 (by omega) (by omega)
  omega
theorem wordsI {v : Int} (h0 : 0 ≤ v) (h1 : v < 3) : ∃ w : Str, Word w ∧ valO (ixD (.list [.str "down", .str "up", .str "near"]) (.int v)) = some (.val (.str w)) := by
  have : v = 0 ∨ v = 1 ∨ v = 2 := by omega
  rcases this with rfl | rfl | rfl
  · exact ⟨"down", .inl rfl, by kernel_rfl⟩
  · exact ⟨"up", .inr (.inl rfl), by kernel_rfl⟩
  · exact ⟨"near", .inr (.inr rfl), by kernel_rfl⟩
abbrev wsD : PyData := .list [.str "down", .str "up", .str "near"]
theorem l_steps (k m p f r : Nat) (cells : List Int) (hm : f ≠ m) (hp : f ≠ p) (hr : f ≠ r) (rm : r ≠ m) (rp : r ≠ p) (R : AO) (x1 x2 x3 x4 x9 : Option RV) : ∀ (n : Nat) (j : Int) (c : List St3) (h : AH) (left : List Int) (s : Int) (N : Nat) (y8 : Option RV), c.length + n ≤ 2 → MS h m p cells left s N → N + 3 * n < 2 ^ 29 → h[f]? = some (.lst (c.map fun t => .val (stD t))) → h[r]? = some R → (∀ t ∈ c, Ds t) →
    ∃ (c' : List St3) (h' : AH) (left' : List Int) (s' : Int) (y8' : Option RV), loopR (P.gd (k + 2)) (.nm 8) lb__law_double_1 (rngL j n) [some (.ref m), x1, x2, x3, x4, some (.val wsD), some (.ref r), some (.ref f), y8, x9] h = some (.next [some (.ref m), x1, x2, x3, x4, some (.val wsD), some (.ref r), some (.ref f), y8', x9], h') ∧ MS h' m p cells left' s' (N + 3 * n) ∧ h'[f]? = some (.lst (c'.map fun t => .val (stD t))) ∧ h'[r]? = some R ∧ c'.length = c.length + n ∧ (∀ t ∈ c', Ds t) ∧ h.length ≤ h'.length
  | 0, j, c, h, left, s, N, y8, hl, M, hN, hf, hR, hc => ⟨c, h, left, s, y8, rfl, M, hf, hR, rfl, hc, Nat.le_refl _⟩
  | n + 1, j, c, h, left, s, N, y8, hl, M, hN, hf, hR, hc => by
    obtain ⟨v1, h1, left1, s1, r1, a0, a1, M1, F1⟩ := r_draw k M (by omega) 30 (by decide) (by decide)
    obtain ⟨v2, h2, left2, s2, r2, b0, b1, M2, F2⟩ := r_draw k M1 (by omega) 12 (by decide) (by decide)
    obtain ⟨v3, h3, left3, s3, r3, c0, c1, M3, F3⟩ := r_draw k M2 (by omega) 3 (by decide) (by decide)
    obtain ⟨w, hw, ew⟩ := wordsI c0 c1
    have F := (F1.trans F2).trans F3
    have lf := (List.getElem?_eq_some_iff.mp hf).1
    have lr := (List.getElem?_eq_some_iff.mp hR).1
    have hf3 : h3[f]? = some (.lst (c.map fun t => .val (stD t))) := by rw [F.same f lf hm hp]; exact hf
    have hR3 : h3[r]? = some R := by rw [F.same r lr rm rp]; exact hR
    have lf3 := (List.getElem?_eq_some_iff.mp hf3).1
    have q1 := lst_ok hf
    have q2 := app_at (y := .val (.tuple [.int (1 + v1), .int (1 + v2), .str w])) hf3 (by rw [List.length_map]; have := line_ge; omega)
    have M4 : MS (h3.set f (.lst ((c.map fun t => .val (stD t)) ++ [.val (.tuple [.int (1 + v1), .int (1 + v2), .str w])]))) m p cells left3 s3 (N + 3) :=
      ⟨by rw [List.getElem?_set_ne hm]; exact M3.dct, by rw [List.getElem?_set_ne hp]; exact M3.lst, M3.s0, M3.s1, M3.c0, M3.cl, M3.ll⟩
    obtain ⟨c', h', left', s', y8', ih, M5, hf5, hR5, l5, d5, g5⟩ := l_steps k m p f r cells hm hp hr rm rp R x1 x2 x3 x4 x9 n (j + 1) (c ++ [(1 + v1, 1 + v2, w)]) _ left3 s3 (N + 3) (some (.val (.int j))) (by rw [List.length_append]; simp; omega) M4 (by omega) (by rw [List.getElem?_set_self lf3, List.map_append]; rfl) (by rw [List.getElem?_set_ne hr]; exact hR3) (fun t ht => by
      rcases List.mem_append.mp ht with q | q
      · exact hc t q
      · rw [List.mem_singleton] at q
        subst q
        exact ⟨by show 1 ≤ 1 + v1; omega, by show 1 + v1 ≤ 30; omega, by show 1 ≤ 1 + v2; omega, by show 1 + v2 ≤ 12; omega, hw⟩)
    rw [show N + 3 + 3 * n = N + 3 * (n + 1) by omega] at M5
    refine ⟨c', h', left', s', y8', ?_, M5, hf5, hR5, by rw [l5, List.length_append]; simp; omega, d5, by rw [List.length_set] at g5; have := F.len; omega⟩
    rw [rngL, loopR_cons]
    simp only [lb__law_double_1, kSl2, r1, r2, r3, ew, q1, q2, z3, thenM_ok, thenS_ok, nextS_next, nextS_ret, nextS_brk, nextS_cont, turnS_next, turnS_cont, turnS_brk, turnS_ret, finR_next, finR_ret, sureR_ok, slot0, slotS, conR_some, optR_some, valO_some, two_vv, tru_v, truD, ev_var, ev_cint, ev_cstr, ev_cbl, ev_cnon, ev_glo, ev_bin, ev_neg, ev_cmp, ev_chn, ev_bop, ev_b1, ev_b2, ev_nt, ev_ife, ev_tup, ev_lst, ev_lstH, ev_ix, ev_slc, ev_slcH, ev_call, ev_callP, ev_blt, ev_isi, ev_lc, ev_app, ev_dsp, ev_mth1, ev_frz, ev_a0, ev_a1, ev_c0, ev_c1, ev_o0, ev_o1, ev_iex, ev_rng1, ev_rng2, ev_enu, ev_zip, ev_gnm, ev_gtup, ev_gsub, ev_gs0, ev_gs1, intOf_i, boolOf_b, strOf_s, dataOf_d, ix_vv, slR_v, pureR_v, callR_1, callR_2, callR_3, callR_4, callR_5, blt_1, blt_2, isiR_some, viewR_v, view_v, frz_v, kE2, fBin, fCmp, negK, fNeg, kC1, kC2, kC3, kC4, kO1, kO2, kN1, kN2, kI1, kI2, tupR, lstR, lstHR, fIx, kS1, kS2, fCall, fIsi, isiD, kL, lcF, kF1, kF2, kAc, kAn, kOi, kOi2, fItems, kR1, kR3, kR4, kEn1, kEn2, kZ1, kZ2, kZ3, zipO, kG2, kG3, kNx, kSa, kSp, setR, setAll, kSg1, kSg2, kSg3, kSe, kSi1, kSi2, kSl, kRt, kA1, kA2, kM1, kM2, st_asg, st_par, st_aug, st_expr, st_ife, st_loop, st_ret, st_ret0, st_brk, st_cnt, st_pas, ss_nil, ss_cons, loopR_nil, run_fd, gd_con, gd_fn, gd_fnP, vals, itemsV, itemsD, seqD, o_add, o_sub, o_lt, o_le, o_gt, o_ge, o_isn, o_isnn, o_eqi, o_nei, o_eqs, o_nes, isNone, List.map, List.length, List.replicate, List.set, List.cons_append, List.nil_append, List.append_nil, Nat.reduceSub, Nat.reduceAdd, wipeD, Option.map_some, Option.map, Bool.not_true, Bool.not_false, reduceCtorEq, ↓reduceIte, Bool.true_eq_false, Bool.false_eq_true, decide_true, decide_false, if_true, if_false, Nat.zero_le, List.isEmpty_nil, List.isEmpty_cons, thenM_exc, thenS_exc, nextS_exc, turnS_exc, finR_exc, pureR_exc, fEqR, ev_eqR, fIsN, ev_isN, ev_isx, ev_atx, st_rai, st_try, tryS_next, tryS_ret, tryS_exc, raiS]
    exact ih
theorem l_again (k m p r : Nat) (cells : List Int) (rm : r ≠ m) (rp : r ≠ p) (x2 x3 x4 x9 : Option RV) : ∀ (n : Nat) (j : Int) (cs : List (List St3)) (h : AH) (left : List Int) (s : Int) (N : Nat) (y1 y7 y8 : Option RV), cs.length + n ≤ 2 → MS h m p cells left s N → N + 10 * n < 2 ^ 29 → h[r]? = some (.lst (cs.map fun c => .val (chD c))) → (∀ c ∈ cs, Dc c) →
    ∃ (cs' : List (List St3)) (h' : AH) (left' : List Int) (s' : Int) (y1' y7' y8' : Option RV), loopR (P.gd (k + 2)) (.nm 1) lb__law_double_2 (rngL j n) [some (.ref m), y1, x2, x3, x4, some (.val wsD), some (.ref r), y7, y8, x9] h = some (.next [some (.ref m), y1', x2, x3, x4, some (.val wsD), some (.ref r), y7', y8', x9], h') ∧ MS h' m p cells left' s' (N + 10 * n) ∧ h'[r]? = some (.lst (cs'.map fun c => .val (chD c))) ∧ cs'.length = cs.length + n ∧ (∀ c ∈ cs', Dc c)
  | 0, j, cs, h, left, s, N, y1, y7, y8, hl, M, hN, hR, hc => ⟨cs, h, left, s, y1, y7, y8, rfl, M, hR, rfl, hc⟩
  | n + 1, j, cs, h, left, s, N, y1, y7, y8, hl, M, hN, hR, hc => by
    obtain ⟨l1, l2, l3⟩ := M.lt
    have lr := (List.getElem?_eq_some_iff.mp hR).1
    obtain ⟨v1, h1, left1, s1, r1, a0, a1, M1, F1⟩ := r_draw k (M.more (.lst [])) (by omega) 2 (by decide) (by decide)
    have hf1 : h1[h.length]? = some (.lst []) := by
      rw [F1.same h.length (by rw [List.length_append]; simp) (by omega) (by omega), List.getElem?_append_right (Nat.le_refl _), Nat.sub_self]
      rfl
    have hR1 : h1[r]? = some (.lst (cs.map fun c => .val (chD c))) := by
      rw [F1.same r (by rw [List.length_append]; omega) rm rp, List.getElem?_append_left lr]
      exact hR
    obtain ⟨c, h2, left2, s2, y8', ll, M2, hf2, hR2, lc, dc, _⟩ := l_steps k m p h.length r cells (by omega) (by omega) (by omega) rm rp _ (some (.val (.int j))) x2 x3 x4 x9 (1 + v1).toNat 0 [] h1 left1 s1 (N + 1) y8 (by simp; omega) M1 (by omega) hf1 hR1 (fun t ht => by cases ht)
    have D : Dc c := ⟨by rw [lc]; simp; omega, by rw [lc]; simp; omega, dc⟩
    have lr2 := (List.getElem?_eq_some_iff.mp hR2).1
    have vw : bltR .tuple [.ref h.length] h2 = some (.ok (.val (chD c)), h2) := by
      rw [blt_ref (viewR_ref hf2 (vals_map stD c))]
      rfl
    have q1 := lst_ok hR2
    have q2 := app_at (y := .val (chD c)) hR2 (by rw [List.length_map]; have := line_ge; omega)
    have M3 : MS (h2.set r (.lst ((cs.map fun c => .val (chD c)) ++ [.val (chD c)]))) m p cells left2 s2 (N + 10) :=
      ⟨by rw [List.getElem?_set_ne rm]; exact M2.dct, by rw [List.getElem?_set_ne rp]; exact M2.lst, M2.s0, by have := M2.s1; omega, M2.c0, M2.cl, M2.ll⟩
    obtain ⟨cs', h', left', s', y1', y7', y8'', ih, M4, hR4, l4, d4⟩ := l_again k m p r cells rm rp x2 x3 x4 x9 n (j + 1) (cs ++ [c]) _ left2 s2 (N + 10) (some (.val (.int j))) (some (.ref h.length)) y8' (by rw [List.length_append]; simp; omega) M3 (by omega) (by rw [List.getElem?_set_self lr2, List.map_append]; rfl) (fun q hq => by
      rcases List.mem_append.mp hq with z | z
      · exact hc q z
      · rw [List.mem_singleton] at z
        subst z
        exact D)
    rw [show N + 10 + 10 * n = N + 10 * (n + 1) by omega] at M4
    refine ⟨cs', h', left', s', y1', y7', y8'', ?_, M4, hR4, by rw [l4, List.length_append]; simp; omega, d4⟩
    have q5 : (-(2 ^ 62) ≤ 1 + v1 ∧ 1 + v1 < 2 ^ 62) := ⟨by omega, by omega⟩
    rw [rngL, loopR_cons]
    simp only [lb__law_double_2, kSl2, r1, z0, q5, and_self, kR2, thenM_ok, thenS_ok, nextS_next, nextS_ret, nextS_brk, nextS_cont, turnS_next, turnS_cont, turnS_brk, turnS_ret, finR_next, finR_ret, sureR_ok, slot0, slotS, conR_some, optR_some, valO_some, two_vv, tru_v, truD, ev_var, ev_cint, ev_cstr, ev_cbl, ev_cnon, ev_glo, ev_bin, ev_neg, ev_cmp, ev_chn, ev_bop, ev_b1, ev_b2, ev_nt, ev_ife, ev_tup, ev_lst, ev_lstH, ev_ix, ev_slc, ev_slcH, ev_call, ev_callP, ev_blt, ev_isi, ev_lc, ev_app, ev_dsp, ev_mth1, ev_frz, ev_a0, ev_a1, ev_c0, ev_c1, ev_o0, ev_o1, ev_iex, ev_rng1, ev_rng2, ev_enu, ev_zip, ev_gnm, ev_gtup, ev_gsub, ev_gs0, ev_gs1, intOf_i, boolOf_b, strOf_s, dataOf_d, ix_vv, slR_v, pureR_v, callR_1, callR_2, callR_3, callR_4, callR_5, blt_1, blt_2, isiR_some, viewR_v, view_v, frz_v, kE2, fBin, fCmp, negK, fNeg, kC1, kC2, kC3, kC4, kO1, kO2, kN1, kN2, kI1, kI2, tupR, lstR, lstHR, fIx, kS1, kS2, fCall, fIsi, isiD, kL, lcF, kF1, kF2, kAc, kAn, kOi, kOi2, fItems, kR1, kR3, kR4, kEn1, kEn2, kZ1, kZ2, kZ3, zipO, kG2, kG3, kNx, kSa, kSp, setR, setAll, kSg1, kSg2, kSg3, kSe, kSi1, kSi2, kSl, kRt, kA1, kA2, kM1, kM2, st_asg, st_par, st_aug, st_expr, st_ife, st_loop, st_ret, st_ret0, st_brk, st_cnt, st_pas, ss_nil, ss_cons, loopR_nil, run_fd, gd_con, gd_fn, gd_fnP, vals, itemsV, itemsD, seqD, o_add, o_sub, o_lt, o_le, o_gt, o_ge, o_isn, o_isnn, o_eqi, o_nei, o_eqs, o_nes, isNone, List.map, List.length, List.replicate, List.set, List.cons_append, List.nil_append, List.append_nil, Nat.reduceSub, Nat.reduceAdd, wipeD, Option.map_some, Option.map, Bool.not_true, Bool.not_false, reduceCtorEq, ↓reduceIte, Bool.true_eq_false, Bool.false_eq_true, decide_true, decide_false, if_true, if_false, Nat.zero_le, List.isEmpty_nil, List.isEmpty_cons, thenM_exc, thenS_exc, nextS_exc, turnS_exc, finR_exc, pureR_exc, fEqR, ev_eqR, fIsN, ev_isN, ev_isx, ev_atx, st_rai, st_try, tryS_next, tryS_ret, tryS_exc, raiS]
    rw [ll]
    simp only [q1, vw, q2, thenM_ok, thenS_ok, nextS_next, nextS_ret, nextS_brk, nextS_cont, turnS_next, turnS_cont, turnS_brk, turnS_ret, finR_next, finR_ret, sureR_ok, slot0, slotS, conR_some, optR_some, valO_some, two_vv, tru_v, truD, ev_var, ev_cint, ev_cstr, ev_cbl, ev_cnon, ev_glo, ev_bin, ev_neg, ev_cmp, ev_chn, ev_bop, ev_b1, ev_b2, ev_nt, ev_ife, ev_tup, ev_lst, ev_lstH, ev_ix, ev_slc, ev_slcH, ev_call, ev_callP, ev_blt, ev_isi, ev_lc, ev_app, ev_dsp, ev_mth1, ev_frz, ev_a0, ev_a1, ev_c0, ev_c1, ev_o0, ev_o1, ev_iex, ev_rng1, ev_rng2, ev_enu, ev_zip, ev_gnm, ev_gtup, ev_gsub, ev_gs0, ev_gs1, intOf_i, boolOf_b, strOf_s, dataOf_d, ix_vv, slR_v, pureR_v, callR_1, callR_2, callR_3, callR_4, callR_5, blt_1, blt_2, isiR_some, viewR_v, view_v, frz_v, kE2, fBin, fCmp, negK, fNeg, kC1, kC2, kC3, kC4, kO1, kO2, kN1, kN2, kI1, kI2, tupR, lstR, lstHR, fIx, kS1, kS2, fCall, fIsi, isiD, kL, lcF, kF1, kF2, kAc, kAn, kOi, kOi2, fItems, kR1, kR3, kR4, kEn1, kEn2, kZ1, kZ2, kZ3, zipO, kG2, kG3, kNx, kSa, kSp, setR, setAll, kSg1, kSg2, kSg3, kSe, kSi1, kSi2, kSl, kRt, kA1, kA2, kM1, kM2, st_asg, st_par, st_aug, st_expr, st_ife, st_loop, st_ret, st_ret0, st_brk, st_cnt, st_pas, ss_nil, ss_cons, loopR_nil, run_fd, gd_con, gd_fn, gd_fnP, vals, itemsV, itemsD, seqD, o_add, o_sub, o_lt, o_le, o_gt, o_ge, o_isn, o_isnn, o_eqi, o_nei, o_eqs, o_nes, isNone, List.map, List.length, List.replicate, List.set, List.cons_append, List.nil_append, List.append_nil, Nat.reduceSub, Nat.reduceAdd, wipeD, Option.map_some, Option.map, Bool.not_true, Bool.not_false, reduceCtorEq, ↓reduceIte, Bool.true_eq_false, Bool.false_eq_true, decide_true, decide_false, if_true, if_false, Nat.zero_le, List.isEmpty_nil, List.isEmpty_cons, thenM_exc, thenS_exc, nextS_exc, turnS_exc, finR_exc, pureR_exc, fEqR, ev_eqR, fIsN, ev_isN, ev_isx, ev_atx, st_rai, st_try, tryS_next, tryS_ret, tryS_exc, raiS]
    exact ih
end L2.K79

set_option maxRecDepth 100000
set_option maxHeartbeats 4000000
namespace L2.K79
open PySem PySem.Spec PyProof.Rows L2 L2.Cap
theorem frz_seq {A : Type} (g : A → PyData) (k : Nat) (h : AH) : ∀ cs : List A, seqM (frzM k) (cs.map fun q => .val (g q)) h = some (.ok (cs.map g), h)
  | [] => rfl
  | c :: cs => by
    have e : frzM k (.val (g c)) h = some (.ok (g c), h) := frz_v
    rw [List.map_cons, seqM, bindM_then, e, thenM_ok, bindM_then, frz_seq g k h cs, thenM_ok]
    rfl
theorem frz_ref {A : Type} {g : A → PyData} {h : AH} {f : Nat} {cs : List A} (e : h[f]? = some (.lst (cs.map fun q => .val (g q)))) : frzM 3 (.ref f) h = some (.ok (.list (cs.map g)), h.set f (.ro (cs.map g))) := by
  rw [frzM, bindM_then]
  have e1 : itemsM f h = some (.ok (cs.map fun q => .val (g q)), h) := by
    unfold itemsM
    rw [readM_eq, e]
    rfl
  rw [e1, thenM_ok, bindM_then, frz_seq, thenM_ok]
  unfold goneM
  rw [e]
theorem l_tot (k : Nat) (x0 x1 x3 x4 x5 x6 x7 x8 : Option RV) (h : AH) : ∀ (c : List St3) (T : Int) (y9 : Option RV), (∀ t ∈ c, Ds t) → Sm200 T → (∀ e : List St3, e <+: c → Sm200 (T * prB e)) →
    ∃ y9', loopR (P.gd k) (.nm 9) lb__law_double_3 (c.map stD) [x0, x1, some (.val (.int T)), x3, x4, x5, x6, x7, x8, y9] h = some (.next [x0, x1, some (.val (.int (T * prB c))), x3, x4, x5, x6, x7, x8, y9'], h)
  | [], T, y9, _, _, _ => ⟨y9, by rw [List.map_nil, loopR_nil, prB, Int.mul_one]⟩
  | t :: c, T, y9, hd, hT, hp => by
    have d := hd t (List.mem_cons_self ..)
    have q2 : Sm200 t.2.1 := by have := d.b1; have := d.b2; exact ⟨by omega, by omega⟩
    have q3 : valO (ixD (stD t) (.int 1)) = some (.val (.int t.2.1)) := rfl
    have h1 : Sm200 (T * t.2.1) := by
      have := hp [t] ⟨c, rfl⟩
      rw [show prB [t] = t.2.1 from Int.mul_one _] at this
      exact this
    obtain ⟨y9', ih⟩ := l_tot k x0 x1 x3 x4 x5 x6 x7 x8 h c (T * t.2.1) (some (.val (stD t))) (fun u hu => hd u (List.mem_cons_of_mem _ hu)) h1 (fun e he => by
      have := hp (t :: e) (by obtain ⟨r, rfl⟩ := he; exact ⟨r, rfl⟩)
      rw [show prB (t :: e) = t.2.1 * prB e from rfl, ← Int.mul_assoc] at this
      exact this)
    refine ⟨y9', ?_⟩
    rw [List.map_cons, loopR_cons]
    simp only [lb__law_double_3, kSl2, q3, o_mulS, hT, q2, thenM_ok, thenS_ok, nextS_next, nextS_ret, nextS_brk, nextS_cont, turnS_next, turnS_cont, turnS_brk, turnS_ret, finR_next, finR_ret, sureR_ok, slot0, slotS, conR_some, optR_some, valO_some, two_vv, tru_v, truD, ev_var, ev_cint, ev_cstr, ev_cbl, ev_cnon, ev_glo, ev_bin, ev_neg, ev_cmp, ev_chn, ev_bop, ev_b1, ev_b2, ev_nt, ev_ife, ev_tup, ev_lst, ev_lstH, ev_ix, ev_slc, ev_slcH, ev_call, ev_callP, ev_blt, ev_isi, ev_lc, ev_app, ev_dsp, ev_mth1, ev_frz, ev_a0, ev_a1, ev_c0, ev_c1, ev_o0, ev_o1, ev_iex, ev_rng1, ev_rng2, ev_enu, ev_zip, ev_gnm, ev_gtup, ev_gsub, ev_gs0, ev_gs1, intOf_i, boolOf_b, strOf_s, dataOf_d, ix_vv, slR_v, pureR_v, callR_1, callR_2, callR_3, callR_4, callR_5, blt_1, blt_2, isiR_some, viewR_v, view_v, frz_v, kE2, fBin, fCmp, negK, fNeg, kC1, kC2, kC3, kC4, kO1, kO2, kN1, kN2, kI1, kI2, tupR, lstR, lstHR, fIx, kS1, kS2, fCall, fIsi, isiD, kL, lcF, kF1, kF2, kAc, kAn, kOi, kOi2, fItems, kR1, kR3, kR4, kEn1, kEn2, kZ1, kZ2, kZ3, zipO, kG2, kG3, kNx, kSa, kSp, setR, setAll, kSg1, kSg2, kSg3, kSe, kSi1, kSi2, kSl, kRt, kA1, kA2, kM1, kM2, st_asg, st_par, st_aug, st_expr, st_ife, st_loop, st_ret, st_ret0, st_brk, st_cnt, st_pas, ss_nil, ss_cons, loopR_nil, run_fd, gd_con, gd_fn, gd_fnP, vals, itemsV, itemsD, seqD, o_add, o_sub, o_lt, o_le, o_gt, o_ge, o_isn, o_isnn, o_eqi, o_nei, o_eqs, o_nes, isNone, List.map, List.length, List.replicate, List.set, List.cons_append, List.nil_append, List.append_nil, Nat.reduceSub, Nat.reduceAdd, wipeD, Option.map_some, Option.map, Bool.not_true, Bool.not_false, reduceCtorEq, ↓reduceIte, Bool.true_eq_false, Bool.false_eq_true, decide_true, decide_false, if_true, if_false, Nat.zero_le, List.isEmpty_nil, List.isEmpty_cons, thenM_exc, thenS_exc, nextS_exc, turnS_exc, finR_exc, pureR_exc, fEqR, ev_eqR, fIsN, ev_isN, ev_isx, ev_atx, st_rai, st_try, tryS_next, tryS_ret, tryS_exc, raiS]
    rw [show prB (t :: c) = t.2.1 * prB c from rfl, ← Int.mul_assoc]
    exact ih
theorem pre_small {c : List St3} (D : Dc c) {e : List St3} (h : e <+: c) : 1 ≤ prB e ∧ prB e ≤ 144 := by
  obtain ⟨r, hr⟩ := h
  by_cases z : e = []
  · subst z
    exact ⟨by decide, by decide⟩
  · have De : Dc e := by
      refine ⟨by have := List.length_pos_iff.mpr z; omega, ?_, fun t ht => D.ds t (by rw [← hr]; exact List.mem_append_left _ ht)⟩
      have := D.l2
      rw [← hr, List.length_append] at this
      omega
    exact De.pb
abbrev restD : Ss := match f__law_double.body with | .cons _ (.cons _ (.cons _ r)) => r | _ => .nil
theorem ix_ro {h : AH} {r : Nat} {ds : List PyData} {i : Int} {d : PyData} (e : h[r]? = some (.ro ds)) (q : atI ds i = some d) : ixV (.ref r) (.val (.int i)) h = some (.val d) := by
  show (match h[r]? with | some (.lst xs) => atI xs i | some (.ro ds) => (atI ds i).map .val | some (.dct kvs) => lookK kvs (.inl i) | _ => none) = _
  rw [e]
  show (atI ds i).map RV.val = _
  rw [q]
  rfl
theorem dbl_end (k r : Nat) (c e : List St3) (D : Dc c) (E : Dc e) (h : AH) (x0 x1 x2 x3 x4 x5 x7 x8 x9 : Option RV) (hR : h[r]? = some (.lst [.val (chD c), .val (chD e)])) :
    finR (denSs (P.gd (k + 20)) restD [x0, x1, x2, x3, x4, x5, some (.ref r), x7, x8, x9] h) = some (.ok (.val (.bool true)), h.set r (.ro [chD c, chD e])) := by
  have t := D.two E
  have pc := D.pb
  have pe := E.pb
  have lr := (List.getElem?_eq_some_iff.mp hR).1
  have fz : frzM 3 (.ref r) h = some (.ok (.list [chD c, chD e]), h.set r (.ro [chD c, chD e])) := frz_ref (g := chD) (cs := [c, e]) hR
  have hR2 : (h.set r (.ro [chD c, chD e]))[r]? = some (.ro [chD c, chD e]) := List.getElem?_set_self lr
  have i0 := ix_ro (i := 0) hR2 rfl
  have i1 := ix_ro (i := 1) hR2 rfl
  obtain ⟨y9, l1⟩ := l_tot (k + 20) x0 x1 (some (.val (chD c))) x4 x5 (some (.ref r)) x7 x8 (h.set r (.ro [chD c, chD e])) c 1 x9 D.ds ⟨by decide, by decide⟩ (fun e he => by have := pre_small D he; rw [Int.one_mul]; exact ⟨by omega, by omega⟩)
  rw [Int.one_mul] at l1
  obtain ⟨y9', l2⟩ := l_tot (k + 20) x0 x1 (some (.val (chD e))) x4 x5 (some (.ref r)) x7 x8 (h.set r (.ro [chD c, chD e])) e (prB c) y9 E.ds ⟨by omega, by omega⟩ (fun f hf => by
    have := pre_small E hf
    have m1 : prB c * prB f ≤ 144 * 144 := Int.mul_le_mul pc.2 this.2 (by omega) (by omega)
    have m2 : 0 ≤ prB c * prB f := Int.mul_nonneg (by omega) (by omega)
    exact ⟨by omega, by omega⟩)
  have mT : prB c * prB e ≤ 144 * 144 := Int.mul_le_mul pc.2 pe.2 (by omega) (by omega)
  obtain ⟨_, _, _, _, _, _, wp, wl⟩ := whl_is t
  have eM : (if (20736 : Int) < prB c * prB e then 20736 else prB c * prB e) = prB c * prB e := by rw [if_neg (by omega)]
  have r1 := fun h => r_first (k + 17) c e h t wl (by omega)
  have r2 := fun h => r_apart (k + 16) c e h t
  obtain ⟨⟨t1, ht1⟩, _⟩ := repr_o (o := apO c e) (fun y e => ap_small t e)
  have lp : loopR (P.gd (k + 20)) (.nm 3) lb__law_double_4 [chD c, chD e] [x0, x1, some (.val (.int 1)), x3, x4, x5, some (.ref r), x7, x8, x9] (h.set r (.ro [chD c, chD e])) = some (.next [x0, x1, some (.val (.int (prB c * prB e))), some (.val (chD e)), x4, x5, some (.ref r), x7, x8, y9'], h.set r (.ro [chD c, chD e])) := by
    rw [loopR_cons]
    simp only [lb__law_double_4, kSl2, chD, thenM_ok, thenS_ok, nextS_next, nextS_ret, nextS_brk, nextS_cont, turnS_next, turnS_cont, turnS_brk, turnS_ret, finR_next, finR_ret, sureR_ok, slot0, slotS, conR_some, optR_some, valO_some, two_vv, tru_v, truD, ev_var, ev_cint, ev_cstr, ev_cbl, ev_cnon, ev_glo, ev_bin, ev_neg, ev_cmp, ev_chn, ev_bop, ev_b1, ev_b2, ev_nt, ev_ife, ev_tup, ev_lst, ev_lstH, ev_ix, ev_slc, ev_slcH, ev_call, ev_callP, ev_blt, ev_isi, ev_lc, ev_app, ev_dsp, ev_mth1, ev_frz, ev_a0, ev_a1, ev_c0, ev_c1, ev_o0, ev_o1, ev_iex, ev_rng1, ev_rng2, ev_enu, ev_zip, ev_gnm, ev_gtup, ev_gsub, ev_gs0, ev_gs1, intOf_i, boolOf_b, strOf_s, dataOf_d, ix_vv, slR_v, pureR_v, callR_1, callR_2, callR_3, callR_4, callR_5, blt_1, blt_2, isiR_some, viewR_v, view_v, frz_v, kE2, fBin, fCmp, negK, fNeg, kC1, kC2, kC3, kC4, kO1, kO2, kN1, kN2, kI1, kI2, tupR, lstR, lstHR, fIx, kS1, kS2, fCall, fIsi, isiD, kL, lcF, kF1, kF2, kAc, kAn, kOi, kOi2, fItems, kR1, kR3, kR4, kEn1, kEn2, kZ1, kZ2, kZ3, zipO, kG2, kG3, kNx, kSa, kSp, setR, setAll, kSg1, kSg2, kSg3, kSe, kSi1, kSi2, kSl, kRt, kA1, kA2, kM1, kM2, st_asg, st_par, st_aug, st_expr, st_ife, st_loop, st_ret, st_ret0, st_brk, st_cnt, st_pas, ss_nil, ss_cons, loopR_nil, run_fd, gd_con, gd_fn, gd_fnP, vals, itemsV, itemsD, seqD, o_add, o_sub, o_lt, o_le, o_gt, o_ge, o_isn, o_isnn, o_eqi, o_nei, o_eqs, o_nes, isNone, List.map, List.length, List.replicate, List.set, List.cons_append, List.nil_append, List.append_nil, Nat.reduceSub, Nat.reduceAdd, wipeD, Option.map_some, Option.map, Bool.not_true, Bool.not_false, reduceCtorEq, ↓reduceIte, Bool.true_eq_false, Bool.false_eq_true, decide_true, decide_false, if_true, if_false, Nat.zero_le, List.isEmpty_nil, List.isEmpty_cons, thenM_exc, thenS_exc, nextS_exc, turnS_exc, finR_exc, pureR_exc, fEqR, ev_eqR, fIsN, ev_isN, ev_isx, ev_atx, st_rai, st_try, tryS_next, tryS_ret, tryS_exc, raiS]
    simp only [chD] at l1 l2
    rw [l1]
    simp only [thenM_ok, thenS_ok, nextS_next, nextS_ret, nextS_brk, nextS_cont, turnS_next, turnS_cont, turnS_brk, turnS_ret, finR_next, finR_ret, sureR_ok, slot0, slotS, conR_some, optR_some, valO_some, two_vv, tru_v, truD, ev_var, ev_cint, ev_cstr, ev_cbl, ev_cnon, ev_glo, ev_bin, ev_neg, ev_cmp, ev_chn, ev_bop, ev_b1, ev_b2, ev_nt, ev_ife, ev_tup, ev_lst, ev_lstH, ev_ix, ev_slc, ev_slcH, ev_call, ev_callP, ev_blt, ev_isi, ev_lc, ev_app, ev_dsp, ev_mth1, ev_frz, ev_a0, ev_a1, ev_c0, ev_c1, ev_o0, ev_o1, ev_iex, ev_rng1, ev_rng2, ev_enu, ev_zip, ev_gnm, ev_gtup, ev_gsub, ev_gs0, ev_gs1, intOf_i, boolOf_b, strOf_s, dataOf_d, ix_vv, slR_v, pureR_v, callR_1, callR_2, callR_3, callR_4, callR_5, blt_1, blt_2, isiR_some, viewR_v, view_v, frz_v, kE2, fBin, fCmp, negK, fNeg, kC1, kC2, kC3, kC4, kO1, kO2, kN1, kN2, kI1, kI2, tupR, lstR, lstHR, fIx, kS1, kS2, fCall, fIsi, isiD, kL, lcF, kF1, kF2, kAc, kAn, kOi, kOi2, fItems, kR1, kR3, kR4, kEn1, kEn2, kZ1, kZ2, kZ3, zipO, kG2, kG3, kNx, kSa, kSp, setR, setAll, kSg1, kSg2, kSg3, kSe, kSi1, kSi2, kSl, kRt, kA1, kA2, kM1, kM2, st_asg, st_par, st_aug, st_expr, st_ife, st_loop, st_ret, st_ret0, st_brk, st_cnt, st_pas, ss_nil, ss_cons, loopR_nil, run_fd, gd_con, gd_fn, gd_fnP, vals, itemsV, itemsD, seqD, o_add, o_sub, o_lt, o_le, o_gt, o_ge, o_isn, o_isnn, o_eqi, o_nei, o_eqs, o_nes, isNone, List.map, List.length, List.replicate, List.set, List.cons_append, List.nil_append, List.append_nil, Nat.reduceSub, Nat.reduceAdd, wipeD, Option.map_some, Option.map, Bool.not_true, Bool.not_false, reduceCtorEq, ↓reduceIte, Bool.true_eq_false, Bool.false_eq_true, decide_true, decide_false, if_true, if_false, Nat.zero_le, List.isEmpty_nil, List.isEmpty_cons, thenM_exc, thenS_exc, nextS_exc, turnS_exc, finR_exc, pureR_exc, fEqR, ev_eqR, fIsN, ev_isN, ev_isx, ev_atx, st_rai, st_try, tryS_next, tryS_ret, tryS_exc, raiS]
    rw [loopR_cons]
    simp only [kSl2, thenM_ok, thenS_ok, nextS_next, nextS_ret, nextS_brk, nextS_cont, turnS_next, turnS_cont, turnS_brk, turnS_ret, finR_next, finR_ret, sureR_ok, slot0, slotS, conR_some, optR_some, valO_some, two_vv, tru_v, truD, ev_var, ev_cint, ev_cstr, ev_cbl, ev_cnon, ev_glo, ev_bin, ev_neg, ev_cmp, ev_chn, ev_bop, ev_b1, ev_b2, ev_nt, ev_ife, ev_tup, ev_lst, ev_lstH, ev_ix, ev_slc, ev_slcH, ev_call, ev_callP, ev_blt, ev_isi, ev_lc, ev_app, ev_dsp, ev_mth1, ev_frz, ev_a0, ev_a1, ev_c0, ev_c1, ev_o0, ev_o1, ev_iex, ev_rng1, ev_rng2, ev_enu, ev_zip, ev_gnm, ev_gtup, ev_gsub, ev_gs0, ev_gs1, intOf_i, boolOf_b, strOf_s, dataOf_d, ix_vv, slR_v, pureR_v, callR_1, callR_2, callR_3, callR_4, callR_5, blt_1, blt_2, isiR_some, viewR_v, view_v, frz_v, kE2, fBin, fCmp, negK, fNeg, kC1, kC2, kC3, kC4, kO1, kO2, kN1, kN2, kI1, kI2, tupR, lstR, lstHR, fIx, kS1, kS2, fCall, fIsi, isiD, kL, lcF, kF1, kF2, kAc, kAn, kOi, kOi2, fItems, kR1, kR3, kR4, kEn1, kEn2, kZ1, kZ2, kZ3, zipO, kG2, kG3, kNx, kSa, kSp, setR, setAll, kSg1, kSg2, kSg3, kSe, kSi1, kSi2, kSl, kRt, kA1, kA2, kM1, kM2, st_asg, st_par, st_aug, st_expr, st_ife, st_loop, st_ret, st_ret0, st_brk, st_cnt, st_pas, ss_nil, ss_cons, loopR_nil, run_fd, gd_con, gd_fn, gd_fnP, vals, itemsV, itemsD, seqD, o_add, o_sub, o_lt, o_le, o_gt, o_ge, o_isn, o_isnn, o_eqi, o_nei, o_eqs, o_nes, isNone, List.map, List.length, List.replicate, List.set, List.cons_append, List.nil_append, List.append_nil, Nat.reduceSub, Nat.reduceAdd, wipeD, Option.map_some, Option.map, Bool.not_true, Bool.not_false, reduceCtorEq, ↓reduceIte, Bool.true_eq_false, Bool.false_eq_true, decide_true, decide_false, if_true, if_false, Nat.zero_le, List.isEmpty_nil, List.isEmpty_cons, thenM_exc, thenS_exc, nextS_exc, turnS_exc, finR_exc, pureR_exc, fEqR, ev_eqR, fIsN, ev_isN, ev_isx, ev_atx, st_rai, st_try, tryS_next, tryS_ret, tryS_exc, raiS]
    rw [l2]
    simp only [thenM_ok, thenS_ok, nextS_next, nextS_ret, nextS_brk, nextS_cont, turnS_next, turnS_cont, turnS_brk, turnS_ret, finR_next, finR_ret, sureR_ok, slot0, slotS, conR_some, optR_some, valO_some, two_vv, tru_v, truD, ev_var, ev_cint, ev_cstr, ev_cbl, ev_cnon, ev_glo, ev_bin, ev_neg, ev_cmp, ev_chn, ev_bop, ev_b1, ev_b2, ev_nt, ev_ife, ev_tup, ev_lst, ev_lstH, ev_ix, ev_slc, ev_slcH, ev_call, ev_callP, ev_blt, ev_isi, ev_lc, ev_app, ev_dsp, ev_mth1, ev_frz, ev_a0, ev_a1, ev_c0, ev_c1, ev_o0, ev_o1, ev_iex, ev_rng1, ev_rng2, ev_enu, ev_zip, ev_gnm, ev_gtup, ev_gsub, ev_gs0, ev_gs1, intOf_i, boolOf_b, strOf_s, dataOf_d, ix_vv, slR_v, pureR_v, callR_1, callR_2, callR_3, callR_4, callR_5, blt_1, blt_2, isiR_some, viewR_v, view_v, frz_v, kE2, fBin, fCmp, negK, fNeg, kC1, kC2, kC3, kC4, kO1, kO2, kN1, kN2, kI1, kI2, tupR, lstR, lstHR, fIx, kS1, kS2, fCall, fIsi, isiD, kL, lcF, kF1, kF2, kAc, kAn, kOi, kOi2, fItems, kR1, kR3, kR4, kEn1, kEn2, kZ1, kZ2, kZ3, zipO, kG2, kG3, kNx, kSa, kSp, setR, setAll, kSg1, kSg2, kSg3, kSe, kSi1, kSi2, kSl, kRt, kA1, kA2, kM1, kM2, st_asg, st_par, st_aug, st_expr, st_ife, st_loop, st_ret, st_ret0, st_brk, st_cnt, st_pas, ss_nil, ss_cons, loopR_nil, run_fd, gd_con, gd_fn, gd_fnP, vals, itemsV, itemsD, seqD, o_add, o_sub, o_lt, o_le, o_gt, o_ge, o_isn, o_isnn, o_eqi, o_nei, o_eqs, o_nes, isNone, List.map, List.length, List.replicate, List.set, List.cons_append, List.nil_append, List.append_nil, Nat.reduceSub, Nat.reduceAdd, wipeD, Option.map_some, Option.map, Bool.not_true, Bool.not_false, reduceCtorEq, ↓reduceIte, Bool.true_eq_false, Bool.false_eq_true, decide_true, decide_false, if_true, if_false, Nat.zero_le, List.isEmpty_nil, List.isEmpty_cons, thenM_exc, thenS_exc, nextS_exc, turnS_exc, finR_exc, pureR_exc, fEqR, ev_eqR, fIsN, ev_isN, ev_isx, ev_atx, st_rai, st_try, tryS_next, tryS_ret, tryS_exc, raiS]
  have b_min2 : valO (bfF .min [.int (prB c * prB e), .int 20736]) = some (.val (.int (prB c * prB e))) := by
    rw [b_min, if_neg (by omega)]
  simp only [restD, f__law_double, fz, thenM_ok, thenS_ok, nextS_next, nextS_ret, nextS_brk, nextS_cont, turnS_next, turnS_cont, turnS_brk, turnS_ret, finR_next, finR_ret, sureR_ok, slot0, slotS, conR_some, optR_some, valO_some, two_vv, tru_v, truD, ev_var, ev_cint, ev_cstr, ev_cbl, ev_cnon, ev_glo, ev_bin, ev_neg, ev_cmp, ev_chn, ev_bop, ev_b1, ev_b2, ev_nt, ev_ife, ev_tup, ev_lst, ev_lstH, ev_ix, ev_slc, ev_slcH, ev_call, ev_callP, ev_blt, ev_isi, ev_lc, ev_app, ev_dsp, ev_mth1, ev_frz, ev_a0, ev_a1, ev_c0, ev_c1, ev_o0, ev_o1, ev_iex, ev_rng1, ev_rng2, ev_enu, ev_zip, ev_gnm, ev_gtup, ev_gsub, ev_gs0, ev_gs1, intOf_i, boolOf_b, strOf_s, dataOf_d, ix_vv, slR_v, pureR_v, callR_1, callR_2, callR_3, callR_4, callR_5, blt_1, blt_2, isiR_some, viewR_v, view_v, frz_v, kE2, fBin, fCmp, negK, fNeg, kC1, kC2, kC3, kC4, kO1, kO2, kN1, kN2, kI1, kI2, tupR, lstR, lstHR, fIx, kS1, kS2, fCall, fIsi, isiD, kL, lcF, kF1, kF2, kAc, kAn, kOi, kOi2, fItems, kR1, kR3, kR4, kEn1, kEn2, kZ1, kZ2, kZ3, zipO, kG2, kG3, kNx, kSa, kSp, setR, setAll, kSg1, kSg2, kSg3, kSe, kSi1, kSi2, kSl, kRt, kA1, kA2, kM1, kM2, st_asg, st_par, st_aug, st_expr, st_ife, st_loop, st_ret, st_ret0, st_brk, st_cnt, st_pas, ss_nil, ss_cons, loopR_nil, run_fd, gd_con, gd_fn, gd_fnP, vals, itemsV, itemsD, seqD, o_add, o_sub, o_lt, o_le, o_gt, o_ge, o_isn, o_isnn, o_eqi, o_nei, o_eqs, o_nes, isNone, List.map, List.length, List.replicate, List.set, List.cons_append, List.nil_append, List.append_nil, Nat.reduceSub, Nat.reduceAdd, wipeD, Option.map_some, Option.map, Bool.not_true, Bool.not_false, reduceCtorEq, ↓reduceIte, Bool.true_eq_false, Bool.false_eq_true, decide_true, decide_false, if_true, if_false, Nat.zero_le, List.isEmpty_nil, List.isEmpty_cons, thenM_exc, thenS_exc, nextS_exc, turnS_exc, finR_exc, pureR_exc, fEqR, ev_eqR, fIsN, ev_isN, ev_isx, ev_atx, st_rai, st_try, tryS_next, tryS_ret, tryS_exc, raiS]
  rw [lp]
  simp only [i0, i1, b_min2, r1, r2, ht1, thenM_ok, thenS_ok, nextS_next, nextS_ret, nextS_brk, nextS_cont, turnS_next, turnS_cont, turnS_brk, turnS_ret, finR_next, finR_ret, sureR_ok, slot0, slotS, conR_some, optR_some, valO_some, two_vv, tru_v, truD, ev_var, ev_cint, ev_cstr, ev_cbl, ev_cnon, ev_glo, ev_bin, ev_neg, ev_cmp, ev_chn, ev_bop, ev_b1, ev_b2, ev_nt, ev_ife, ev_tup, ev_lst, ev_lstH, ev_ix, ev_slc, ev_slcH, ev_call, ev_callP, ev_blt, ev_isi, ev_lc, ev_app, ev_dsp, ev_mth1, ev_frz, ev_a0, ev_a1, ev_c0, ev_c1, ev_o0, ev_o1, ev_iex, ev_rng1, ev_rng2, ev_enu, ev_zip, ev_gnm, ev_gtup, ev_gsub, ev_gs0, ev_gs1, intOf_i, boolOf_b, strOf_s, dataOf_d, ix_vv, slR_v, pureR_v, callR_1, callR_2, callR_3, callR_4, callR_5, blt_1, blt_2, isiR_some, viewR_v, view_v, frz_v, kE2, fBin, fCmp, negK, fNeg, kC1, kC2, kC3, kC4, kO1, kO2, kN1, kN2, kI1, kI2, tupR, lstR, lstHR, fIx, kS1, kS2, fCall, fIsi, isiD, kL, lcF, kF1, kF2, kAc, kAn, kOi, kOi2, fItems, kR1, kR3, kR4, kEn1, kEn2, kZ1, kZ2, kZ3, zipO, kG2, kG3, kNx, kSa, kSp, setR, setAll, kSg1, kSg2, kSg3, kSe, kSi1, kSi2, kSl, kRt, kA1, kA2, kM1, kM2, st_asg, st_par, st_aug, st_expr, st_ife, st_loop, st_ret, st_ret0, st_brk, st_cnt, st_pas, ss_nil, ss_cons, loopR_nil, run_fd, gd_con, gd_fn, gd_fnP, vals, itemsV, itemsD, seqD, o_add, o_sub, o_lt, o_le, o_gt, o_ge, o_isn, o_isnn, o_eqi, o_nei, o_eqs, o_nes, isNone, List.map, List.length, List.replicate, List.set, List.cons_append, List.nil_append, List.append_nil, Nat.reduceSub, Nat.reduceAdd, wipeD, Option.map_some, Option.map, Bool.not_true, Bool.not_false, reduceCtorEq, ↓reduceIte, Bool.true_eq_false, Bool.false_eq_true, decide_true, decide_false, if_true, if_false, Nat.zero_le, List.isEmpty_nil, List.isEmpty_cons, thenM_exc, thenS_exc, nextS_exc, turnS_exc, finR_exc, pureR_exc, fEqR, ev_eqR, fIsN, ev_isN, ev_isx, ev_atx, st_rai, st_try, tryS_next, tryS_ret, tryS_exc, raiS]
theorem cat21 {x y w : PyData} : valO (opF .add (.tuple [x, y]) (.tuple [w])) = some (.val (.tuple [x, y, w])) := rfl
theorem cat01 {w : PyData} : valO (opF .add (.tuple []) (.tuple [w])) = some (.val (.tuple [w])) := rfl
theorem cat11 {x w : PyData} : valO (opF .add (.tuple [x]) (.tuple [w])) = some (.val (.tuple [x, w])) := rfl
theorem sl1 {x : PyData} : valO (slD (.tuple [x]) none (some (-1))) = some (.val (.tuple [])) := rfl
theorem sl2 {x y : PyData} : valO (slD (.tuple [x, y]) none (some (-1))) = some (.val (.tuple [x])) := rfl
theorem sl3 {x y z : PyData} : valO (slD (.tuple [x, y, z]) none (some 2)) = some (.val (.tuple [x, y])) := rfl
theorem il1 {x : PyData} : valO (ixD (.tuple [x]) (.int (-1))) = some (.val x) := rfl
theorem il2 {x y : PyData} : valO (ixD (.tuple [x, y]) (.int (-1))) = some (.val y) := rfl
theorem ix_l0 {h : AH} {r : Nat} {x : RV} {l : List RV} (e : h[r]? = some (.lst (x :: l))) : ixV (.ref r) (.val (.int 0)) h = some x := by
  show (match h[r]? with | some (.lst xs) => atI xs 0 | some (.ro ds) => (atI ds 0).map .val | some (.dct kvs) => lookK kvs (.inl 0) | _ => none) = _
  rw [e]
  show atI (x :: l) 0 = _
  unfold atI ixN
  rw [if_pos (by omega), if_pos (by simp)]
  rfl
theorem set_l1 {h : AH} {r : Nat} {x y v : RV} (e : h[r]? = some (.lst [x, y])) : setV (.ref r) (.val (.int 1)) v h = some (.ok (), h.set r (.lst [x, v])) := by
  unfold setV
  dsimp only
  rw [e]
  rfl
theorem r_double (k : Nat) {h : AH} {m p : Nat} {cells left : List Int} {s : Int} {n : Nat} (M : MS h m p cells left s n) (hn : n < 2 ^ 28) :
    ∃ h', run P (k + 21) "_law_double" [.ref m] h = some (.ok (.val (.bool true)), h') := by
  obtain ⟨l1, l2, l3⟩ := M.lt
  obtain ⟨cs, h1, left1, s1, y1, y7, y8, ll, M1, hR, lc, dc⟩ := l_again (k + 18) m p h.length cells (by omega) (by omega) none none none none 2 0 [] (h ++ [.lst []]) left s n none none none (by decide) (M.more _) (by omega) (by rw [List.getElem?_append_right (Nat.le_refl _), Nat.sub_self]; rfl) (fun c hc => by cases hc)
  obtain ⟨c, e, rfl⟩ : ∃ c e, cs = [c, e] := by
    match cs, lc with
    | [c, e], _ => exact ⟨c, e, rfl⟩
  have D := dc c (List.mem_cons_self ..)
  have E := dc e (List.mem_cons_of_mem _ (List.mem_cons_self ..))
  have hR : h1[h.length]? = some (.lst [.val (chD c), .val (chD e)]) := hR
  obtain ⟨v, h2, left2, s2, r2, a0, a1, M2, F2⟩ := r_draw (k + 18) M1 (by omega) 3 (by decide) (by decide)
  have lr := (List.getElem?_eq_some_iff.mp hR).1
  have hR2 : h2[h.length]? = some (.lst [.val (chD c), .val (chD e)]) := by rw [F2.same _ lr (by omega) (by omega)]; exact hR
  have q5 : (-(2 ^ 62) ≤ (2 : Int) ∧ (2 : Int) < 2 ^ 62) := ⟨by decide, by decide⟩
  have t2 : (2 : Int).toNat = 2 := rfl
  rw [u__law_double, run_fd]
  by_cases z : v = 0
  · have z' : (v = 0) = True := eq_true z
    obtain ⟨v3, h3, left3, s3, r3, c0, c1, M3, F3⟩ := r_draw (k + 18) M2 (by omega) 3 (by decide) (by decide)
    obtain ⟨w, hw, ew⟩ := wordsI c0 c1
    have lr2 := (List.getElem?_eq_some_iff.mp hR2).1
    have hR3 : h3[h.length]? = some (.lst [.val (chD c), .val (chD e)]) := by rw [F3.same _ lr2 (by omega) (by omega)]; exact hR2
    have lr3 := (List.getElem?_eq_some_iff.mp hR3).1
    have i0 := ix_l0 hR2
    obtain ⟨d1, d2, ds⟩ := D
    match c, d1, d2, ds, i0, hR3 with
    | [(a, b, w0)], d1, d2, ds, i0, hR3 =>
      have t := ds _ (List.mem_cons_self ..)
      have D' : Dc [(a, b, w)] := ⟨Nat.le_of_ble_eq_true rfl, Nat.le_of_ble_eq_true rfl, fun u hu => by
        rw [List.mem_singleton] at hu
        subst hu
        exact ⟨t.a1, t.a2, t.b1, t.b2, hw⟩⟩
      have st := set_l1 (v := .val (.tuple [.tuple [.int a, .int b, .str w]])) hR3
      have fin := dbl_end k h.length [(a, b, w0)] [(a, b, w)] ⟨d1, d2, ds⟩ D' (h3.set h.length (.lst [.val (chD [(a, b, w0)]), .val (.tuple [.tuple [.int a, .int b, .str w]])])) (some (.ref m)) y1 none none none (some (.val wsD)) y7 y8 none (List.getElem?_set_self lr3)
      have i0 : ixV (.ref h.length) (.val (.int 0)) h2 = some (.val (.tuple [.tuple [.int a, .int b, .str w0]])) := i0
      refine ⟨_, Eq.trans ?_ fin⟩
      simp only [f__law_double, z0, z1, z3, q5, and_self, kR2, t2, thenM_ok, thenS_ok, nextS_next, nextS_ret, nextS_brk, nextS_cont, turnS_next, turnS_cont, turnS_brk, turnS_ret, finR_next, finR_ret, sureR_ok, slot0, slotS, conR_some, optR_some, valO_some, two_vv, tru_v, truD, ev_var, ev_cint, ev_cstr, ev_cbl, ev_cnon, ev_glo, ev_bin, ev_neg, ev_cmp, ev_chn, ev_bop, ev_b1, ev_b2, ev_nt, ev_ife, ev_tup, ev_lst, ev_lstH, ev_ix, ev_slc, ev_slcH, ev_call, ev_callP, ev_blt, ev_isi, ev_lc, ev_app, ev_dsp, ev_mth1, ev_frz, ev_a0, ev_a1, ev_c0, ev_c1, ev_o0, ev_o1, ev_iex, ev_rng1, ev_rng2, ev_enu, ev_zip, ev_gnm, ev_gtup, ev_gsub, ev_gs0, ev_gs1, intOf_i, boolOf_b, strOf_s, dataOf_d, ix_vv, slR_v, pureR_v, callR_1, callR_2, callR_3, callR_4, callR_5, blt_1, blt_2, isiR_some, viewR_v, view_v, frz_v, kE2, fBin, fCmp, negK, fNeg, kC1, kC2, kC3, kC4, kO1, kO2, kN1, kN2, kI1, kI2, tupR, lstR, lstHR, fIx, kS1, kS2, fCall, fIsi, isiD, kL, lcF, kF1, kF2, kAc, kAn, kOi, kOi2, fItems, kR1, kR3, kR4, kEn1, kEn2, kZ1, kZ2, kZ3, zipO, kG2, kG3, kNx, kSa, kSp, setR, setAll, kSg1, kSg2, kSg3, kSe, kSi1, kSi2, kSl, kRt, kA1, kA2, kM1, kM2, st_asg, st_par, st_aug, st_expr, st_ife, st_loop, st_ret, st_ret0, st_brk, st_cnt, st_pas, ss_nil, ss_cons, loopR_nil, run_fd, gd_con, gd_fn, gd_fnP, vals, itemsV, itemsD, seqD, o_add, o_sub, o_lt, o_le, o_gt, o_ge, o_isn, o_isnn, o_eqi, o_nei, o_eqs, o_nes, isNone, List.map, List.length, List.replicate, List.set, List.cons_append, List.nil_append, List.append_nil, Nat.reduceSub, Nat.reduceAdd, wipeD, Option.map_some, Option.map, Bool.not_true, Bool.not_false, reduceCtorEq, ↓reduceIte, Bool.true_eq_false, Bool.false_eq_true, decide_true, decide_false, if_true, if_false, Nat.zero_le, List.isEmpty_nil, List.isEmpty_cons, thenM_exc, thenS_exc, nextS_exc, turnS_exc, finR_exc, pureR_exc, fEqR, ev_eqR, fIsN, ev_isN, ev_isx, ev_atx, st_rai, st_try, tryS_next, tryS_ret, tryS_exc, raiS]
      rw [ll]
      simp only [restD, f__law_double, r2, z', i0, r3, ew, sl1, sl3, il1, cat21, cat01, st, z1, thenM_ok, thenS_ok, nextS_next, nextS_ret, nextS_brk, nextS_cont, turnS_next, turnS_cont, turnS_brk, turnS_ret, finR_next, finR_ret, sureR_ok, slot0, slotS, conR_some, optR_some, valO_some, two_vv, tru_v, truD, ev_var, ev_cint, ev_cstr, ev_cbl, ev_cnon, ev_glo, ev_bin, ev_neg, ev_cmp, ev_chn, ev_bop, ev_b1, ev_b2, ev_nt, ev_ife, ev_tup, ev_lst, ev_lstH, ev_ix, ev_slc, ev_slcH, ev_call, ev_callP, ev_blt, ev_isi, ev_lc, ev_app, ev_dsp, ev_mth1, ev_frz, ev_a0, ev_a1, ev_c0, ev_c1, ev_o0, ev_o1, ev_iex, ev_rng1, ev_rng2, ev_enu, ev_zip, ev_gnm, ev_gtup, ev_gsub, ev_gs0, ev_gs1, intOf_i, boolOf_b, strOf_s, dataOf_d, ix_vv, slR_v, pureR_v, callR_1, callR_2, callR_3, callR_4, callR_5, blt_1, blt_2, isiR_some, viewR_v, view_v, frz_v, kE2, fBin, fCmp, negK, fNeg, kC1, kC2, kC3, kC4, kO1, kO2, kN1, kN2, kI1, kI2, tupR, lstR, lstHR, fIx, kS1, kS2, fCall, fIsi, isiD, kL, lcF, kF1, kF2, kAc, kAn, kOi, kOi2, fItems, kR1, kR3, kR4, kEn1, kEn2, kZ1, kZ2, kZ3, zipO, kG2, kG3, kNx, kSa, kSp, setR, setAll, kSg1, kSg2, kSg3, kSe, kSi1, kSi2, kSl, kRt, kA1, kA2, kM1, kM2, st_asg, st_par, st_aug, st_expr, st_ife, st_loop, st_ret, st_ret0, st_brk, st_cnt, st_pas, ss_nil, ss_cons, loopR_nil, run_fd, gd_con, gd_fn, gd_fnP, vals, itemsV, itemsD, seqD, o_add, o_sub, o_lt, o_le, o_gt, o_ge, o_isn, o_isnn, o_eqi, o_nei, o_eqs, o_nes, isNone, List.map, List.length, List.replicate, List.set, List.cons_append, List.nil_append, List.append_nil, Nat.reduceSub, Nat.reduceAdd, wipeD, Option.map_some, Option.map, Bool.not_true, Bool.not_false, reduceCtorEq, ↓reduceIte, Bool.true_eq_false, Bool.false_eq_true, decide_true, decide_false, if_true, if_false, Nat.zero_le, List.isEmpty_nil, List.isEmpty_cons, thenM_exc, thenS_exc, nextS_exc, turnS_exc, finR_exc, pureR_exc, fEqR, ev_eqR, fIsN, ev_isN, ev_isx, ev_atx, st_rai, st_try, tryS_next, tryS_ret, tryS_exc, raiS]
    | [u, (a, b, w0)], d1, d2, ds, i0, hR3 =>
      have tu := ds _ (List.mem_cons_self ..)
      have t := ds _ (List.mem_cons_of_mem _ (List.mem_cons_self ..))
      have D' : Dc [u, (a, b, w)] := ⟨Nat.le_of_ble_eq_true rfl, Nat.le_of_ble_eq_true rfl, fun x hx => by
        simp only [List.mem_cons, List.not_mem_nil, or_false] at hx
        rcases hx with rfl | rfl
        · exact tu
        · exact ⟨t.a1, t.a2, t.b1, t.b2, hw⟩⟩
      have st := set_l1 (v := .val (.tuple [stD u, .tuple [.int a, .int b, .str w]])) hR3
      have fin := dbl_end k h.length [u, (a, b, w0)] [u, (a, b, w)] ⟨d1, d2, ds⟩ D' (h3.set h.length (.lst [.val (chD [u, (a, b, w0)]), .val (.tuple [stD u, .tuple [.int a, .int b, .str w]])])) (some (.ref m)) y1 none none none (some (.val wsD)) y7 y8 none (List.getElem?_set_self lr3)
      have i0 : ixV (.ref h.length) (.val (.int 0)) h2 = some (.val (.tuple [stD u, .tuple [.int a, .int b, .str w0]])) := i0
      refine ⟨_, Eq.trans ?_ fin⟩
      simp only [f__law_double, z0, z1, z3, q5, and_self, kR2, t2, thenM_ok, thenS_ok, nextS_next, nextS_ret, nextS_brk, nextS_cont, turnS_next, turnS_cont, turnS_brk, turnS_ret, finR_next, finR_ret, sureR_ok, slot0, slotS, conR_some, optR_some, valO_some, two_vv, tru_v, truD, ev_var, ev_cint, ev_cstr, ev_cbl, ev_cnon, ev_glo, ev_bin, ev_neg, ev_cmp, ev_chn, ev_bop, ev_b1, ev_b2, ev_nt, ev_ife, ev_tup, ev_lst, ev_lstH, ev_ix, ev_slc, ev_slcH, ev_call, ev_callP, ev_blt, ev_isi, ev_lc, ev_app, ev_dsp, ev_mth1, ev_frz, ev_a0, ev_a1, ev_c0, ev_c1, ev_o0, ev_o1, ev_iex, ev_rng1, ev_rng2, ev_enu, ev_zip, ev_gnm, ev_gtup, ev_gsub, ev_gs0, ev_gs1, intOf_i, boolOf_b, strOf_s, dataOf_d, ix_vv, slR_v, pureR_v, callR_1, callR_2, callR_3, callR_4, callR_5, blt_1, blt_2, isiR_some, viewR_v, view_v, frz_v, kE2, fBin, fCmp, negK, fNeg, kC1, kC2, kC3, kC4, kO1, kO2, kN1, kN2, kI1, kI2, tupR, lstR, lstHR, fIx, kS1, kS2, fCall, fIsi, isiD, kL, lcF, kF1, kF2, kAc, kAn, kOi, kOi2, fItems, kR1, kR3, kR4, kEn1, kEn2, kZ1, kZ2, kZ3, zipO, kG2, kG3, kNx, kSa, kSp, setR, setAll, kSg1, kSg2, kSg3, kSe, kSi1, kSi2, kSl, kRt, kA1, kA2, kM1, kM2, st_asg, st_par, st_aug, st_expr, st_ife, st_loop, st_ret, st_ret0, st_brk, st_cnt, st_pas, ss_nil, ss_cons, loopR_nil, run_fd, gd_con, gd_fn, gd_fnP, vals, itemsV, itemsD, seqD, o_add, o_sub, o_lt, o_le, o_gt, o_ge, o_isn, o_isnn, o_eqi, o_nei, o_eqs, o_nes, isNone, List.map, List.length, List.replicate, List.set, List.cons_append, List.nil_append, List.append_nil, Nat.reduceSub, Nat.reduceAdd, wipeD, Option.map_some, Option.map, Bool.not_true, Bool.not_false, reduceCtorEq, ↓reduceIte, Bool.true_eq_false, Bool.false_eq_true, decide_true, decide_false, if_true, if_false, Nat.zero_le, List.isEmpty_nil, List.isEmpty_cons, thenM_exc, thenS_exc, nextS_exc, turnS_exc, finR_exc, pureR_exc, fEqR, ev_eqR, fIsN, ev_isN, ev_isx, ev_atx, st_rai, st_try, tryS_next, tryS_ret, tryS_exc, raiS]
      rw [ll]
      simp only [restD, f__law_double, r2, z', i0, r3, ew, sl2, sl3, il2, cat21, cat11, st, z1, thenM_ok, thenS_ok, nextS_next, nextS_ret, nextS_brk, nextS_cont, turnS_next, turnS_cont, turnS_brk, turnS_ret, finR_next, finR_ret, sureR_ok, slot0, slotS, conR_some, optR_some, valO_some, two_vv, tru_v, truD, ev_var, ev_cint, ev_cstr, ev_cbl, ev_cnon, ev_glo, ev_bin, ev_neg, ev_cmp, ev_chn, ev_bop, ev_b1, ev_b2, ev_nt, ev_ife, ev_tup, ev_lst, ev_lstH, ev_ix, ev_slc, ev_slcH, ev_call, ev_callP, ev_blt, ev_isi, ev_lc, ev_app, ev_dsp, ev_mth1, ev_frz, ev_a0, ev_a1, ev_c0, ev_c1, ev_o0, ev_o1, ev_iex, ev_rng1, ev_rng2, ev_enu, ev_zip, ev_gnm, ev_gtup, ev_gsub, ev_gs0, ev_gs1, intOf_i, boolOf_b, strOf_s, dataOf_d, ix_vv, slR_v, pureR_v, callR_1, callR_2, callR_3, callR_4, callR_5, blt_1, blt_2, isiR_some, viewR_v, view_v, frz_v, kE2, fBin, fCmp, negK, fNeg, kC1, kC2, kC3, kC4, kO1, kO2, kN1, kN2, kI1, kI2, tupR, lstR, lstHR, fIx, kS1, kS2, fCall, fIsi, isiD, kL, lcF, kF1, kF2, kAc, kAn, kOi, kOi2, fItems, kR1, kR3, kR4, kEn1, kEn2, kZ1, kZ2, kZ3, zipO, kG2, kG3, kNx, kSa, kSp, setR, setAll, kSg1, kSg2, kSg3, kSe, kSi1, kSi2, kSl, kRt, kA1, kA2, kM1, kM2, st_asg, st_par, st_aug, st_expr, st_ife, st_loop, st_ret, st_ret0, st_brk, st_cnt, st_pas, ss_nil, ss_cons, loopR_nil, run_fd, gd_con, gd_fn, gd_fnP, vals, itemsV, itemsD, seqD, o_add, o_sub, o_lt, o_le, o_gt, o_ge, o_isn, o_isnn, o_eqi, o_nei, o_eqs, o_nes, isNone, List.map, List.length, List.replicate, List.set, List.cons_append, List.nil_append, List.append_nil, Nat.reduceSub, Nat.reduceAdd, wipeD, Option.map_some, Option.map, Bool.not_true, Bool.not_false, reduceCtorEq, ↓reduceIte, Bool.true_eq_false, Bool.false_eq_true, decide_true, decide_false, if_true, if_false, Nat.zero_le, List.isEmpty_nil, List.isEmpty_cons, thenM_exc, thenS_exc, nextS_exc, turnS_exc, finR_exc, pureR_exc, fEqR, ev_eqR, fIsN, ev_isN, ev_isx, ev_atx, st_rai, st_try, tryS_next, tryS_ret, tryS_exc, raiS]
  · have z' : (v = 0) = False := eq_false z
    have fin := dbl_end k h.length c e D E h2 (some (.ref m)) y1 none none none (some (.val wsD)) y7 y8 none hR2
    refine ⟨_, Eq.trans ?_ fin⟩
    simp only [f__law_double, z0, z1, z3, q5, and_self, kR2, t2, thenM_ok, thenS_ok, nextS_next, nextS_ret, nextS_brk, nextS_cont, turnS_next, turnS_cont, turnS_brk, turnS_ret, finR_next, finR_ret, sureR_ok, slot0, slotS, conR_some, optR_some, valO_some, two_vv, tru_v, truD, ev_var, ev_cint, ev_cstr, ev_cbl, ev_cnon, ev_glo, ev_bin, ev_neg, ev_cmp, ev_chn, ev_bop, ev_b1, ev_b2, ev_nt, ev_ife, ev_tup, ev_lst, ev_lstH, ev_ix, ev_slc, ev_slcH, ev_call, ev_callP, ev_blt, ev_isi, ev_lc, ev_app, ev_dsp, ev_mth1, ev_frz, ev_a0, ev_a1, ev_c0, ev_c1, ev_o0, ev_o1, ev_iex, ev_rng1, ev_rng2, ev_enu, ev_zip, ev_gnm, ev_gtup, ev_gsub, ev_gs0, ev_gs1, intOf_i, boolOf_b, strOf_s, dataOf_d, ix_vv, slR_v, pureR_v, callR_1, callR_2, callR_3, callR_4, callR_5, blt_1, blt_2, isiR_some, viewR_v, view_v, frz_v, kE2, fBin, fCmp, negK, fNeg, kC1, kC2, kC3, kC4, kO1, kO2, kN1, kN2, kI1, kI2, tupR, lstR, lstHR, fIx, kS1, kS2, fCall, fIsi, isiD, kL, lcF, kF1, kF2, kAc, kAn, kOi, kOi2, fItems, kR1, kR3, kR4, kEn1, kEn2, kZ1, kZ2, kZ3, zipO, kG2, kG3, kNx, kSa, kSp, setR, setAll, kSg1, kSg2, kSg3, kSe, kSi1, kSi2, kSl, kRt, kA1, kA2, kM1, kM2, st_asg, st_par, st_aug, st_expr, st_ife, st_loop, st_ret, st_ret0, st_brk, st_cnt, st_pas, ss_nil, ss_cons, loopR_nil, run_fd, gd_con, gd_fn, gd_fnP, vals, itemsV, itemsD, seqD, o_add, o_sub, o_lt, o_le, o_gt, o_ge, o_isn, o_isnn, o_eqi, o_nei, o_eqs, o_nes, isNone, List.map, List.length, List.replicate, List.set, List.cons_append, List.nil_append, List.append_nil, Nat.reduceSub, Nat.reduceAdd, wipeD, Option.map_some, Option.map, Bool.not_true, Bool.not_false, reduceCtorEq, ↓reduceIte, Bool.true_eq_false, Bool.false_eq_true, decide_true, decide_false, if_true, if_false, Nat.zero_le, List.isEmpty_nil, List.isEmpty_cons, thenM_exc, thenS_exc, nextS_exc, turnS_exc, finR_exc, pureR_exc, fEqR, ev_eqR, fIsN, ev_isN, ev_isx, ev_atx, st_rai, st_try, tryS_next, tryS_ret, tryS_exc, raiS]
    rw [ll]
    simp only [restD, f__law_double, r2, z', thenM_ok, thenS_ok, nextS_next, nextS_ret, nextS_brk, nextS_cont, turnS_next, turnS_cont, turnS_brk, turnS_ret, finR_next, finR_ret, sureR_ok, slot0, slotS, conR_some, optR_some, valO_some, two_vv, tru_v, truD, ev_var, ev_cint, ev_cstr, ev_cbl, ev_cnon, ev_glo, ev_bin, ev_neg, ev_cmp, ev_chn, ev_bop, ev_b1, ev_b2, ev_nt, ev_ife, ev_tup, ev_lst, ev_lstH, ev_ix, ev_slc, ev_slcH, ev_call, ev_callP, ev_blt, ev_isi, ev_lc, ev_app, ev_dsp, ev_mth1, ev_frz, ev_a0, ev_a1, ev_c0, ev_c1, ev_o0, ev_o1, ev_iex, ev_rng1, ev_rng2, ev_enu, ev_zip, ev_gnm, ev_gtup, ev_gsub, ev_gs0, ev_gs1, intOf_i, boolOf_b, strOf_s, dataOf_d, ix_vv, slR_v, pureR_v, callR_1, callR_2, callR_3, callR_4, callR_5, blt_1, blt_2, isiR_some, viewR_v, view_v, frz_v, kE2, fBin, fCmp, negK, fNeg, kC1, kC2, kC3, kC4, kO1, kO2, kN1, kN2, kI1, kI2, tupR, lstR, lstHR, fIx, kS1, kS2, fCall, fIsi, isiD, kL, lcF, kF1, kF2, kAc, kAn, kOi, kOi2, fItems, kR1, kR3, kR4, kEn1, kEn2, kZ1, kZ2, kZ3, zipO, kG2, kG3, kNx, kSa, kSp, setR, setAll, kSg1, kSg2, kSg3, kSe, kSi1, kSi2, kSl, kRt, kA1, kA2, kM1, kM2, st_asg, st_par, st_aug, st_expr, st_ife, st_loop, st_ret, st_ret0, st_brk, st_cnt, st_pas, ss_nil, ss_cons, loopR_nil, run_fd, gd_con, gd_fn, gd_fnP, vals, itemsV, itemsD, seqD, o_add, o_sub, o_lt, o_le, o_gt, o_ge, o_isn, o_isnn, o_eqi, o_nei, o_eqs, o_nes, isNone, List.map, List.length, List.replicate, List.set, List.cons_append, List.nil_append, List.append_nil, Nat.reduceSub, Nat.reduceAdd, wipeD, Option.map_some, Option.map, Bool.not_true, Bool.not_false, reduceCtorEq, ↓reduceIte, Bool.true_eq_false, Bool.false_eq_true, decide_true, decide_false, if_true, if_false, Nat.zero_le, List.isEmpty_nil, List.isEmpty_cons, thenM_exc, thenS_exc, nextS_exc, turnS_exc, finR_exc, pureR_exc, fEqR, ev_eqR, fIsN, ev_isN, ev_isx, ev_atx, st_rai, st_try, tryS_next, tryS_ret, tryS_exc, raiS]
end L2.K79

set_option maxRecDepth 100000
set_option maxHeartbeats 4000000
namespace L2.K79
open PySem PySem.Spec PyProof.Rows L2 L2.Cap
theorem l_law (k m p : Nat) (cells : List Int) (x0 x3 : Option RV) : ∀ (n : Nat) (j : Int) (h : AH) (left : List Int) (s : Int) (N : Nat) (y2 : Option RV), MS h m p cells left s N → N + 5 * n < 2 ^ 27 →
    ∃ (h' : AH) (left' : List Int) (s' : Int) (y2' : Option RV), loopR (P.gd (k + 21)) (.nm 2) lb_law_1 (rngL j n) [x0, some (.ref m), y2, x3] h = some (.next [x0, some (.ref m), y2', x3], h') ∧ MS h' m p cells left' s' (N + 5 * n)
  | 0, j, h, left, s, N, y2, M, hN => ⟨h, left, s, y2, rfl, M⟩
  | n + 1, j, h, left, s, N, y2, M, hN => by
    obtain ⟨h1, left1, s1, r1, M1⟩ := r_single k M (by omega)
    obtain ⟨h', left', s', y2', ih, M2⟩ := l_law k m p cells x0 x3 n (j + 1) h1 left1 s1 (N + 5) (some (.val (.int j))) M1 (by omega)
    rw [show N + 5 + 5 * n = N + 5 * (n + 1) by omega] at M2
    refine ⟨h', left', s', y2', ?_, M2⟩
    rw [rngL, loopR_cons]
    simp only [lb_law_1, kSl2, r1, thenM_ok, thenS_ok, nextS_next, nextS_ret, nextS_brk, nextS_cont, turnS_next, turnS_cont, turnS_brk, turnS_ret, finR_next, finR_ret, sureR_ok, slot0, slotS, conR_some, optR_some, valO_some, two_vv, tru_v, truD, ev_var, ev_cint, ev_cstr, ev_cbl, ev_cnon, ev_glo, ev_bin, ev_neg, ev_cmp, ev_chn, ev_bop, ev_b1, ev_b2, ev_nt, ev_ife, ev_tup, ev_lst, ev_lstH, ev_ix, ev_slc, ev_slcH, ev_call, ev_callP, ev_blt, ev_isi, ev_lc, ev_app, ev_dsp, ev_mth1, ev_frz, ev_a0, ev_a1, ev_c0, ev_c1, ev_o0, ev_o1, ev_iex, ev_rng1, ev_rng2, ev_enu, ev_zip, ev_gnm, ev_gtup, ev_gsub, ev_gs0, ev_gs1, intOf_i, boolOf_b, strOf_s, dataOf_d, ix_vv, slR_v, pureR_v, callR_1, callR_2, callR_3, callR_4, callR_5, blt_1, blt_2, isiR_some, viewR_v, view_v, frz_v, kE2, fBin, fCmp, negK, fNeg, kC1, kC2, kC3, kC4, kO1, kO2, kN1, kN2, kI1, kI2, tupR, lstR, lstHR, fIx, kS1, kS2, fCall, fIsi, isiD, kL, lcF, kF1, kF2, kAc, kAn, kOi, kOi2, fItems, kR1, kR3, kR4, kEn1, kEn2, kZ1, kZ2, kZ3, zipO, kG2, kG3, kNx, kSa, kSp, setR, setAll, kSg1, kSg2, kSg3, kSe, kSi1, kSi2, kSl, kRt, kA1, kA2, kM1, kM2, st_asg, st_par, st_aug, st_expr, st_ife, st_loop, st_ret, st_ret0, st_brk, st_cnt, st_pas, ss_nil, ss_cons, loopR_nil, run_fd, gd_con, gd_fn, gd_fnP, vals, itemsV, itemsD, seqD, o_add, o_sub, o_lt, o_le, o_gt, o_ge, o_isn, o_isnn, o_eqi, o_nei, o_eqs, o_nes, isNone, List.map, List.length, List.replicate, List.set, List.cons_append, List.nil_append, List.append_nil, Nat.reduceSub, Nat.reduceAdd, wipeD, Option.map_some, Option.map, Bool.not_true, Bool.not_false, reduceCtorEq, ↓reduceIte, Bool.true_eq_false, Bool.false_eq_true, decide_true, decide_false, if_true, if_false, Nat.zero_le, List.isEmpty_nil, List.isEmpty_cons, thenM_exc, thenS_exc, nextS_exc, turnS_exc, finR_exc, pureR_exc, fEqR, ev_eqR, fIsN, ev_isN, ev_isx, ev_atx, st_rai, st_try, tryS_next, tryS_ret, tryS_exc, raiS]
    exact ih
theorem okw {a b : Int} {w : Str} (h : 1 ≤ a ∧ a ≤ 2000 ∧ 1 ≤ b ∧ b ≤ 2000) (hw : Word w) : OkS (a, b, w) := ⟨h.1, h.2.1, h.2.2.1, h.2.2.2, hw⟩
theorem good1 {a b : Int} {w : Str} (h : 1 ≤ a ∧ a ≤ 2000 ∧ 1 ≤ b ∧ b ≤ 2000) (hw : Word w) : Good4 [(a, b, w)] := ⟨fun t ht => by rw [List.mem_singleton] at ht; subst ht; exact okw h hw, Nat.le_of_ble_eq_true rfl, by show b * 1 ≤ 100000; omega⟩
theorem good0 : Good4 [] := ⟨fun t ht => (by cases ht), by decide, by decide⟩
theorem tA : Two [(25, 24, "down")] [(30, 29, "down")] := ⟨good1 (by decide) (.inl rfl), good1 (by decide) (.inl rfl), by decide⟩
theorem tB : Two [(1, 1, "up")] [] := ⟨good1 (by decide) (.inr (.inl rfl)), good0, by decide⟩
theorem tC : Two [(50, 48, "up")] [(25, 24, "up")] := ⟨good1 (by decide) (.inr (.inl rfl)), good1 (by decide) (.inr (.inl rfl)), by decide⟩
theorem oA : apO [(25, 24, "down")] [(30, 29, "down")] = some 24 := by decide +kernel
theorem oB : apO [(1, 1, "up")] [] = none := by decide +kernel
theorem oC : apO [(50, 48, "up")] [(25, 24, "up")] = none := by decide +kernel
theorem kA (k : Nat) (h : AH) : run P (k + 21) "apart_chains" [.val (.tuple [.tuple [.int 25, .int 24, .str "down"]]), .val (.tuple [.tuple [.int 30, .int 29, .str "down"]])] h = some (.ok (.val (.int 24)), h) := by
  have q := r_apart (k + 17) _ _ h tA
  rw [oA] at q
  exact q
theorem kB (k : Nat) (h : AH) : run P (k + 21) "apart_chains" [.val (.tuple [.tuple [.int 1, .int 1, .str "up"]]), .val (.tuple [])] h = some (.ok (.val .none), h) := by
  have q := r_apart (k + 17) _ _ h tB
  rw [oB] at q
  exact q
theorem kC (k : Nat) (h : AH) : run P (k + 21) "alike_chains" [.val (.tuple [.tuple [.int 50, .int 48, .str "up"]]), .val (.tuple [.tuple [.int 25, .int 24, .str "up"]])] h = some (.ok (.val (.bool true)), h) := by
  have q := r_alike (k + 16) _ _ h tC
  rw [oC] at q
  exact q
theorem eqA : valO (cmF .eq (.list [.int 24, .none]) (.list [.int 24, .none])) = some (.val (.bool true)) := by kernel_rfl
theorem isT : valO (cmF .is (.bool true) (.bool true)) = some (.val (.bool true)) := by kernel_rfl
theorem main (ns : List Int) (hl : ns.length ≤ 63) : ∃ h', run P 22 "law" [.ref 0] [.ro (ns.map .int)] = some (.ok (.val (.bool true)), h') := by
  obtain ⟨h1, cells, left, r1, e0, M⟩ := r_begun 20 ns hl
  obtain ⟨n1, en, n0, n2⟩ : ∃ n1 : Int, (if (ns.length : Int) < 6 then (ns.length : Int) else 6) = n1 ∧ 0 ≤ n1 ∧ n1 ≤ 6 := ⟨_, rfl, by split <;> omega, by split <;> omega⟩
  have q5 : (-(2 ^ 62) ≤ 4 + n1 ∧ 4 + n1 < 2 ^ 62) := ⟨by omega, by omega⟩
  obtain ⟨h2, left2, s2, w2, ll, M2⟩ := l_law 0 2 1 cells (some (.ref 0)) none (4 + n1).toNat 0 h1 left 0 0 none M (by omega)
  obtain ⟨h3, r3⟩ := r_double 0 M2 (by omega)
  have b1 : bltR .len [.ref 0] h1 = some (.ok (.val (.int ns.length)), h1) := by
    rw [blt_ref (viewR_ro e0), b_lenL, List.length_map]
    rfl
  have k1 := kA 0
  have k2 := kB 0
  have k3 := kC 0
  refine ⟨h3, ?_⟩
  rw [u_law]
  simp only [f_law, r1, b1, b_min, en, q5, and_self, kR2, thenM_ok, thenS_ok, nextS_next, nextS_ret, nextS_brk, nextS_cont, turnS_next, turnS_cont, turnS_brk, turnS_ret, finR_next, finR_ret, sureR_ok, slot0, slotS, conR_some, optR_some, valO_some, two_vv, tru_v, truD, ev_var, ev_cint, ev_cstr, ev_cbl, ev_cnon, ev_glo, ev_bin, ev_neg, ev_cmp, ev_chn, ev_bop, ev_b1, ev_b2, ev_nt, ev_ife, ev_tup, ev_lst, ev_lstH, ev_ix, ev_slc, ev_slcH, ev_call, ev_callP, ev_blt, ev_isi, ev_lc, ev_app, ev_dsp, ev_mth1, ev_frz, ev_a0, ev_a1, ev_c0, ev_c1, ev_o0, ev_o1, ev_iex, ev_rng1, ev_rng2, ev_enu, ev_zip, ev_gnm, ev_gtup, ev_gsub, ev_gs0, ev_gs1, intOf_i, boolOf_b, strOf_s, dataOf_d, ix_vv, slR_v, pureR_v, callR_1, callR_2, callR_3, callR_4, callR_5, blt_1, blt_2, isiR_some, viewR_v, view_v, frz_v, kE2, fBin, fCmp, negK, fNeg, kC1, kC2, kC3, kC4, kO1, kO2, kN1, kN2, kI1, kI2, tupR, lstR, lstHR, fIx, kS1, kS2, fCall, fIsi, isiD, kL, lcF, kF1, kF2, kAc, kAn, kOi, kOi2, fItems, kR1, kR3, kR4, kEn1, kEn2, kZ1, kZ2, kZ3, zipO, kG2, kG3, kNx, kSa, kSp, setR, setAll, kSg1, kSg2, kSg3, kSe, kSi1, kSi2, kSl, kRt, kA1, kA2, kM1, kM2, st_asg, st_par, st_aug, st_expr, st_ife, st_loop, st_ret, st_ret0, st_brk, st_cnt, st_pas, ss_nil, ss_cons, loopR_nil, run_fd, gd_con, gd_fn, gd_fnP, vals, itemsV, itemsD, seqD, o_add, o_sub, o_lt, o_le, o_gt, o_ge, o_isn, o_isnn, o_eqi, o_nei, o_eqs, o_nes, isNone, List.map, List.length, List.replicate, List.set, List.cons_append, List.nil_append, List.append_nil, Nat.reduceSub, Nat.reduceAdd, wipeD, Option.map_some, Option.map, Bool.not_true, Bool.not_false, reduceCtorEq, ↓reduceIte, Bool.true_eq_false, Bool.false_eq_true, decide_true, decide_false, if_true, if_false, Nat.zero_le, List.isEmpty_nil, List.isEmpty_cons, thenM_exc, thenS_exc, nextS_exc, turnS_exc, finR_exc, pureR_exc, fEqR, ev_eqR, fIsN, ev_isN, ev_isx, ev_atx, st_rai, st_try, tryS_next, tryS_ret, tryS_exc, raiS]
  have ll : loopR (P.gd 21) (.nm 2) lb_law_1 (rngL 0 (4 + n1).toNat) [some (.ref 0), some (.ref 2), none, none] h1 = _ := ll
  rw [ll]
  simp -implicitDefEqProofs only [r3, k1, k2, k3, eqA, isT, z0, z1, z2, z3, thenM_ok, thenS_ok, nextS_next, nextS_ret, nextS_brk, nextS_cont, turnS_next, turnS_cont, turnS_brk, turnS_ret, finR_next, finR_ret, sureR_ok, slot0, slotS, conR_some, optR_some, valO_some, two_vv, tru_v, truD, ev_var, ev_cint, ev_cstr, ev_cbl, ev_cnon, ev_glo, ev_bin, ev_neg, ev_cmp, ev_chn, ev_bop, ev_b1, ev_b2, ev_nt, ev_ife, ev_tup, ev_lst, ev_lstH, ev_ix, ev_slc, ev_slcH, ev_call, ev_callP, ev_blt, ev_isi, ev_lc, ev_app, ev_dsp, ev_mth1, ev_frz, ev_a0, ev_a1, ev_c0, ev_c1, ev_o0, ev_o1, ev_iex, ev_rng1, ev_rng2, ev_enu, ev_zip, ev_gnm, ev_gtup, ev_gsub, ev_gs0, ev_gs1, intOf_i, boolOf_b, strOf_s, dataOf_d, ix_vv, slR_v, pureR_v, callR_1, callR_2, callR_3, callR_4, callR_5, blt_1, blt_2, isiR_some, viewR_v, view_v, frz_v, kE2, fBin, fCmp, negK, fNeg, kC1, kC2, kC3, kC4, kO1, kO2, kN1, kN2, kI1, kI2, tupR, lstR, lstHR, fIx, kS1, kS2, fCall, fIsi, isiD, kL, lcF, kF1, kF2, kAc, kAn, kOi, kOi2, fItems, kR1, kR3, kR4, kEn1, kEn2, kZ1, kZ2, kZ3, zipO, kG2, kG3, kNx, kSa, kSp, setR, setAll, kSg1, kSg2, kSg3, kSe, kSi1, kSi2, kSl, kRt, kA1, kA2, kM1, kM2, st_asg, st_par, st_aug, st_expr, st_ife, st_loop, st_ret, st_ret0, st_brk, st_cnt, st_pas, ss_nil, ss_cons, loopR_nil, run_fd, gd_con, gd_fn, gd_fnP, vals, itemsV, itemsD, seqD, o_add, o_sub, o_lt, o_le, o_gt, o_ge, o_isn, o_isnn, o_eqi, o_nei, o_eqs, o_nes, isNone, List.map, List.length, List.replicate, List.set, List.cons_append, List.nil_append, List.append_nil, Nat.reduceSub, Nat.reduceAdd, wipeD, Option.map_some, Option.map, Bool.not_true, Bool.not_false, reduceCtorEq, ↓reduceIte, Bool.true_eq_false, Bool.false_eq_true, decide_true, decide_false, if_true, if_false, Nat.zero_le, List.isEmpty_nil, List.isEmpty_cons, thenM_exc, thenS_exc, nextS_exc, turnS_exc, finR_exc, pureR_exc, fEqR, ev_eqR, fIsN, ev_isN, ev_isx, ev_atx, st_rai, st_try, tryS_next, tryS_ret, tryS_exc, raiS]
end L2.K79

set_option maxRecDepth 100000
set_option maxHeartbeats 0
namespace L2.K79
open PySem PySem.Spec PyProof.Rows L2 L2.Cap
theorem facts {Pr : Program} {w : World} {K : PySem.W.Frag} {h : Heap} {mg : Str → Option Value} {f : Addr} (hfile : (Pr.main.file : Str) = file) (htop : (Pr.main.scope.names.lookup ("super" : Str)).isSome = false) (X : K.In h) (G : h.Ns mainGlobals mg) (hfa : mg ("law" : Str) = some (.ref f)) (c : He.SaysD (faOf T free) (T.map Ent.dd) K) (cc : (conB con K && xsB file xs K) = true) :
    ∃ fd : FuncData, (∀ (s : Shared) (v : Value), BindsTo s fd ⟨[v], []⟩ [("_law_script", v)]) ∧ ∀ base : Heap, FnG Pr w K mg base 22 f fd ["_law_script"] (spD K mg 1 (run P 22 "law")) := by
  have g : Gr P Pr K mg T (P.con.map (·.1)) free xs := gr_of X G c cc hfile htop hb (List.all_eq_true.mp hok)
  have m : e_law ∈ T := by simp [T]
  obtain ⟨i, hi⟩ := List.mem_iff_getElem?.mp m
  obtain ⟨f', fd, F, mf, bd⟩ := g.row e_law m
  have e : some (Value.ref f') = some (.ref f) := mf.symm.trans hfa
  cases e
  have b := FunD.bindsA (ps := ["_law_script"]) F b_law
  exact ⟨fd, fun s v => b s [v] rfl, fun base => ok_all g 22 e_law m _ fd F⟩
end L2.K79
open PySem PySem.W PySem.Calls PyProof.Rows L2 L2.Cap
theorem holds_of (main : ∀ ns : List Int, ns.length ≤ 63 → ∃ h', run L2.K79.P 22 "law" [.ref 0] [.ro (ns.map .int)] = some (.ok (.val (.bool true)), h')) : PySem.Challenge.rw_captionhouse_k79_whole_first_parting_fra.Holds := by
  w_on; o_law
  refine HandSHeadRun.head_any (r := OpenLaw.row PySem.Challenge.rw_captionhouse_k79_whole_first_parting_fra) (q := view (OpenLaw.row PySem.Challenge.rw_captionhouse_k79_whole_first_parting_fra).prog [37]) (H := L2.K79.hk) (ob := L2.K79.ob) (M := 4000) (loose := L2.K79.names) (d := HandSHeadRun.topDef (OpenLaw.row PySem.Challenge.rw_captionhouse_k79_whole_first_parting_fra).prog 37) (kwd := []) L2.K79.ob_eq
    (by kernel_rfl) (fun s => by kernel_rfl) L2.K79.top_run (by kernel_rfl) (by kernel_rfl) (by kernel_rfl) (by rfl) (by first | assumption | decide +kernel) (by decide +kernel) ⟨rfl, rfl, rfl, rfl, rfl, by decide +kernel⟩ ?hw ?hc
  case hw => w_witness2
  case hc =>
    refine L2.Cap.walk_G (l := PySem.Challenge.rw_captionhouse_k79_whole_first_parting_fra) (n := 63) (k := 22) (x := "_law_script") rfl (by decide) (by kernel_rfl) ⟨rfl, by decide, by decide⟩ ?F
    intro w mg fa h Y G hmg0
    obtain ⟨K, KX, c, cc⟩ := Y
    have hmg : mg ("law" : PySem.Str) = some (.ref fa) := by
      have e : (HandSHeadRun.topDef (OpenLaw.row PySem.Challenge.rw_captionhouse_k79_whole_first_parting_fra).prog 37).name = ("law" : PySem.Str) := by kernel_rfl
      rw [← e]
      exact hmg0
    obtain ⟨fd, hb, hF⟩ := L2.K79.facts (Pr := (PySem.Challenge.rw_captionhouse_k79_whole_first_parting_fra).prog) (w := w) (by kernel_rfl) (by kernel_rfl) KX G hmg c cc
    refine ⟨K, fd, _, KX, hb, fun H a ns hl hO hS => ?_, hF⟩
    obtain ⟨h', e⟩ := main ns hl
    exact sp_law hO hS e

theorem main_law : ∀ ns : List Int, ns.length ≤ 63 → ∃ h', run L2.K79.P 22 "law" [.ref 0] [.ro (ns.map .int)] = some (.ok (.val (.bool true)), h') := fun ns hl => L2.K79.main ns hl

theorem PySem.Challenge.cw_captionhouse_k79_whole_first_parting_fra_holds : PySem.Challenge.rw_captionhouse_k79_whole_first_parting_fra.Holds := by
  exact holds_of main_law
