import PyProof.Rows.All
import Wide.All
import OpenK.AllK
import Wide.FinOn
import HandS.ForMost
import HandS.Wide
import HandS.Gcd
import HandS.Exc
import HandS.TryOnly
import HandS.ExcInit
import HandS.ExcOwn
import HandS.ExcIs
import HandS.ExcField
import HandS.WordsExc
import KE.DataEq
import HandS.TupAny
import HandS.Style
import HandS.Defaults
import HandS.Zip
import HandS.Conv
import KE.KExcIs
import HandS.HeadEnd
import HandS.HeadHook4
import HandS.Head0
import HandS.Head1
import HandS.Head2
import HandS.Head3
import PySem.Challenge.RW_calmspot_k71_signs
import KE.IntTextLaws
set_option Elab.async false
set_option linter.all false
set_option maxRecDepth 100000
set_option maxHeartbeats 0
/-! DL: a data layer over the hand layer. Values as plain data, defs as functions on data. -/
namespace L2.DL
open PySem PyProof.Rows PySem.Spec

/-! ### data, results -/
/-- plain data: what a value stands for -/
inductive D where
  | non | bl (b : Bool) | int (i : Int) | str (x : Str)
  | lst (xs : List D) | ro (xs : List D) | tup (xs : List D) | dct (kvs : List (Key × D)) | obj (c : Nat) (fs : List (Str × D))
/-- what a piece of code comes to -/
inductive Res (α : Type) where
  | ok (a : α) | ex (c : Nat) (fs : List (Str × D)) | stuck
@[inline] def Res.bind {α β : Type} (x : Res α) (f : α → Res β) : Res β := match x with
  | .ok a => f a
  | .ex c fs => .ex c fs
  | .stuck => .stuck
/-- a local name: nothing, data, a list or a dict that is being made, an instance that is being made -/
inductive Sl where
  | no | d (x : D) | bl (xs : List D) | bd (kvs : List (Key × D)) | bo (c : Nat) (fs : List (Str × D))
inductive O where
  | nx (ρ : List Sl) | rt (d : D) | bk (ρ : List Sl) | ct (ρ : List Sl)

/-! ### what stands for what -/
structure RC where
  K : PySem.W.Frag
  cls : Nat → Addr
mutual
inductive Rep (R : RC) (S : Hp) : V → D → Prop
  | non : Rep R S .non .non
  | bl (b : Bool) : Rep R S (.bl b) (.bl b)
  | int (i : Int) : Rep R S (.int i) (.int i)
  | str (x : Str) : Rep R S (.str x) (.str x)
  | lst {a : Addr} {vs : List V} {ds : List D} : S a = some (.lst vs) → Reps R S vs ds → Rep R S (.ref a) (.lst ds)
  | ro {a : Addr} {vs : List V} {ds : List D} : SqL R.K S a vs → Reps R S vs ds → Rep R S (.ref a) (.ro ds)
  | tup {a : Addr} {vs : List V} {ds : List D} : SqT R.K S a vs → Reps R S vs ds → Rep R S (.ref a) (.tup ds)
  | dct {a : Addr} {kvs : List (Key × V)} {ds : List (Key × D)} : S a = some (.dK kvs) → RepK R S kvs ds → Rep R S (.ref a) (.dct ds)
  | obj {a dx : Addr} {c : Nat} {vfs : List (Str × V)} {fs : List (Str × D)} : S a = some (.ins (R.cls c) dx vfs) → RepF R S vfs fs → Rep R S (.ref a) (.obj c fs)
inductive Reps (R : RC) (S : Hp) : List V → List D → Prop
  | nil : Reps R S [] []
  | cons {v : V} {d : D} {vs : List V} {ds : List D} : Rep R S v d → Reps R S vs ds → Reps R S (v :: vs) (d :: ds)
inductive RepK (R : RC) (S : Hp) : List (Key × V) → List (Key × D) → Prop
  | nil : RepK R S [] []
  | cons {k : Key} {v : V} {d : D} {vs : List (Key × V)} {ds : List (Key × D)} : Rep R S v d → RepK R S vs ds → RepK R S ((k, v) :: vs) ((k, d) :: ds)
inductive RepF (R : RC) (S : Hp) : List (Str × V) → List (Str × D) → Prop
  | nil : RepF R S [] []
  | cons {k : Str} {v : V} {d : D} {vs : List (Str × V)} {ds : List (Str × D)} : Rep R S v d → RepF R S vs ds → RepF R S ((k, v) :: vs) ((k, d) :: ds)
end
theorem same_rd {H H' : Hp} {a : Addr} {u : HO} (e : Same H H') (h : Rd H a u) : Rd H' a u := by
  rcases h with h | ⟨o, h⟩
  · exact .inl (e _ _ h)
  · exact .inr ⟨o, e _ _ h⟩
theorem same_sqL {K : PySem.W.Frag} {H H' : Hp} {a : Addr} {xs : List V} (e : Same H H') (h : SqL K H a xs) : SqL K H' a xs := by
  rcases h with h | h
  · exact .inl (same_rd e h)
  · exact .inr h
theorem same_sqT {K : PySem.W.Frag} {H H' : Hp} {a : Addr} {xs : List V} (e : Same H H') (h : SqT K H a xs) : SqT K H' a xs := by
  rcases h with h | h
  · exact .inl (same_rd e h)
  · exact .inr h
mutual
theorem Rep.mono {R : RC} {S S' : Hp} (e : Same S S') {v : V} {d : D} (h : Rep R S v d) : Rep R S' v d := match h with
  | .non => .non
  | .bl b => .bl b
  | .int i => .int i
  | .str x => .str x
  | .lst h1 h2 => .lst (e _ _ h1) (h2.mono e)
  | .ro h1 h2 => .ro (same_sqL e h1) (h2.mono e)
  | .tup h1 h2 => .tup (same_sqT e h1) (h2.mono e)
  | .dct h1 h2 => .dct (e _ _ h1) (h2.mono e)
  | .obj h1 h2 => .obj (e _ _ h1) (h2.mono e)
theorem Reps.mono {R : RC} {S S' : Hp} (e : Same S S') {v : List V} {d : List D} (h : Reps R S v d) : Reps R S' v d := match h with
  | .nil => .nil
  | .cons h1 h2 => .cons (h1.mono e) (h2.mono e)
theorem RepK.mono {R : RC} {S S' : Hp} (e : Same S S') {v : List (Key × V)} {d : List (Key × D)} (h : RepK R S v d) : RepK R S' v d := match h with
  | .nil => .nil
  | .cons h1 h2 => .cons (h1.mono e) (h2.mono e)
theorem RepF.mono {R : RC} {S S' : Hp} (e : Same S S') {v : List (Str × V)} {d : List (Str × D)} (h : RepF R S v d) : RepF R S' v d := match h with
  | .nil => .nil
  | .cons h1 h2 => .cons (h1.mono e) (h2.mono e)
end

/-! ### how heaps grow -/
/-- S: what stands still; H: all that is tracked -/
structure Ext (S H S' H' : Hp) : Prop where
  s : Same S S'
  h : Same H H'
  new : ∀ b o, S' b = some o → S b = none → H b = none
structure Sub (S H : Hp) : Prop where
  sub : Same S H
theorem Ext.refl (S H : Hp) : Ext S H S H := ⟨fun _ _ e => e, fun _ _ e => e, fun b o e n => by rw [n] at e; cases e⟩
theorem Ext.trans {S H S1 H1 S2 H2 : Hp} (a : Ext S H S1 H1) (b : Ext S1 H1 S2 H2) : Ext S H S2 H2 :=
  ⟨a.s.trans b.s, a.h.trans b.h, fun x o e n => by
    cases q : S1 x with
    | some o1 => exact a.new x o1 q n
    | none => exact a.h.free (b.new x o e q)⟩
/-- a new object -/
theorem Ext.laid {S H : Hp} {p : Addr} {o : HO} (sub : Same S H) (hp : H p = none) : Ext S H (upd S p o) (upd H p o) := by
  have sp : S p = none := sub.free hp
  refine ⟨fun b u e => ?_, fun b u e => ?_, fun b u e n => ?_⟩
  · rw [upd_ne (ne_of_none e sp)]; exact e
  · rw [upd_ne (ne_of_none e hp)]; exact e
  · by_cases hb : b = p
    · rw [hb]; exact hp
    · rw [upd_ne hb, n] at e; cases e
theorem same_upd {S H : Hp} {p : Addr} {o : HO} (sub : Same S H) : Same (upd S p o) (upd H p o) := fun b u e => by
  by_cases hb : b = p
  · subst hb; rw [upd_same] at e ⊢; exact e
  · rw [upd_ne hb] at e ⊢; exact sub _ _ e

/-! ### local names -/
def SlOk (R : RC) (S H : Hp) (o : Option V) : Sl → Prop
  | .no => True
  | .d x => ∃ v, o = some v ∧ Rep R S v x
  | .bl xs => ∃ p vs, o = some (.ref p) ∧ S p = none ∧ H p = some (.lst vs) ∧ Reps R S vs xs
  | .bd kvs => ∃ p vs, o = some (.ref p) ∧ S p = none ∧ H p = some (.dK vs) ∧ RepK R S vs kvs
  | .bo c fs => ∃ p dx vfs, o = some (.ref p) ∧ S p = none ∧ H p = some (.ins (R.cls c) dx vfs) ∧ RepF R S vfs fs
def Sl.own : Sl → Bool
  | .no => false
  | .d _ => false
  | _ => true
/-- the ghost state of a def: the heaps at its entry -/
structure GC where
  cls : Nat → Addr
  H0 : Hp
  S0 : Hp
  /-- within an except suite: the name's slot, the exception, its dict, its class, its fields -/
  ex : Option (Nat × Addr × Option Addr × Nat × List (Str × D))
abbrev GC.R (G : GC) (K : PySem.W.Frag) : RC := ⟨K, G.cls⟩
/-- the own dict of an exception -/
def XdAt (R : RC) (S H : Hp) (dd : Option Addr) (fs : List (Str × D)) : Prop := (fs = [] ∧ dd = none) ∨ ∃ a vfs, dd = some a ∧ H a = some (.xd vfs) ∧ RepF R S vfs fs
structure RE (K : PySem.W.Frag) (G : GC) (S H : Hp) (σ : St) (ρ : List Sl) : Prop where
  sub : Same S H
  ext : Ext G.S0 G.H0 S H
  len : σ.length = ρ.length
  sl : ∀ (i : Nat) x, ρ[i]? = some x → ∃ o, σ[i]? = some o ∧ SlOk (G.R K) S H o x
  own : ∀ (i : Nat) x p, ρ[i]? = some x → x.own = true → σ[i]? = some (some (.ref p)) → G.H0 p = none ∧ ∀ (j : Nat) y, ρ[j]? = some y → y.own = true → σ[j]? = some (some (.ref p)) → j = i
  exn : ∀ i a dd c fs, G.ex = some (i, a, dd, c, fs) → σ[i]? = some (some (.ref a)) ∧ XdAt (G.R K) S H dd fs
theorem XdAt.ext {R : RC} {S H S' H' : Hp} {dd : Option Addr} {fs : List (Str × D)} (e : Ext S H S' H') (h : XdAt R S H dd fs) : XdAt R S' H' dd fs := by
  rcases h with h | ⟨a, vfs, h1, h2, h3⟩
  · exact .inl h
  · exact .inr ⟨a, vfs, h1, e.h _ _ h2, h3.mono e.s⟩
theorem SlOk.ext {R : RC} {S H S' H' : Hp} {o : Option V} {x : Sl} (e : Ext S H S' H') (h : SlOk R S H o x) : SlOk R S' H' o x := by
  have fr : ∀ p u, S p = none → H p = some u → S' p = none := fun p u n q => by
    cases z : S' p with
    | none => rfl
    | some w =>
      have := e.new p w z n
      rw [q] at this; cases this
  cases x with
  | no => trivial
  | d x => obtain ⟨v, h1, h2⟩ := h; exact ⟨v, h1, h2.mono e.s⟩
  | bl xs => obtain ⟨p, vs, h1, h2, h3, h4⟩ := h; exact ⟨p, vs, h1, fr _ _ h2 h3, e.h _ _ h3, h4.mono e.s⟩
  | bd xs => obtain ⟨p, vs, h1, h2, h3, h4⟩ := h; exact ⟨p, vs, h1, fr _ _ h2 h3, e.h _ _ h3, h4.mono e.s⟩
  | bo c xs => obtain ⟨p, dx, vs, h1, h2, h3, h4⟩ := h; exact ⟨p, dx, vs, h1, fr _ _ h2 h3, e.h _ _ h3, h4.mono e.s⟩
section
variable {K : PySem.W.Frag} {G : GC} {S H S' H' : Hp} {σ : St} {ρ : List Sl}
theorem RE.grow (r : RE K G S H σ ρ) (e : Ext S H S' H') (sub : Same S' H') : RE K G S' H' σ ρ :=
  ⟨sub, r.ext.trans e, r.len, fun i x h => let ⟨o, h1, h2⟩ := r.sl i x h; ⟨o, h1, h2.ext e⟩, r.own, fun i a dd c fs h => let ⟨h1, h2⟩ := r.exn i a dd c fs h; ⟨h1, h2.ext e⟩⟩
/-- a name gets data -/
theorem RE.set (hG : G.ex = none) (r : RE K G S H σ ρ) (i : Nat) {v : V} {x : D} (h : Rep (G.R K) S v x) : RE K G S H (σ.set i (some v)) (ρ.set i (.d x)) := by
  refine ⟨r.sub, r.ext, by simp [r.len], fun j y e => ?_, fun j y p e o s => ?_, fun i a dd c fs h => by rw [hG] at h; cases h⟩
  · by_cases hj : i = j
    · subst hj
      have hl : i < (ρ.set i (.d x)).length := (List.getElem?_eq_some_iff.mp e).1
      rw [List.length_set] at hl
      rw [List.getElem?_set_self hl] at e
      cases e
      exact ⟨_, List.getElem?_set_self (by rw [r.len]; exact hl), v, rfl, h⟩
    · rw [List.getElem?_set_ne hj] at e ⊢
      exact r.sl j y e
  · have ne : ∀ (k : Nat) z, (ρ.set i (.d x))[k]? = some z → z.own = true → i ≠ k := fun k z ez oz q => by
      subst q
      have hl : i < (ρ.set i (.d x)).length := (List.getElem?_eq_some_iff.mp ez).1
      rw [List.length_set] at hl
      rw [List.getElem?_set_self hl] at ez
      cases ez; cases oz
    have hj := ne j y e o
    rw [List.getElem?_set_ne hj] at e s
    obtain ⟨h1, h2⟩ := r.own j y p e o s
    refine ⟨h1, fun k z ez oz sz => ?_⟩
    have hk := ne k z ez oz
    rw [List.getElem?_set_ne hk] at ez sz
    exact h2 k z ez oz sz
end

/-! ### readings -/
abbrev ME := List Sl → Res D
abbrev MA := List Sl → Res (List D)
abbrev MT := List Sl → Res Bool
abbrev MS := List Sl → Res O
/-- what is wanted of an exception -/
def Want (K : PySem.W.Frag) (G : GC) (W : WX) (S H : Hp) (σ : St) (c : Nat) (fs : List (Str × D)) : Prop :=
  ∀ dd S' H', Ext S H S' H' → Same S' H' → XdAt (G.R K) S' H' dd fs → W (.ref (G.cls c)) dd σ H'
def After {α : Type} (K : PySem.W.Frag) (G : GC) (W : WX) (S H : Hp) (σ : St) (r : Res α) (k : α → Prop) : Prop := match r with
  | .ok a => k a
  | .ex c fs => Want K G W S H σ c fs
  | .stuck => False
def tD (K : PySem.W.Frag) (G : GC) (W : WX) (m : ME) : TE := fun σ H Q => ∃ S ρ, RE K G S H σ ρ ∧
  After K G W S H σ (m ρ) fun d => ∀ v S' H', Ext S H S' H' → Same S' H' → Rep (G.R K) S' v d → Q v H'
def tDT (K : PySem.W.Frag) (G : GC) (W : WX) (m : MT) : TT := fun σ H Q => ∃ S ρ, RE K G S H σ ρ ∧
  After K G W S H σ (m ρ) fun b => ∀ S' H', Ext S H S' H' → Same S' H' → Q b H'
def tDA (K : PySem.W.Frag) (G : GC) (W : WX) (m : MA) : TA := fun σ H Q => ∃ S ρ, RE K G S H σ ρ ∧
  After K G W S H σ (m ρ) fun ds => ∀ vs S' H', Ext S H S' H' → Same S' H' → Reps (G.R K) S' vs ds → Q vs H'
def WantS (K : PySem.W.Frag) (G : GC) (W : WX) (c : Nat) (fs : List (Str × D)) : Prop :=
  ∀ dd σ' S' H', Ext G.S0 G.H0 S' H' → Same S' H' → XdAt (G.R K) S' H' dd fs → W (.ref (G.cls c)) dd σ' H'
def AfterS {α : Type} (K : PySem.W.Frag) (G : GC) (W : WX) (r : Res α) (k : α → Prop) : Prop := match r with
  | .ok a => k a
  | .ex c fs => WantS K G W c fs
  | .stuck => False
/-- what a statement's outcome is to bring -/
def Fin (K : PySem.W.Frag) (G : GC) (De : Ends) (S : Hp) : O → Prop
  | .nx ρ' => ∀ σ' S' H', Same S S' → RE K G S' H' σ' ρ' → De.nx σ' H'
  | .bk ρ' => ∀ σ' S' H', Same S S' → RE K G S' H' σ' ρ' → De.bk σ' H'
  | .ct ρ' => ∀ σ' S' H', Same S S' → RE K G S' H' σ' ρ' → De.ct σ' H'
  | .rt d => ∀ v S' H', Ext G.S0 G.H0 S' H' → Same S' H' → Rep (G.R K) S' v d → De.rt v H'
def tDS (K : PySem.W.Frag) (G : GC) (W : WX) (m : MS) : TS := fun De σ H => ∃ S ρ, RE K G S H σ ρ ∧ AfterS K G W (m ρ) (Fin K G De S)
end L2.DL
namespace L2.DL
open PySem PyProof.Rows PySem.Spec

/-! ### glue -/
theorem pe_weak {X : Cx} {e : Expr} {t t' : TE} (h : PE X e t) (i : ∀ σ H Q, t' σ H Q → t σ H Q) : PE X e t' := ⟨fun pins s σ H Q I q => h.run pins s σ H Q I (i σ H Q q)⟩
theorem pt_weak {X : Cx} {e : Expr} {t t' : TT} (h : PT X e t) (i : ∀ σ H Q, t' σ H Q → t σ H Q) : PT X e t' := ⟨fun pins s σ H Q I q => h.run pins s σ H Q I (i σ H Q q)⟩
theorem pw_weak {X : Cx} {e : Expr} {t t' : TT} (h : PW X e t) (i : ∀ σ H Q, t' σ H Q → t σ H Q) : PW X e t' := ⟨fun w pins s σ H Q I q => h.run w pins s σ H Q I (i σ H Q q)⟩
theorem pa_weak {X : Cx} {e : List Expr} {t t' : TA} (h : PA X e t) (i : ∀ σ H Q, t' σ H Q → t σ H Q) : PA X e t' := ⟨fun p pins s σ H Q I q => h.run p pins s σ H Q I (i σ H Q q)⟩
theorem ps_weak {X : Cx} {e : Stmt} {t t' : TS} (h : PS X e t) (i : ∀ D σ H, t' D σ H → t D σ H) : PS X e t' := ⟨fun pins s σ H D I q => h.run pins s σ H D I (i D σ H q)⟩
theorem pss_weak {X : Cx} {e : List Stmt} {t t' : TS} (h : PSs X e t) (i : ∀ D σ H, t' D σ H → t D σ H) : PSs X e t' := ⟨fun pins s σ H D I q => h.run pins s σ H D I (i D σ H q)⟩
theorem Want.ext {K : PySem.W.Frag} {G : GC} {W : WX} {S H S' H' : Hp} {σ : St} {c : Nat} {fs : List (Str × D)} (e : Ext S H S' H') (h : Want K G W S H σ c fs) : Want K G W S' H' σ c fs :=
  fun dd S2 H2 e2 s2 x => h dd S2 H2 (e.trans e2) s2 x
theorem After.bind {α β : Type} {K : PySem.W.Frag} {G : GC} {W : WX} {S H : Hp} {σ : St} {r : Res α} {f : α → Res β} {k : β → Prop} {k' : α → Prop} (h : After K G W S H σ (r.bind f) k) (i : ∀ a, After K G W S H σ (f a) k → k' a) : After K G W S H σ r k' := by
  cases r with
  | ok a => exact i a h
  | ex c fs => exact h
  | stuck => exact h
theorem After.imp {α : Type} {K : PySem.W.Frag} {G : GC} {W : WX} {S H : Hp} {σ : St} {r : Res α} {k k' : α → Prop} (h : After K G W S H σ r k) (i : ∀ a, k a → k' a) : After K G W S H σ r k' := by
  cases r with
  | ok a => exact i a h
  | ex c fs => exact h
  | stuck => exact h
theorem After.ext {α : Type} {K : PySem.W.Frag} {G : GC} {W : WX} {S H S' H' : Hp} {σ : St} {r : Res α} {k k' : α → Prop} (e : Ext S H S' H') (h : After K G W S H σ r k) (i : ∀ a, k a → k' a) : After K G W S' H' σ r k' := by
  cases r with
  | ok a => exact i a h
  | ex c fs => exact Want.ext e h
  | stuck => exact h

/-! ### combinators: expressions -/
def lift {α : Type} : Option α → Res α
  | some a => .ok a
  | none => .stuck
def eV (i : Nat) : ME := fun ρ => match ρ[i]? with
  | some (.d x) => .ok x
  | _ => .stuck
def eC (d : D) : ME := fun _ => .ok d
def eOp (g : D → D → Option D) (a b : ME) : ME := fun ρ => (a ρ).bind fun x => (b ρ).bind fun y => lift (g x y)
def eUn (g : D → Option D) (a : ME) : ME := fun ρ => (a ρ).bind fun x => lift (g x)
/-- a list of expressions -/
def aNil : MA := fun _ => .ok []
def aCons (a : ME) (as : MA) : MA := fun ρ => (a ρ).bind fun x => (as ρ).bind fun xs => .ok (x :: xs)
def eFn (g : List D → Option D) (as : MA) : ME := fun ρ => (as ρ).bind fun xs => lift (g xs)
def eMt (g : D → List D → Option D) (a : ME) (as : MA) : ME := fun ρ => (a ρ).bind fun x => (as ρ).bind fun xs => lift (g x xs)
def eCall (f : List D → Res D) (as : MA) : ME := fun ρ => (as ρ).bind f
/-- tests -/
def toB : D → Option Bool
  | .bl b => some b
  | _ => none
def cE (a : ME) : MT := fun ρ => (a ρ).bind fun x => lift (toB x)
def cAnd (a b : MT) : MT := fun ρ => (a ρ).bind fun x => if x = true then b ρ else .ok false
def cOr (a b : MT) : MT := fun ρ => (a ρ).bind fun x => if x = true then .ok true else b ρ
def cNot (a : MT) : MT := fun ρ => (a ρ).bind fun x => .ok (!x)
def eIf (c : MT) (a b : ME) : ME := fun ρ => (c ρ).bind fun x => if x = true then a ρ else b ρ
/-- a and b, a or b, not a as values (bools) -/
def eAnd (a b : ME) : ME := fun ρ => (a ρ).bind fun x => (lift (toB x)).bind fun k => if k = true then b ρ else .ok (.bl false)
def eOr (a b : ME) : ME := fun ρ => (a ρ).bind fun x => (lift (toB x)).bind fun k => if k = true then .ok (.bl true) else b ρ
def eNot (a : ME) : ME := fun ρ => (a ρ).bind fun x => (lift (toB x)).bind fun k => .ok (.bl (!k))

/-! ### operations by values -/
/-- what is wanted of the value that stands for z -/
def Give (R : RC) (S H : Hp) (z : D) (Q : VK) : Prop := ∀ u S' H', Ext S H S' H' → Same S' H' → Rep R S' u z → Q u H'
def rD2 (R : RC) (g : D → D → Option D) : R2 := fun v w H Q => ∃ S x y z, Same S H ∧ Rep R S v x ∧ Rep R S w y ∧ g x y = some z ∧ Give R S H z Q
def rD1 (R : RC) (g : D → Option D) : V → Hp → VK → Prop := fun v H Q => ∃ S x z, Same S H ∧ Rep R S v x ∧ g x = some z ∧ Give R S H z Q
def rDn (R : RC) (g : List D → Option D) : List V → Hp → VK → Prop := fun vs H Q => ∃ S xs z, Same S H ∧ Reps R S vs xs ∧ g xs = some z ∧ Give R S H z Q
def rDm (R : RC) (g : D → List D → Option D) : V → List V → Hp → VK → Prop := fun v vs H Q => ∃ S x xs z, Same S H ∧ Rep R S v x ∧ Reps R S vs xs ∧ g x xs = some z ∧ Give R S H z Q
theorem OpR.weak {X : Cx} {f : Value → Value → Sem Value} {r r' : R2} (h : OpR X f r) (i : ∀ x y H Q, r' x y H Q → r x y H Q) : OpR X f r' := fun pins s σ H x y v u Q I rx ry q => h pins s σ H x y v u Q I rx ry (i _ _ _ _ q)
theorem UnR.weak {X : Cx} {f : Value → Sem Value} {r r' : V → Hp → VK → Prop} (h : UnR X f r) (i : ∀ x H Q, r' x H Q → r x H Q) : UnR X f r' := fun pins s σ H x v Q I rx q => h pins s σ H x v Q I rx (i _ _ _ q)
theorem CallR.weak {X : Cx} {f : Value} {r r' : List V → Hp → VK → Prop} (h : CallR X f r) (i : ∀ x H Q, r' x H Q → r x H Q) : CallR X f r' := fun pins s σ H x v Q I rx q => h pins s σ H x v Q I rx (i _ _ _ q)
theorem IxR.weak {X : Cx} {r r' : R2} (h : IxR X r) (i : ∀ x y H Q, r' x y H Q → r x y H Q) : IxR X r' := fun va sl pins s σ H x y v u Q I rx ry q => h va sl pins s σ H x y v u Q I rx ry (i _ _ _ _ q)

section
variable {X : Cx} {G : GC} {W : WX} {a b c : Expr} {ma mb mc : ME} {pos : Pos}
abbrev DE (X : Cx) (G : GC) (W : WX) (e : Expr) (m : ME) : Prop := PE X e (tD X.K G W m)
abbrev DT (X : Cx) (G : GC) (W : WX) (e : Expr) (m : MT) : Prop := PT X e (tDT X.K G W m)
abbrev DW (X : Cx) (G : GC) (W : WX) (e : Expr) (m : MT) : Prop := PW X e (tDT X.K G W m)
abbrev DA (X : Cx) (G : GC) (W : WX) (e : List Expr) (m : MA) : Prop := PA X e (tDA X.K G W m)
abbrev DS (X : Cx) (G : GC) (W : WX) (e : Stmt) (m : MS) : Prop := PS X e (tDS X.K G W m)
abbrev DSs (X : Cx) (G : GC) (W : WX) (e : List Stmt) (m : MS) : Prop := PSs X e (tDS X.K G W m)

theorem dv {x : Str} (i : Nat) (hN : X.N[i]? = some x := by rfl) (hv : Vis X.env.scope x := by first | exact Or.inl rfl | exact Or.inr (Or.inl rfl) | exact Or.inr (Or.inr rfl)) (hd : (x == ("__debug__" : Str)) = false := by decide) (hcd : (x == ("__classdict__" : Str)) = false := by decide) :
    DE X G W (.Name x pos) (eV i) := pe_weak (pe_var hN hv hd hcd) fun σ H Q ⟨S, ρ, re, h⟩ => by
  unfold eV at h
  cases e : ρ[i]? with
  | none => rw [e] at h; exact h.elim
  | some x =>
    rw [e] at h
    cases x with
    | d x =>
      obtain ⟨o, h1, v, h2, h3⟩ := re.sl i _ e
      subst h2
      exact ⟨v, h1, h v S H (.refl _ _) re.sub h3⟩
    | no => exact h.elim
    | bl _ => exact h.elim
    | bd _ => exact h.elim
    | bo _ _ => exact h.elim
theorem tC_of {v : V} {d : D} (r : ∀ R S, Rep R S v d) {σ : St} {H : Hp} {Q : VK} {K : PySem.W.Frag} : tD K G W (eC d) σ H Q → tC v σ H Q := fun ⟨S, ρ, re, h⟩ => h v S H (.refl _ _) re.sub (r _ _)
theorem de_int {i j} : DE X G W (.Constant (.int i) j pos) (eC (.int i)) := pe_weak pe_int fun _ _ _ => tC_of fun _ _ => .int _
theorem de_bl {i j} : DE X G W (.Constant (.bool i) j pos) (eC (.bl i)) := pe_weak pe_bl fun _ _ _ => tC_of fun _ _ => .bl _
theorem de_str {i j} : DE X G W (.Constant (.str i) j pos) (eC (.str i)) := pe_weak pe_str fun _ _ _ => tC_of fun _ _ => .str _
theorem de_non {j} : DE X G W (.Constant .none j pos) (eC .non) := pe_weak pe_non fun _ _ _ => tC_of fun _ _ => .non
/-- a module's constant that is a text, a number -/
theorem de_globS {x : Str} {z : Str} (hg : Gl X x) (hm : ∃ t, X.mg x = some (.str z t)) (hd : (x == ("__debug__" : Str)) = false := by decide) : DE X G W (.Name x pos) (eC (.str z)) := by
  obtain ⟨t, hm⟩ := hm
  exact pe_weak (pe_glob (v := .str z) hg hm ⟨_, rfl⟩ hd) fun _ _ _ => tC_of fun _ _ => .str _
theorem de_globI {x : Str} {z : Int} (hg : Gl X x) (hm : ∃ t, X.mg x = some (.int z t)) (hd : (x == ("__debug__" : Str)) = false := by decide) : DE X G W (.Name x pos) (eC (.int z)) := by
  obtain ⟨t, hm⟩ := hm
  exact pe_weak (pe_glob (v := .int z) hg hm ⟨_, rfl⟩ hd) fun _ _ _ => tC_of fun _ _ => .int _
/-- a module's constant, an object -/
theorem de_globR {x : Str} {a : Addr} {d : D} (hg : Gl X x) (hm : X.mg x = some (.ref a)) (r : ∀ S, Rep (G.R X.K) S (.ref a) d) (hd : (x == ("__debug__" : Str)) = false := by decide) : DE X G W (.Name x pos) (eC d) :=
  pe_weak (pe_glob (v := .ref a) hg hm rfl hd) fun σ H Q ⟨S, ρ, re, h⟩ => h _ S H (.refl _ _) re.sub (r _)


theorem After.lift {K : PySem.W.Frag} {S H : Hp} {σ : St} {o : Option D} {k : D → Prop} (h : After K G W S H σ (lift o) k) : ∃ z, o = some z ∧ k z := by
  cases o with
  | none => exact h.elim
  | some z => exact ⟨z, rfl, h⟩
theorem After.liftB {K : PySem.W.Frag} {S H : Hp} {σ : St} {o : Option Bool} {k : Bool → Prop} (h : After K G W S H σ (DL.lift o) k) : ∃ z, o = some z ∧ k z := by
  cases o with
  | none => exact h.elim
  | some z => exact ⟨z, rfl, h⟩

/-! ### operators -/
theorem t_op {K : PySem.W.Frag} {g : D → D → Option D} {σ : St} {H : Hp} {Q : VK} : tD K G W (eOp g ma mb) σ H Q → tOp (rD2 (G.R K) g) (tD K G W ma) (tD K G W mb) σ H Q := fun ⟨S, ρ, re, h⟩ => by
  refine ⟨S, ρ, re, After.bind h fun x h v S1 H1 e1 s1 r1 => ?_⟩
  refine ⟨S1, ρ, re.grow e1 s1, After.bind (After.ext e1 h fun _ q => q) fun y h w S2 H2 e2 s2 r2 => ?_⟩
  obtain ⟨z, hz, q⟩ := After.lift h
  exact ⟨S2, x, y, z, s2, r1.mono e2.s, r2, hz, fun u S3 H3 e3 s3 r3 => q u S3 H3 ((e1.trans e2).trans e3) s3 r3⟩
theorem de_op {op : Operator} {g : D → D → Option D} (ho : OpR X (binaryOp op) (rD2 (G.R X.K) g)) (ha : DE X G W a ma) (hb : DE X G W b mb) : DE X G W (.BinOp a op b pos) (eOp g ma mb) :=
  pe_weak (pe_op ho ha hb) fun _ _ _ => t_op
theorem de_cmp {op : CmpOp} {g : D → D → Option D} (ho : OpR X (compareOp op) (rD2 (G.R X.K) g)) (ha : DE X G W a ma) (hb : DE X G W b mb) (hm : behindInMarks op b = false := by first | exact nomark _ | rfl | with_unfolding_all rfl) : DE X G W (.Compare a [op] [b] pos) (eOp g ma mb) :=
  pe_weak (pe_cmpR ho ha hb hm) fun _ _ _ => t_op
theorem de_un {op : UnaryOp} {g : D → Option D} (ho : UnR X (unaryOp op) (rD1 (G.R X.K) g)) (ha : DE X G W a ma) : DE X G W (.UnaryOp op a pos) (eUn g ma) :=
  pe_weak (pe_un ho ha) fun σ H Q ⟨S, ρ, re, h⟩ => by
    refine ⟨S, ρ, re, After.bind h fun x h v S1 H1 e1 s1 r1 => ?_⟩
    obtain ⟨z, hz, q⟩ := After.lift h
    exact ⟨S1, x, z, s1, r1, hz, fun u S3 H3 e3 s3 r3 => q u S3 H3 (e1.trans e3) s3 r3⟩
theorem de_ix {g : D → D → Option D} (hr : IxR X (rD2 (G.R X.K) g)) (ha : DE X G W a ma) (hb : DE X G W b mb) (hs : PlainIx b := by exact fun _ _ => rfl) : DE X G W (.Subscript a b pos) (eOp g ma mb) :=
  pe_weak (pe_ix hr ha hb hs) fun _ _ _ => t_op

/-! ### tests -/
theorem t_test {K : PySem.W.Frag} {σ : St} {H : Hp} {Q : Bool → Hp → Prop} : tDT K G W (cE ma) σ H Q → tB (tD K G W ma) σ H Q := fun ⟨S, ρ, re, h⟩ => by
  refine ⟨S, ρ, re, After.bind h fun x h v S1 H1 e1 s1 r1 => ?_⟩
  obtain ⟨z, hz, q⟩ := After.liftB h
  cases x <;> simp only [toB, Option.some.injEq, reduceCtorEq] at hz
  subst hz
  cases r1
  exact ⟨_, rfl, q S1 H1 e1 s1⟩
theorem dt_val (ha : DE X G W a ma) (he : ∀ whole, isTrue a X.env whole = (do let v ← whole; standAt a.pos; holding [v] (truthy v)) := by intro _; rfl) : DT X G W a (cE ma) :=
  pt_weak (pt_val ha he) fun _ _ _ => t_test
theorem dt_cmp {op : CmpOp} {g : D → D → Option D} (ho : OpR X (compareOp op) (rD2 (G.R X.K) g)) (ha : DE X G W a ma) (hb : DE X G W b mb) (hm : behindInMarks op b = false := by first | exact nomark _ | rfl | with_unfolding_all rfl) : DT X G W (.Compare a [op] [b] pos) (cE (eOp g ma mb)) :=
  pt_weak (pt_cmpR ho ha hb hm) fun σ H Q h => t_op (Q := fun x H' => ∃ k, x = .bl k ∧ Q k H') (by
    obtain ⟨S, ρ, re, h⟩ := h
    refine ⟨S, ρ, re, After.bind h fun x h v S1 H1 e1 s1 r1 => ?_⟩
    obtain ⟨z, hz, q⟩ := After.liftB h
    cases x <;> simp only [toB, Option.some.injEq, reduceCtorEq] at hz
    subst hz
    cases r1
    exact ⟨_, rfl, q S1 H1 e1 s1⟩)
section
variable {rest : List Expr} {cA cB : MT}
theorem dt_pw (h : DW X G W a cA) : DT X G W a cA := h.pt
theorem dw_and1 (ha : DT X G W a cA) : DW X G W (.BoolOp .And [a] pos) cA := pw_and1 ha
theorem dw_or1 (ha : DT X G W a cA) : DW X G W (.BoolOp .Or [a] pos) cA := pw_or1 ha
theorem dw_and (ha : DT X G W a cA) (hb : DW X G W (.BoolOp .And (b :: rest) pos) cB) : DW X G W (.BoolOp .And (a :: b :: rest) pos) (cAnd cA cB) :=
  pw_weak (pw_and ha hb) fun σ H Q ⟨S, ρ, re, h⟩ => by
    refine ⟨S, ρ, re, After.bind h fun x h S1 H1 e1 s1 => ?_⟩
    cases x with
    | true => exact ⟨S1, ρ, re.grow e1 s1, After.ext e1 h fun _ q S2 H2 e2 s2 => q S2 H2 (e1.trans e2) s2⟩
    | false => exact h S1 H1 e1 s1
theorem dw_or (ha : DT X G W a cA) (hb : DW X G W (.BoolOp .Or (b :: rest) pos) cB) : DW X G W (.BoolOp .Or (a :: b :: rest) pos) (cOr cA cB) :=
  pw_weak (pw_or ha hb) fun σ H Q ⟨S, ρ, re, h⟩ => by
    refine ⟨S, ρ, re, After.bind h fun x h S1 H1 e1 s1 => ?_⟩
    cases x with
    | false => exact ⟨S1, ρ, re.grow e1 s1, After.ext e1 h fun _ q S2 H2 e2 s2 => q S2 H2 (e1.trans e2) s2⟩
    | true => exact h S1 H1 e1 s1
theorem dt_not (ha : DT X G W a cA) : DT X G W (.UnaryOp .Not a pos) (cNot cA) :=
  pt_weak (pt_not ha) fun σ H Q ⟨S, ρ, re, h⟩ => by
    exact ⟨S, ρ, re, After.bind h fun x h => h⟩
theorem de_if (hc : DT X G W c cA) (ha : DE X G W a ma) (hb : DE X G W b mb) : DE X G W (.IfExp c a b pos) (eIf cA ma mb) :=
  pe_weak (pe_ifExp hc ha hb) fun σ H Q ⟨S, ρ, re, h⟩ => by
    refine ⟨S, ρ, re, After.bind h fun x h S1 H1 e1 s1 => ?_⟩
    cases x with
    | true => exact ⟨S1, ρ, re.grow e1 s1, After.ext e1 h fun _ q v S2 H2 e2 s2 => q v S2 H2 (e1.trans e2) s2⟩
    | false => exact ⟨S1, ρ, re.grow e1 s1, After.ext e1 h fun _ q v S2 H2 e2 s2 => q v S2 H2 (e1.trans e2) s2⟩
theorem de_one {op} (h : DE X G W a ma) : DE X G W (.BoolOp op [a] pos) ma := pe_one h
theorem de_and (ha : DE X G W a ma) (hb : DE X G W (.BoolOp .And (b :: rest) pos) mb) : DE X G W (.BoolOp .And (a :: b :: rest) pos) (eAnd ma mb) :=
  pe_weak (pe_and ha hb) fun σ H Q ⟨S, ρ, re, h⟩ => by
    refine ⟨S, ρ, re, After.bind h fun x h v S1 H1 e1 s1 r1 => ?_⟩
    cases x <;> (try exact h.elim)
    rename_i k
    cases r1
    refine ⟨k, rfl, ?_⟩
    cases k with
    | true => exact ⟨S1, ρ, re.grow e1 s1, After.ext e1 h fun _ q v S2 H2 e2 s2 => q v S2 H2 (e1.trans e2) s2⟩
    | false => exact h _ S1 H1 e1 s1 (.bl _)
theorem de_or (ha : DE X G W a ma) (hb : DE X G W (.BoolOp .Or (b :: rest) pos) mb) : DE X G W (.BoolOp .Or (a :: b :: rest) pos) (eOr ma mb) :=
  pe_weak (pe_or ha hb) fun σ H Q ⟨S, ρ, re, h⟩ => by
    refine ⟨S, ρ, re, After.bind h fun x h v S1 H1 e1 s1 r1 => ?_⟩
    cases x <;> (try exact h.elim)
    rename_i k
    cases r1
    refine ⟨k, rfl, ?_⟩
    cases k with
    | false => exact ⟨S1, ρ, re.grow e1 s1, After.ext e1 h fun _ q v S2 H2 e2 s2 => q v S2 H2 (e1.trans e2) s2⟩
    | true => exact h _ S1 H1 e1 s1 (.bl _)
theorem de_not (ha : DE X G W a ma) : DE X G W (.UnaryOp .Not a pos) (eNot ma) :=
  pe_weak (pe_not ha) fun σ H Q ⟨S, ρ, re, h⟩ => by
    refine ⟨S, ρ, re, After.bind h fun x h v S1 H1 e1 s1 r1 => ?_⟩
    cases x <;> (try exact h.elim)
    rename_i k
    cases r1
    exact ⟨k, rfl, h _ S1 H1 e1 s1 (.bl _)⟩
end

/-! ### argument lists, displays, calls of built-ins -/
section
variable {es : List Expr} {mas : MA} {e o : Expr} {me mo : ME}
theorem da_nil : DA X G W [] aNil := pa_weak pa_nil fun σ H Q ⟨S, ρ, re, h⟩ => h [] S H (.refl _ _) re.sub .nil
theorem da_cons (ha : DE X G W e me) (hr : DA X G W es mas) (hs : starEach (e :: es) X.env = (false, eval e X.env) :: starEach es X.env := by rfl) : DA X G W (e :: es) (aCons me mas) :=
  pa_weak (pa_cons ha hr hs) fun σ H Q ⟨S, ρ, re, h⟩ => by
    refine ⟨S, ρ, re, After.bind h fun x h v S1 H1 e1 s1 r1 => ?_⟩
    refine ⟨S1, ρ, re.grow e1 s1, After.bind (After.ext e1 h fun _ q => q) fun y h w S2 H2 e2 s2 r2 => ?_⟩
    exact h (v :: w) S2 H2 (e1.trans e2) s2 (.cons (r1.mono e2.s) r2)
def oTup (xs : List D) : Option D := if xs.length ≤ sizeLine then some (.tup xs) else none
def oLst (xs : List D) : Option D := if xs.length ≤ sizeLine then some (.lst xs) else none
theorem Reps.length {R : RC} {S : Hp} : ∀ {vs : List V} {ds : List D}, Reps R S vs ds → vs.length = ds.length
  | _, _, .nil => rfl
  | _, _, .cons _ h => by simp [Reps.length h]
/-- a new tuple, a new list -/
theorem give_tup {R : RC} {S H : Hp} {vs : List V} {ds : List D} {Q : VK} (sub : Same S H) (r : Reps R S vs ds) (h : Give R S H (.tup ds) Q) : ∀ p, H p = none → Q (.ref p) (upd H p (.tup vs)) := fun p hp =>
  h (.ref p) (upd S p (.tup vs)) (upd H p (.tup vs)) (.laid sub hp) (same_upd sub) (.tup (SqT.of upd_same) (r.mono (Ext.laid sub hp).s))
theorem give_lst {R : RC} {S H : Hp} {vs : List V} {ds : List D} {Q : VK} (sub : Same S H) (r : Reps R S vs ds) (h : Give R S H (.lst ds) Q) : ∀ p, H p = none → Q (.ref p) (upd H p (.lst vs)) := fun p hp =>
  h (.ref p) (upd S p (.lst vs)) (upd H p (.lst vs)) (.laid sub hp) (same_upd sub) (.lst upd_same (r.mono (Ext.laid sub hp).s))
theorem de_tup {x1} (h : DA X G W es mas) : DE X G W (.Tuple es x1 pos) (eFn oTup mas) :=
  pe_weak (pe_tup h) fun σ H Q ⟨S, ρ, re, h⟩ => by
    refine ⟨S, ρ, re, After.bind h fun xs h vs S1 H1 e1 s1 r1 => ?_⟩
    obtain ⟨z, hz, q⟩ := After.lift h
    unfold oTup at hz
    split at hz
    · rename_i hl
      cases hz
      exact ⟨by rw [r1.length]; exact hl, give_tup s1 r1 fun u S2 H2 e2 s2 r2 => q u S2 H2 (e1.trans e2) s2 r2⟩
    · cases hz
theorem de_lst (h : DA X G W es mas) : DE X G W (.List es pos) (eFn oLst mas) :=
  pe_weak (pe_lst h) fun σ H Q ⟨S, ρ, re, h⟩ => by
    refine ⟨S, ρ, re, After.bind h fun xs h vs S1 H1 e1 s1 r1 => ?_⟩
    obtain ⟨z, hz, q⟩ := After.lift h
    unfold oLst at hz
    split at hz
    · rename_i hl
      cases hz
      exact ⟨by rw [r1.length]; exact hl, give_lst s1 r1 fun u S2 H2 e2 s2 r2 => q u S2 H2 (e1.trans e2) s2 r2⟩
    · cases hz
theorem t_fn {K : PySem.W.Frag} {g : List D → Option D} {σ : St} {H : Hp} {Q : VK} : tD K G W (eFn g mas) σ H Q → tCB (rDn (G.R K) g) (tDA K G W mas) σ H Q := fun ⟨S, ρ, re, h⟩ => by
  refine ⟨S, ρ, re, After.bind h fun xs h vs S1 H1 e1 s1 r1 => ?_⟩
  obtain ⟨z, hz, q⟩ := After.lift h
  exact ⟨S1, xs, z, s1, r1, hz, fun u S2 H2 e2 s2 r2 => q u S2 H2 (e1.trans e2) s2 r2⟩
end
end
end L2.DL
namespace L2.DL
open PySem PyProof.Rows PySem.Spec
/-! ### operations by values -/
theorem give_int {R : RC} {S H : Hp} {i : Int} {Q : VK} (sub : Same S H) (h : Give R S H (.int i) Q) : Q (.int i) H := h _ S H (.refl _ _) sub (.int _)
theorem give_bl {R : RC} {S H : Hp} {i : Bool} {Q : VK} (sub : Same S H) (h : Give R S H (.bl i) Q) : Q (.bl i) H := h _ S H (.refl _ _) sub (.bl _)
theorem give_str {R : RC} {S H : Hp} {i : Str} {Q : VK} (sub : Same S H) (h : Give R S H (.str i) Q) : Q (.str i) H := h _ S H (.refl _ _) sub (.str _)
theorem give_non {R : RC} {S H : Hp} {Q : VK} (sub : Same S H) (h : Give R S H .non Q) : Q .non H := h _ S H (.refl _ _) sub .non
theorem give_rep {R : RC} {S H : Hp} {v : V} {d : D} {Q : VK} (sub : Same S H) (r : Rep R S v d) (h : Give R S H d Q) : Q v H := h _ S H (.refl _ _) sub r

def oSub : D → D → Option D
  | .int a, .int b => some (.int (a - b))
  | _, _ => none
def oAdd : D → D → Option D
  | .int a, .int b => some (.int (a + b))
  | .str a, .str b => if a.length + b.length ≤ sizeLine then some (.str (a ++ b)) else none
  | .tup a, .tup b => if a.length + b.length ≤ sizeLine then some (.tup (a ++ b)) else none
  | .lst a, .lst b => if a.length + b.length ≤ sizeLine then some (.lst (a ++ b)) else none
  | _, _ => none
/-- repeated -/
def repD (k : Int) (xs : List D) : List D := (List.replicate k.toNat xs).flatten
instance (i j : Int) : Decidable (CMulW i j) := inferInstanceAs (Decidable (_ < _))
def oMul : D → D → Option D
  | .int a, .int b => if CMulW a b then some (.int (a * b)) else none
  | .str x, .int n => if 1 < n ∧ 0 < x.length ∧ x.length * n.toNat ≤ 1000000 then some (.str ⟨(List.replicate n.toNat x.cps).foldl (· ++ ·) #[]⟩) else none
  | .lst xs, .int n => if 0 ≤ n ∧ n < 1000000 ∧ xs.length * n.toNat ≤ 1000000 then some (.lst (repD n xs)) else none
  | _, _ => none
def oFdiv : D → D → Option D
  | .int a, .int b => if b ≠ 0 ∧ b.natAbs.log2 < 9000 then some (.int (a.fdiv b)) else none
  | _, _ => none
def oMod : D → D → Option D
  | .int a, .int b => if b ≠ 0 then some (.int (a.fmod b)) else none
  | _, _ => none
instance (i j : Int) : Decidable (CPow i j) := inferInstanceAs (Decidable (_ ∧ _ ∧ _))
def oPowD : D → D → Option D
  | .int a, .int b => if CPow a b then some (.int (a ^ b.toNat)) else none
  | _, _ => none
def oShl : D → D → Option D
  | .int a, .int b => if CPow a b then some (.int (a * 2 ^ b.toNat)) else none
  | _, _ => none
def oShr : D → D → Option D
  | .int a, .int b => if 0 ≤ b then some (.int (a / 2 ^ b.toNat)) else none
  | _, _ => none
def oBand : D → D → Option D
  | .int a, .int b => some (.int (Builtin.bitAnd a b))
  | _, _ => none
def oNeg : D → Option D
  | .int a => some (.int (-a))
  | _ => none
def intsD : List D → Option (List Int)
  | [] => some []
  | .int i :: r => (intsD r).map (i :: ·)
  | _ :: _ => none
def oLt : D → D → Option D
  | .int a, .int b => some (.bl (decide (a < b)))
  | .tup a, .tup b => (intsD a).bind fun x => (intsD b).bind fun y => some (.bl (HT.lexLt x y))
  | _, _ => none
def oLe : D → D → Option D
  | .int a, .int b => some (.bl (decide (a ≤ b)))
  | _, _ => none
def oGt : D → D → Option D
  | .int a, .int b => some (.bl (decide (b < a)))
  | _, _ => none
def oGe : D → D → Option D
  | .int a, .int b => some (.bl (decide (b ≤ a)))
  | _, _ => none
/-- is None, True, False -/
def oIs : D → D → Option D
  | x, .non => some (.bl (match x with | .non => true | _ => false))
  | .bl a, .bl b => some (.bl (decide (a = b)))
  | _, _ => none
def oIsNot : D → D → Option D
  | x, .non => some (.bl (match x with | .non => false | _ => true))
  | .bl a, .bl b => some (.bl (!decide (a = b)))
  | _, _ => none

theorem intsD_vals {R : RC} {S : Hp} : ∀ {ds : List D} {vs : List V} {ns : List Int}, Reps R S vs ds → intsD ds = some ns → vs = ns.map V.int
  | [], _, _, .nil, e => by cases e; rfl
  | d :: ds, _, _, .cons h1 h2, e => by
    cases d <;> simp only [intsD, Option.map_eq_some_iff, reduceCtorEq] at e
    obtain ⟨r, e1, e2⟩ := e
    subst e2
    cases h1
    rw [intsD_vals h2 e1]; rfl
section
variable {X : Cx} {G : GC}
theorem os_int {f : Value → Value → Sem Value} {g : D → D → Option D} {C : Int → Int → Prop} {k : Int → Int → Int} (ho : OpR X f (rI C fun i j => .int (k i j)))
    (hg : ∀ x y z, g x y = some z → ∃ i j, x = .int i ∧ y = .int j ∧ C i j ∧ z = .int (k i j)) : OpR X f (rD2 (G.R X.K) g) := OpR.weak ho fun x y H Q ⟨S, dx, dy, z, sub, rx, ry, e, q⟩ => by
  obtain ⟨i, j, rfl, rfl, c, rfl⟩ := hg _ _ _ e
  cases rx; cases ry
  exact ⟨i, j, rfl, rfl, c, give_int sub q⟩
theorem os_int0 {f : Value → Value → Sem Value} {g : D → D → Option D} {k : Int → Int → V} (ho : OpR X f (rI0 k))
    (hg : ∀ x y z, g x y = some z → ∃ i j, x = .int i ∧ y = .int j ∧ ((∃ n, k i j = .int n ∧ z = .int n) ∨ ∃ n, k i j = .bl n ∧ z = .bl n)) : OpR X f (rD2 (G.R X.K) g) := OpR.weak ho fun x y H Q ⟨S, dx, dy, z, sub, rx, ry, e, q⟩ => by
  obtain ⟨i, j, rfl, rfl, c⟩ := hg _ _ _ e
  cases rx; cases ry
  rcases c with ⟨n, e1, rfl⟩ | ⟨n, e1, rfl⟩
  · exact ⟨i, j, rfl, rfl, by rw [e1]; exact give_int sub q⟩
  · exact ⟨i, j, rfl, rfl, by rw [e1]; exact give_bl sub q⟩
theorem os_sub : OpR X (binaryOp .Sub) (rD2 (G.R X.K) oSub) := os_int0 op_sub fun x y z e => by
  cases x <;> cases y <;> simp only [oSub, Option.some.injEq, reduceCtorEq] at e
  exact ⟨_, _, rfl, rfl, .inl ⟨_, rfl, e.symm⟩⟩
theorem os_fdiv : OpR X (binaryOp .FloorDiv) (rD2 (G.R X.K) oFdiv) := os_int (C := fun _ j => j ≠ 0 ∧ j.natAbs.log2 < 9000) (k := fun i j => i.fdiv j) (opI fun _ _ _ _ _ _ _ hc q => floordiv_int hc.1 q (.inl (PyProof.noPylong_of_log2 hc.2))) fun x y z e => by
  cases x <;> cases y <;> simp only [oFdiv, Option.ite_none_right_eq_some, Option.some.injEq, reduceCtorEq] at e
  exact ⟨_, _, rfl, rfl, e.1, e.2.symm⟩
theorem os_mod : OpR X (binaryOp .Mod) (rD2 (G.R X.K) oMod) := os_int op_modN fun x y z e => by
  cases x <;> cases y <;> simp only [oMod, Option.ite_none_right_eq_some, Option.some.injEq, reduceCtorEq] at e
  exact ⟨_, _, rfl, rfl, e.1, e.2.symm⟩
theorem os_pow : OpR X (binaryOp .Pow) (rD2 (G.R X.K) oPowD) := os_int op_pow fun x y z e => by
  cases x <;> cases y <;> simp only [oPowD, Option.ite_none_right_eq_some, Option.some.injEq, reduceCtorEq] at e
  exact ⟨_, _, rfl, rfl, e.1, e.2.symm⟩
theorem os_shl : OpR X (binaryOp .LShift) (rD2 (G.R X.K) oShl) := os_int op_shl fun x y z e => by
  cases x <;> cases y <;> simp only [oShl, Option.ite_none_right_eq_some, Option.some.injEq, reduceCtorEq] at e
  exact ⟨_, _, rfl, rfl, e.1, e.2.symm⟩
theorem os_shr : OpR X (binaryOp .RShift) (rD2 (G.R X.K) oShr) := os_int op_shr fun x y z e => by
  cases x <;> cases y <;> simp only [oShr, Option.ite_none_right_eq_some, Option.some.injEq, reduceCtorEq] at e
  exact ⟨_, _, rfl, rfl, e.1, e.2.symm⟩
theorem os_band : OpR X (binaryOp .BitAnd) (rD2 (G.R X.K) oBand) := os_int0 op_and fun x y z e => by
  cases x <;> cases y <;> simp only [oBand, Option.some.injEq, reduceCtorEq] at e
  exact ⟨_, _, rfl, rfl, .inl ⟨_, rfl, e.symm⟩⟩
theorem os_neg : UnR X (unaryOp .USub) (rD1 (G.R X.K) oNeg) := UnR.weak un_neg fun x H Q ⟨S, dx, z, sub, rx, e, q⟩ => by
  cases dx <;> simp only [oNeg, Option.some.injEq, reduceCtorEq] at e
  cases rx; subst e
  exact ⟨_, rfl, give_int sub q⟩
theorem os_le : OpR X (compareOp .LtE) (rD2 (G.R X.K) oLe) := os_int0 op_le fun x y z e => by
  cases x <;> cases y <;> simp only [oLe, Option.some.injEq, reduceCtorEq] at e
  exact ⟨_, _, rfl, rfl, .inr ⟨_, rfl, e.symm⟩⟩
theorem os_gt : OpR X (compareOp .Gt) (rD2 (G.R X.K) oGt) := os_int0 op_gt fun x y z e => by
  cases x <;> cases y <;> simp only [oGt, Option.some.injEq, reduceCtorEq] at e
  exact ⟨_, _, rfl, rfl, .inr ⟨_, rfl, e.symm⟩⟩
theorem os_ge : OpR X (compareOp .GtE) (rD2 (G.R X.K) oGe) := os_int0 op_ge fun x y z e => by
  cases x <;> cases y <;> simp only [oGe, Option.some.injEq, reduceCtorEq] at e
  exact ⟨_, _, rfl, rfl, .inr ⟨_, rfl, e.symm⟩⟩
theorem os_lt (hu : X.A.units < cLine) : OpR X (compareOp .Lt) (rD2 (G.R X.K) oLt) := OpR.weak (op_lt.or (op_ltT hu)) fun x y H Q ⟨S, dx, dy, z, sub, rx, ry, e, q⟩ => by
  cases dx <;> cases dy <;> simp only [oLt, Option.some.injEq, Option.bind_eq_some_iff, reduceCtorEq] at e
  · cases rx; cases ry; subst e
    exact .inl ⟨_, _, rfl, rfl, give_bl sub q⟩
  · obtain ⟨xs, e1, ys, e2, rfl⟩ := e
    cases rx with
    | tup s1 r1 =>
      cases ry with
      | tup s2 r2 =>
        have h1 := intsD_vals r1 e1
        have h2 := intsD_vals r2 e2
        subst h1; subst h2
        exact .inr ⟨_, _, xs, ys, rfl, rfl, same_sqT sub s1, same_sqT sub s2, give_bl sub q⟩
theorem Reps.append {R : RC} {S : Hp} : ∀ {vs ws : List V} {ds es : List D}, Reps R S vs ds → Reps R S ws es → Reps R S (vs ++ ws) (ds ++ es)
  | _, _, _, _, .nil, h => h
  | _, _, _, _, .cons h1 h2, h => .cons h1 (Reps.append h2 h)
theorem Reps.nil_iff {R : RC} {S : Hp} {vs : List V} {ds : List D} (h : Reps R S vs ds) : vs = [] ↔ ds = [] := by
  cases h <;> simp
theorem os_add : OpR X (binaryOp .Add) (rD2 (G.R X.K) oAdd) := OpR.weak ((op_add.or op_add_str).or (op_catA.or op_cat)) fun x y H Q ⟨S, dx, dy, z, sub, rx, ry, e, q⟩ => by
  cases dx <;> cases dy <;> simp only [oAdd, Option.some.injEq, Option.ite_none_right_eq_some, reduceCtorEq] at e
  · cases rx; cases ry; subst e
    exact .inl (.inl ⟨_, _, rfl, rfl, give_int sub q⟩)
  · obtain ⟨hl, rfl⟩ := e
    cases rx; cases ry
    exact .inl (.inr ⟨_, _, rfl, rfl, hl, give_str sub q⟩)
  · obtain ⟨hl, rfl⟩ := e
    cases rx with
    | lst s1 r1 =>
      cases ry with
      | lst s2 r2 => exact .inr (.inr ⟨_, _, _, _, rfl, rfl, sub _ _ s1, sub _ _ s2, by rw [r1.length, r2.length]; exact hl, give_lst sub (r1.append r2) q⟩)
  · obtain ⟨hl, rfl⟩ := e
    cases rx with
    | tup s1 r1 =>
      cases ry with
      | tup s2 r2 =>
        refine .inr (.inl ⟨_, _, _, _, rfl, rfl, same_sqT sub s1, same_sqT sub s2, by rw [r1.length, r2.length]; exact hl, fun e => ?_, fun e1 e2 => ?_, fun _ _ => give_tup sub (r1.append r2) q⟩)
        · have e' := r1.nil_iff.mp e
          subst e'
          exact give_rep sub (.tup s2 r2) (by simpa using q)
        · have e' := r2.nil_iff.mp e2
          subst e'
          exact give_rep sub (.tup s1 r1) (by simpa using q)
theorem Reps.rep {R : RC} {S : Hp} {vs : List V} {ds : List D} (h : Reps R S vs ds) : ∀ n : Nat, Reps R S (List.replicate n vs).flatten (List.replicate n ds).flatten
  | 0 => .nil
  | n + 1 => by
    (rw [List.replicate_succ, List.replicate_succ, List.flatten_cons, List.flatten_cons])
    exact h.append (Reps.rep h n)
theorem op_mul_str : OpR X (binaryOp .Mult) (fun x y H Q => ∃ z n, x = .str z ∧ y = .int n ∧ 1 < n ∧ 0 < z.length ∧ z.length * n.toNat ≤ 1000000 ∧ Q (.str ⟨(List.replicate n.toNat z.cps).foldl (· ++ ·) #[]⟩) H) := by
  intro pins s σ H x y v u Q I rx ry ⟨z, n, e1, e2, h1, h2, h3, q⟩
  subst e1; subst e2
  obtain ⟨t, rfl⟩ := rx
  obtain ⟨t', rfl⟩ := ry
  have hn : n < 1000001 := by
    have h4 : n.toNat ≤ z.length * n.toNat := Nat.le_mul_of_pos_left _ h2
    omega
  have h0 : (n == 1 || z.length == 0) = false := by
    have a : (n == 1) = false := beq_eq_false_iff_ne.mpr (by omega)
    have b : (z.length == 0) = false := beq_eq_false_iff_ne.mpr (by omega)
    rw [a, b]; rfl
  refine SB.mul ⟨?_, ?_, ?_⟩ fun t' k => ⟨.str _, H, I.tok _, ⟨t', ?_⟩, q⟩
  · have a : decide (n < -(2 ^ 63 : Int)) = false := decide_eq_false (by omega)
    have b : decide (n ≥ 2 ^ 63) = false := decide_eq_false (by omega)
    rw [a, b]; rfl
  · intro _ _
    have h5 : z.length ≤ 1000000 := Nat.le_trans (Nat.le_mul_of_pos_right _ (by omega)) h3
    have h6 : (1000001 : Int) ≤ (2 ^ 63 - 1) / n := by
      rw [Int.le_ediv_iff_mul_le (by omega)]
      omega
    omega
  · intro _ _
    have : sizeLine = 16777216 := sizeLine_eq
    unfold Builtin.Str.tooLong
    (simp only [decide_eq_false_iff_not])
    omega
  · unfold Txt.mul
    rw [if_neg (by omega), if_neg (by rw [h0]; decide)]
theorem os_mul : OpR X (binaryOp .Mult) (rD2 (G.R X.K) oMul) := OpR.weak (op_mulW.or (op_mul_str.or op_rep)) fun x y H Q ⟨S, dx, dy, z, sub, rx, ry, e, q⟩ => by
  cases dx <;> cases dy <;> simp only [oMul, Option.some.injEq, Option.ite_none_right_eq_some, reduceCtorEq] at e
  · obtain ⟨c, rfl⟩ := e
    cases rx; cases ry
    exact .inl ⟨_, _, rfl, rfl, c, give_int sub q⟩
  · obtain ⟨⟨c1, c2, c3⟩, rfl⟩ := e
    cases rx; cases ry
    exact .inr (.inl ⟨_, _, rfl, rfl, c1, c2, c3, give_str sub q⟩)
  · obtain ⟨⟨c1, c2, c3⟩, rfl⟩ := e
    cases ry
    cases rx with
    | lst s1 r1 =>
      have : sizeLine = 16777216 := sizeLine_eq
      refine .inr (.inr ⟨_, _, _, rfl, rfl, sub _ _ s1, by omega, by omega, by rw [r1.length]; omega, give_lst sub (r1.rep _) q⟩)
theorem os_is : OpR X (compareOp .Is) (rD2 (G.R X.K) oIs) := OpR.weak (op_isN.or op_isBl) fun x y H Q ⟨S, dx, dy, z, sub, rx, ry, e, q⟩ => by
  cases dy <;> simp only [oIs, Option.some.injEq, reduceCtorEq] at e
  · subst e
    cases ry
    refine .inl ⟨rfl, ?_⟩
    cases rx <;> exact give_bl sub q
  · cases dx <;> simp only [Option.some.injEq, reduceCtorEq] at e
    subst e
    cases rx; cases ry
    exact .inr ⟨_, _, rfl, rfl, give_bl sub q⟩
theorem os_isnot : OpR X (compareOp .IsNot) (rD2 (G.R X.K) oIsNot) := OpR.weak (op_notN.or op_notBl) fun x y H Q ⟨S, dx, dy, z, sub, rx, ry, e, q⟩ => by
  cases dy <;> simp only [oIsNot, Option.some.injEq, reduceCtorEq] at e
  · subst e
    cases ry
    refine .inl ⟨rfl, ?_⟩
    cases rx <;> exact give_bl sub q
  · cases dx <;> simp only [Option.some.injEq, reduceCtorEq] at e
    subst e
    cases rx; cases ry
    exact .inr ⟨_, _, rfl, rfl, give_bl sub q⟩
end
end L2.DL
namespace L2.DL
open PySem PyProof.Rows PySem.Spec
/-! ### == , in -/
def D.dep : Nat → D → Bool
  | _, .non => true
  | _, .bl _ => true
  | _, .int _ => true
  | _, .str _ => true
  | n + 1, .lst xs => xs.all (D.dep n)
  | n + 1, .ro xs => xs.all (D.dep n)
  | n + 1, .tup xs => xs.all (D.dep n)
  | _, _ => false
def D.py : Nat → D → PyData
  | _, .non => .none
  | _, .bl b => .bool b
  | _, .int i => .int i
  | _, .str x => .str x
  | n + 1, .lst xs => .list (xs.map (D.py n))
  | n + 1, .ro xs => .list (xs.map (D.py n))
  | n + 1, .tup xs => .tuple (xs.map (D.py n))
  | _, _ => .none
theorem plainAll_map {α : Type} (f : α → PyData) : ∀ xs : List α, (∀ x ∈ xs, (f x).plain = true) → PyData.plainAll (xs.map f) = true
  | [], _ => rfl
  | x :: xs, h => by
    simp only [List.map_cons, PyData.plainAll, Bool.and_eq_true]
    exact ⟨h x (by simp), plainAll_map f xs fun y hy => h y (by simp [hy])⟩
theorem depthAll_map {α : Type} (f : α → PyData) (n : Nat) : ∀ xs : List α, (∀ x ∈ xs, (f x).depth ≤ n) → PyData.depthAll (xs.map f) ≤ n
  | [], _ => by simp [PyData.depthAll]
  | x :: xs, h => by
    (simp only [List.map_cons, PyData.depthAll])
    have h1 := h x (by simp)
    have h2 := depthAll_map f n xs fun y hy => h y (by simp [hy])
    omega
theorem D.py_plain : ∀ (n : Nat) (d : D), d.dep n = true → (d.py n).plain = true ∧ (d.py n).depth ≤ n
  | n, .non, _ => by cases n <;> exact ⟨rfl, Nat.zero_le _⟩
  | n, .bl _, _ => by cases n <;> exact ⟨rfl, Nat.zero_le _⟩
  | n, .int _, _ => by cases n <;> exact ⟨rfl, Nat.zero_le _⟩
  | n, .str _, _ => by cases n <;> exact ⟨rfl, Nat.zero_le _⟩
  | n + 1, .lst xs, h => by
    have h' : ∀ x ∈ xs, x.dep n = true := List.all_eq_true.mp h
    refine ⟨plainAll_map _ _ fun x hx => (D.py_plain n x (h' x hx)).1, ?_⟩
    have := depthAll_map (D.py n) n xs fun x hx => (D.py_plain n x (h' x hx)).2
    simp only [D.py, PyData.depth]; omega
  | n + 1, .ro xs, h => by
    have h' : ∀ x ∈ xs, x.dep n = true := List.all_eq_true.mp h
    refine ⟨plainAll_map _ _ fun x hx => (D.py_plain n x (h' x hx)).1, ?_⟩
    have := depthAll_map (D.py n) n xs fun x hx => (D.py_plain n x (h' x hx)).2
    simp only [D.py, PyData.depth]; omega
  | n + 1, .tup xs, h => by
    have h' : ∀ x ∈ xs, x.dep n = true := List.all_eq_true.mp h
    refine ⟨plainAll_map _ _ fun x hx => (D.py_plain n x (h' x hx)).1, ?_⟩
    have := depthAll_map (D.py n) n xs fun x hx => (D.py_plain n x (h' x hx)).2
    simp only [D.py, PyData.depth]; omega
  | 0, .lst _, h => by cases h
  | 0, .ro _, h => by cases h
  | 0, .tup _, h => by cases h
  | 0, .dct _, h => by cases h
  | 0, .obj _ _, h => by cases h
  | _ + 1, .dct _, h => by cases h
  | _ + 1, .obj _ _, h => by cases h
theorem dpAll_map {R : RC} {H : Hp} {n : Nat} (ih : ∀ (d : D) (v : V), d.dep n = true → Rep R H v d → Dp R.K H v (d.py n)) : ∀ {vs : List V} {ds : List D}, (∀ x ∈ ds, x.dep n = true) → Reps R H vs ds → DpAll R.K H vs (ds.map (D.py n))
  | _, _, _, .nil => .nil
  | _, _, h, .cons h1 h2 => .cons (ih _ _ (h _ (by simp)) h1) (dpAll_map ih (fun x hx => h x (by simp [hx])) h2)
theorem Rep.dp {R : RC} {H : Hp} : ∀ (n : Nat) (d : D) (v : V), d.dep n = true → Rep R H v d → Dp R.K H v (d.py n)
  | n, .non, _, _, r => by cases r; cases n <;> exact .non
  | n, .bl _, _, _, r => by cases r; cases n <;> exact .bl _
  | n, .int _, _, _, r => by cases r; cases n <;> exact .int _
  | n, .str _, _, _, r => by cases r; cases n <;> exact .str _
  | n + 1, .lst xs, _, h, r => by
    cases r with
    | lst s1 r1 => exact .lst (SqL.of s1) (dpAll_map (fun d v => Rep.dp n d v) (List.all_eq_true.mp h) r1)
  | n + 1, .ro xs, _, h, r => by
    cases r with
    | ro s1 r1 => exact .lst s1 (dpAll_map (fun d v => Rep.dp n d v) (List.all_eq_true.mp h) r1)
  | n + 1, .tup xs, _, h, r => by
    cases r with
    | tup s1 r1 => exact .tup s1 (dpAll_map (fun d v => Rep.dp n d v) (List.all_eq_true.mp h) r1)
  | 0, .lst _, _, h, _ => by cases h
  | 0, .ro _, _, h, _ => by cases h
  | 0, .tup _, _, h, _ => by cases h
  | 0, .dct _, _, h, _ => by cases h
  | 0, .obj _ _, _, h, _ => by cases h
  | _ + 1, .dct _, _, h, _ => by cases h
  | _ + 1, .obj _ _, _, h, _ => by cases h
def eqD (x y : D) : Bool := PyData.eqv (x.py 30) (y.py 30)
def oEq (x y : D) : Option D := if x.dep 30 = true ∧ y.dep 30 = true then some (.bl (eqD x y)) else none
def oNe (x y : D) : Option D := if x.dep 30 = true ∧ y.dep 30 = true then some (.bl (!eqD x y)) else none
/-- the items of a list, a tuple -/
def seqD : D → Option (List D)
  | .lst xs => some xs
  | .ro xs => some xs
  | .tup xs => some xs
  | _ => none
def keyD : D → Option Key
  | .int i => some (.inl i)
  | .str x => some (.inr x)
  | _ => none
def lookK (kvs : List (Key × D)) (k : Key) : Option D := match kvs with
  | [] => none
  | (k', v) :: r => if k' = k then some v else lookK r k
def inB (x y : D) : Option Bool := match x, y with
  | .str a, .str b => match a.cps.toList with
    | [c] => some (decide (c ∈ b.cps.toList))
    | _ => none
  | x, .lst ys => if x.dep 30 = true ∧ ys.all (D.dep 29) = true then some (ys.any fun y => eqD y x) else none
  | x, .tup ys => if x.dep 30 = true ∧ ys.all (D.dep 29) = true then some (ys.any fun y => eqD y x) else none
  | _, _ => none
def oIn (x y : D) : Option D := (inB x y).map .bl
def oNotIn (x y : D) : Option D := (inB x y).map fun b => .bl (!b)
theorem D.dep_mono : ∀ (n m : Nat) (d : D), n ≤ m → d.dep n = true → d.dep m = true ∧ d.py m = d.py n := by
  intro n
  induction n with
  | zero =>
    intro m d _ h
    cases d with
    | non => cases m <;> exact ⟨rfl, rfl⟩
    | bl _ => cases m <;> exact ⟨rfl, rfl⟩
    | int _ => cases m <;> exact ⟨rfl, rfl⟩
    | str _ => cases m <;> exact ⟨rfl, rfl⟩
    | lst _ => cases h
    | ro _ => cases h
    | tup _ => cases h
    | dct _ => cases h
    | obj _ _ => cases h
  | succ n ih =>
    intro m d hm h
    obtain ⟨k, rfl⟩ : ∃ k, m = k + 1 := ⟨m - 1, by omega⟩
    have hk : n ≤ k := by omega
    have all : ∀ xs : List D, xs.all (D.dep n) = true → xs.all (D.dep k) = true ∧ xs.map (D.py k) = xs.map (D.py n) := fun xs hx => by
      have hx' := List.all_eq_true.mp hx
      exact ⟨List.all_eq_true.mpr fun x e => (ih k x hk (hx' x e)).1, List.map_congr_left fun x e => (ih k x hk (hx' x e)).2⟩
    cases d with
    | non => exact ⟨rfl, rfl⟩
    | bl _ => exact ⟨rfl, rfl⟩
    | int _ => exact ⟨rfl, rfl⟩
    | str _ => exact ⟨rfl, rfl⟩
    | lst xs => exact ⟨(all xs h).1, congrArg PyData.list (all xs h).2⟩
    | ro xs => exact ⟨(all xs h).1, congrArg PyData.list (all xs h).2⟩
    | tup xs => exact ⟨(all xs h).1, congrArg PyData.tuple (all xs h).2⟩
    | dct _ => cases h
    | obj _ _ => cases h
section
variable {X : Cx} {G : GC}
theorem os_eq (hu : X.A.units + 64 < cLine) : OpR X (compareOp .Eq) (rD2 (G.R X.K) oEq) := by
  intro pins s σ H x y v u Q I rx ry ⟨S, dx, dy, z, sub, r1, r2, e, q⟩
  unfold oEq at e
  split at e
  · rename_i hd
    cases e
    have d1 := Rep.dp 30 dx x hd.1 (r1.mono sub)
    have d2 := Rep.dp 30 dy y hd.2 (r2.mono sub)
    obtain ⟨as, ra⟩ := Dp.reads I _ x v d1 rx
    obtain ⟨bs, rb⟩ := Dp.reads I _ y u d2 ry
    have p1 := D.py_plain 30 dx hd.1
    have p2 := D.py_plain 30 dy hd.2
    exact SeqAt.eq_plain ra rb p1.1 p2.1 (by omega) ⟨.bl _, H, I, rfl, give_bl sub q⟩
  · cases e
theorem os_ne (hu : X.A.units + 64 < cLine) : OpR X (compareOp .NotEq) (rD2 (G.R X.K) oNe) := by
  intro pins s σ H x y v u Q I rx ry ⟨S, dx, dy, z, sub, r1, r2, e, q⟩
  unfold oNe at e
  split at e
  · rename_i hd
    cases e
    have d1 := Rep.dp 30 dx x hd.1 (r1.mono sub)
    have d2 := Rep.dp 30 dy y hd.2 (r2.mono sub)
    obtain ⟨as, ra⟩ := Dp.reads I _ x v d1 rx
    obtain ⟨bs, rb⟩ := Dp.reads I _ y u d2 ry
    have p1 := D.py_plain 30 dx hd.1
    have p2 := D.py_plain 30 dy hd.2
    exact SeqAt.ne_plain ra rb p1.1 p2.1 (by omega) ⟨.bl _, H, I, rfl, give_bl sub q⟩
  · cases e
theorem all29 {ys : List D} (h : ys.all (D.dep 29) = true) : (ys.any fun y => eqD y x) = ((ys.map (D.py 29)).any fun p => PyData.eqv p (D.py 30 x)) := by
  rw [List.any_map]
  have h' := List.all_eq_true.mp h
  (rw [Bool.eq_iff_iff, List.any_eq_true, List.any_eq_true])
  constructor
  · rintro ⟨y, hy, e⟩
    exact ⟨y, hy, by rw [Function.comp_apply, ← (D.dep_mono 29 30 y (by omega) (h' y hy)).2]; exact e⟩
  · rintro ⟨y, hy, e⟩
    exact ⟨y, hy, by rw [Function.comp_apply, ← (D.dep_mono 29 30 y (by omega) (h' y hy)).2] at e; exact e⟩
theorem inB_run (hu : X.A.units + 64 < cLine) {neg : Bool} {op : CmpOp} (hop : op = if neg then .NotIn else .In) : OpR X (compareOp op) (rD2 (G.R X.K) fun x y => (inB x y).map fun b => .bl (if neg then !b else b)) := by
  intro pins s σ H x y v u Q I rx ry ⟨S, dx, dy, z, sub, r1, r2, e, q⟩
  obtain ⟨b, hb, e⟩ := Option.map_eq_some_iff.mp e
  subst e
  have seq : ∀ (ys : List D), (dy = .lst ys ∨ dy = .tup ys) → dx.dep 30 = true → ys.all (D.dep 29) = true → b = (ys.any fun y => eqD y dx) → wpAny (model X.prog X.w) X.A (compareOp op v u) (EP X pins σ Q) X.xe s := fun ys hy h1 h2 eb => by
    rw [all29 h2] at eb
    have d1 := Rep.dp 30 dx x h1 (r1.mono sub)
    obtain ⟨as, ra⟩ := Dp.reads I _ x v d1 rx
    have p1 := D.py_plain 30 dx h1
    have pa : PyData.plainAll (ys.map (D.py 29)) = true := plainAll_map _ _ fun y hy => (D.py_plain 29 y (List.all_eq_true.mp h2 y hy)).1
    have fin : EP X pins σ Q (.bool (if neg then !b else b)) s := ⟨.bl _, H, I, rfl, give_bl sub q⟩
    subst hop
    rcases hy with hy | hy
    · have d2 := Rep.dp 30 dy y (by rw [hy]; exact h2) (r2.mono sub)
      rw [hy] at d2
      obtain ⟨bs, rb⟩ := Dp.reads I _ y u d2 ry
      cases neg with
      | false => exact SeqAt.in_list_data rb ra pa p1.1 (by omega) (by rw [← eb]; exact fin)
      | true => exact SeqAt.notIn_list_data rb ra pa p1.1 (by omega) (by rw [← eb]; exact fin)
    · have d2 := Rep.dp 30 dy y (by rw [hy]; exact h2) (r2.mono sub)
      rw [hy] at d2
      obtain ⟨bs, rb⟩ := Dp.reads I _ y u d2 ry
      cases neg with
      | false => exact SeqAt.in_tuple_data rb ra pa p1.1 (by omega) (by rw [← eb]; exact fin)
      | true => exact SeqAt.notIn_tuple_data rb ra pa p1.1 (by omega) (by rw [← eb]; exact fin)
  have sg : ∀ a b' : Str, dx = .str a → dy = .str b' → wpAny (model X.prog X.w) X.A (compareOp op v u) (EP X pins σ Q) X.xe s := fun a b' ea eb => by
    subst ea; subst eb
    simp only [inB] at hb
    cases r1; cases r2
    split at hb
    · rename_i c hc
      cases hb
      have ha : a = ⟨#[c]⟩ := TL.ext_tl (by show a.cps.toList = _; rw [hc])
      subst ha
      subst hop
      cases neg with
      | false => exact op_in_sign pins s σ H _ _ v u Q I rx ry ⟨c, b', rfl, rfl, give_bl sub q⟩
      | true => exact op_notIn_sign pins s σ H _ _ v u Q I rx ry ⟨c, b', rfl, rfl, give_bl sub q⟩
    · cases hb
  cases dy with
  | lst ys =>
    have hb' : (if dx.dep 30 = true ∧ ys.all (D.dep 29) = true then some (ys.any fun y => eqD y dx) else none) = some b := by cases dx <;> exact hb
    split at hb'
    · rename_i h; cases hb'; exact seq ys (.inl rfl) h.1 h.2 rfl
    · cases hb'
  | tup ys =>
    have hb' : (if dx.dep 30 = true ∧ ys.all (D.dep 29) = true then some (ys.any fun y => eqD y dx) else none) = some b := by cases dx <;> exact hb
    split at hb'
    · rename_i h; cases hb'; exact seq ys (.inr rfl) h.1 h.2 rfl
    · cases hb'
  | str b' =>
    cases dx with
    | str a => exact sg a b' rfl rfl
    | _ => cases hb
  | _ => cases dx <;> cases hb
theorem os_in (hu : X.A.units + 64 < cLine) : OpR X (compareOp .In) (rD2 (G.R X.K) oIn) := inB_run hu (neg := false) rfl
theorem os_notin (hu : X.A.units + 64 < cLine) : OpR X (compareOp .NotIn) (rD2 (G.R X.K) oNotIn) := inB_run hu (neg := true) rfl
end
end L2.DL
namespace L2.DL
open PySem PyProof.Rows PySem.Spec

/-! ### statements: combinators -/
def sNx : MS := fun ρ => .ok (.nx ρ)
def sBk : MS := fun ρ => .ok (.bk ρ)
def sCt : MS := fun ρ => .ok (.ct ρ)
def sNever : MS := fun _ => .stuck
def sSeq (a b : MS) : MS := fun ρ => (a ρ).bind fun o => match o with
  | .nx ρ' => b ρ'
  | o => .ok o
def sIf (c : MT) (a b : MS) : MS := fun ρ => (c ρ).bind fun x => if x = true then a ρ else b ρ
def sRet (e : ME) : MS := fun ρ => (e ρ).bind fun d => .ok (.rt d)
def sRetN : MS := fun _ => .ok (.rt .non)
def sEx (e : ME) : MS := fun ρ => (e ρ).bind fun _ => .ok (.nx ρ)
/-- targets -/
abbrev MG := D → List Sl → Option (List Sl)
abbrev MGs := List D → List Sl → Option (List Sl)
def gN (i : Nat) : MG := fun d ρ => some (ρ.set i (.d d))
def gsNil : MGs := fun ds ρ => match ds with
  | [] => some ρ
  | _ => none
def gsCons (g : MG) (gs : MGs) : MGs := fun ds ρ => match ds with
  | d :: r => (g d ρ).bind fun ρ1 => gs r ρ1
  | [] => none
def gT (n : Nat) (gs : MGs) : MG := fun d ρ => match d with
  | .tup xs => if xs.length = n then gs xs ρ else none
  | _ => none
def sAsg (e : ME) (g : MG) : MS := fun ρ => (e ρ).bind fun d => (lift (g d ρ)).bind fun ρ' => .ok (.nx ρ')
/-- sources -/
abbrev MI := List Sl → Res (List D)
def forL (g : MG) (body : MS) : List D → MS
  | [], ρ => .ok (.nx ρ)
  | d :: ds, ρ => (lift (g d ρ)).bind fun ρ1 => (body ρ1).bind fun o => match o with
    | .nx ρ2 => forL g body ds ρ2
    | .ct ρ2 => forL g body ds ρ2
    | .bk ρ2 => .ok (.nx ρ2)
    | .rt d => .ok (.rt d)
def sFor (src : MI) (g : MG) (body : MS) : MS := fun ρ => (src ρ).bind fun ds => forL g body ds ρ
def whileL (c : MT) (body : MS) : Nat → MS
  | 0, _ => .stuck
  | n + 1, ρ => (c ρ).bind fun b => if b = true then (body ρ).bind fun o => (match o with
    | .nx ρ2 => whileL c body n ρ2
    | .ct ρ2 => whileL c body n ρ2
    | .bk ρ2 => .ok (.nx ρ2)
    | .rt d => .ok (.rt d)) else .ok (.nx ρ)
def sWhile (fuel : List Sl → Nat) (c : MT) (body : MS) : MS := fun ρ => whileL c body (fuel ρ) ρ
/-- a list display given to a name that is to grow -/
def sNewL (i : Nat) (as : MA) : MS := fun ρ => (as ρ).bind fun xs => if i < ρ.length ∧ xs.length ≤ sizeLine then .ok (.nx (ρ.set i (.bl xs))) else .stuck
def sFrz (i : Nat) (m : MS) : MS := fun ρ => match ρ[i]? with
  | some (.bl xs) => m (ρ.set i (.d (.lst xs)))
  | some (.bd xs) => m (ρ.set i (.d (.dct xs)))
  | some (.bo c fs) => m (ρ.set i (.d (.obj c fs)))
  | _ => m ρ
def sApp (i : Nat) (e : ME) : MS := fun ρ => match ρ[i]? with
  | some (.bl xs) => (e ρ).bind fun x => if xs.length < sizeLine then .ok (.nx (ρ.set i (.bl (xs ++ [x])))) else .stuck
  | _ => .stuck
def setD (xs : List D) (k x : D) : Option (List D) := match k with
  | .int k => (ixN xs.length k).map fun j => xs.set j x
  | _ => none
def sSetI (i : Nat) (ie e : ME) : MS := fun ρ => match ρ[i]? with
  | some (.bl xs) => (e ρ).bind fun x => (ie ρ).bind fun k => (lift (setD xs k x)).bind fun ys => .ok (.nx (ρ.set i (.bl ys)))
  | _ => .stuck
/-- a list comprehension -/
def wipeD (ρ : List Sl) : List Nat → List Sl
  | [] => ρ
  | v :: vs => (wipeD ρ vs).set v .no
/-- nothing may be raised here -/
def nox {α : Type} : Res α → Res α
  | .ok a => .ok a
  | _ => .stuck
def compL (g : MG) (tt : MT) (te : ME) (ρ : List Sl) : List D → Res (List D)
  | [] => .ok []
  | d :: ds => (lift (g d ρ)).bind fun ρ1 => (nox (tt ρ1)).bind fun b => if b = true then (nox (te ρ1)).bind fun x => (compL g tt te ρ ds).bind fun r => .ok (x :: r) else compL g tt te ρ ds
def eLc (src : MI) (vs : List Nat) (g : MG) (tt : MT) (te : ME) : ME := fun ρ => (src ρ).bind fun ds => if ds.length ≤ sizeLine then (compL g tt te (wipeD ρ vs) ds).bind fun r => .ok (.lst r) else .stuck
def cYes : MT := fun _ => .ok true
/-- ranges -/
def rangeD (lo : Int) (n : Nat) : List D := (List.range n).map fun k => .int (lo + (k : Nat))
theorem p62 {j : Int} (h : j.natAbs < 4611686018427387904) : -(2 ^ 62) ≤ j ∧ j < 2 ^ 62 := by
  have e : (2 : Int) ^ 62 = 4611686018427387904 := by decide
  rw [e]
  omega
def iR1 (as : MA) : MI := fun ρ => (as ρ).bind fun xs => match xs with
  | [.int j] => if j.natAbs < 4611686018427387904 then .ok (rangeD 0 j.toNat) else .stuck
  | _ => .stuck
def iR2 (as : MA) : MI := fun ρ => (as ρ).bind fun xs => match xs with
  | [.int i, .int j] => if i.natAbs < 4611686018427387904 ∧ j.natAbs < 4611686018427387904 then .ok (rangeD i (j - i).toNat) else .stuck
  | _ => .stuck
def iTp (e : ME) : MI := fun ρ => (e ρ).bind fun d => match d with
  | .tup xs => .ok xs
  | _ => .stuck
def iLs (e : ME) : MI := fun ρ => (e ρ).bind fun d => match d with
  | .lst xs => .ok xs
  | .ro xs => .ok xs
  | _ => .stuck
def signsD (x : Str) : List D := x.cps.toList.map fun c => .str ⟨#[c]⟩
def iSt (e : ME) : MI := fun ρ => (e ρ).bind fun d => match d with
  | .str x => .ok (signsD x)
  | _ => .stuck

/-! ### what an iterator walks -/
structure Walks (R : RC) (J : It) (S : Hp) (ds : List D) : Prop where
  go : ∀ (i : Nat) S1 H, i < ds.length → Same S S1 → Same S1 H → J.go i H
  yld : ∀ (i : Nat) S1 H x H', i < ds.length → Same S S1 → Same S1 H → J.yld i H x H' → ∃ S2 d, Ext S1 H S2 H' ∧ Same S2 H' ∧ ds[i]? = some d ∧ Rep R S2 x d
  stop : ∀ S1 H, Same S S1 → Same S1 H → J.stop ds.length H
def tDI (K : PySem.W.Frag) (G : GC) (W : WX) (m : MI) : TI := fun σ H Rr => ∃ S ρ, RE K G S H σ ρ ∧
  After K G W S H σ (m ρ) fun ds => ∀ J S' H', Ext S H S' H' → Same S' H' → Walks (G.R K) J S' ds → Rr J H'
def tDG (K : PySem.W.Frag) (G : GC) (vs : List Nat) (g : MG) : TG := fun v σ H Q => ∃ S ρ x ρ', RE K G S H σ ρ ∧ Rep (G.R K) S v x ∧ g x ρ = some ρ' ∧ ∀ σ', RE K G S H σ' ρ' → wipe σ' vs = wipe σ vs → Q σ' H
def tDGs (K : PySem.W.Frag) (G : GC) (vs : List Nat) (g : MGs) : TGs := fun us σ H Q => ∃ S ρ xs ρ', RE K G S H σ ρ ∧ Reps (G.R K) S us xs ∧ g xs ρ = some ρ' ∧ ∀ σ', RE K G S H σ' ρ' → wipe σ' vs = wipe σ vs → Q σ' H
abbrev DI (X : Cx) (G : GC) (W : WX) (tg e : Expr) (m : MI) : Prop := PI X tg e (tDI X.K G W m)
abbrev DG (X : Cx) (G : GC) (vs : List Nat) (e : Expr) (m : MG) : Prop := PG X e (tDG X.K G vs m)
abbrev DGs (X : Cx) (G : GC) (vs : List Nat) (e : List Expr) (m : MGs) : Prop := PGs X e (tDGs X.K G vs m)
theorem pi_weak {X : Cx} {tg e : Expr} {t t' : TI} (h : PI X tg e t) (i : ∀ σ H Q, t' σ H Q → t σ H Q) : PI X tg e t' := ⟨fun pins s σ H Q I q => h.run pins s σ H Q I (i σ H Q q)⟩
theorem pg_weak {X : Cx} {e : Expr} {t t' : TG} (h : PG X e t) (i : ∀ v σ H Q, t' v σ H Q → t v σ H Q) : PG X e t' := ⟨fun pins s σ H v u Q I r q => h.run pins s σ H v u Q I r (i v σ H Q q)⟩
theorem pgs_weak {X : Cx} {e : List Expr} {t t' : TGs} (h : PGs X e t) (i : ∀ v σ H Q, t' v σ H Q → t v σ H Q) : PGs X e t' := ⟨fun pins s σ H v u Q I r q => h.run pins s σ H v u Q I r (i v σ H Q q)⟩
theorem wipe_get {σ : St} {i : Nat} : ∀ {vs : List Nat}, i ∉ vs → (wipe σ vs)[i]? = σ[i]?
  | [], _ => rfl
  | v :: vs, h => by
    unfold wipe
    rw [List.getElem?_set_ne (fun e => h (by simp [e])), wipe_get fun z => h (by simp [z])]
theorem wipe_set {σ : St} {i : Nat} {x : Option V} {vs : List Nat} (h : i ∈ vs) : wipe (σ.set i x) vs = wipe σ vs := by
  induction vs with
  | nil => cases h
  | cons v vs ih =>
    unfold wipe
    by_cases hv : i ∈ vs
    · rw [ih hv]
    · have e : i = v := by
        (rcases List.mem_cons.mp h with e | e)
        · exact e
        · exact absurd e hv
      subst e
      apply List.ext_getElem?
      intro j
      by_cases hj : i = j
      · subst hj
        by_cases hl : i < σ.length
        · rw [List.getElem?_set_self (by rw [wipe_length, List.length_set]; exact hl), List.getElem?_set_self (by rw [wipe_length]; exact hl)]
        · rw [List.getElem?_eq_none_iff.mpr (by rw [List.length_set, wipe_length, List.length_set]; omega), List.getElem?_eq_none_iff.mpr (by rw [List.length_set, wipe_length]; omega)]
      · rw [List.getElem?_set_ne hj, List.getElem?_set_ne hj]
        have ne2 : ∀ (ws : List Nat), (wipe (σ.set i x) ws)[j]? = (wipe σ ws)[j]? := by
          intro ws
          induction ws with
          | nil => exact List.getElem?_set_ne hj
          | cons w ws ihw =>
            unfold wipe
            by_cases hw : w = j
            · subst hw
              by_cases hl : w < σ.length
              · rw [List.getElem?_set_self (by rw [wipe_length, List.length_set]; exact hl), List.getElem?_set_self (by rw [wipe_length]; exact hl)]
              · rw [List.getElem?_eq_none_iff.mpr (by rw [List.length_set, wipe_length, List.length_set]; omega), List.getElem?_eq_none_iff.mpr (by rw [List.length_set, wipe_length]; omega)]
            · rw [List.getElem?_set_ne hw, List.getElem?_set_ne hw, ihw]
        exact ne2 vs
section
variable {X : Cx} {G : GC} {W : WX} {a b c e : Expr} {ma mb mc me : ME} {pos : Pos} {tg : Expr} {vs : List Nat}
theorem dg_name {i : Nat} {x : Str} (hN : X.N.Nodup) (hi : X.N[i]? = some x) (hx : Loc X.env.scope x) (hf : X.fn x = true ∨ X.env.scope.names.lookup x = some .local := by first | exact .inl rfl | exact .inr rfl | assumption) (hv : i ∈ vs) (hG : G.ex = none := by rfl) : DG X G vs (.Name x pos) (gN i) :=
  pg_weak (pg_name hN hi hx hf) fun v σ H Q ⟨S, ρ, x, ρ', re, r, e, q⟩ => by
    cases e
    exact q _ (RE.set hG re i r) (wipe_set hv)
theorem dgs_nil : DGs X G vs [] gsNil := pgs_weak pgs_nil fun v σ H Q ⟨S, ρ, xs, ρ', re, r, e, q⟩ => by
  cases r with
  | nil => cases e; exact ⟨rfl, q σ re rfl⟩
  | cons _ _ => cases e
theorem dgs_cons {es : List Expr} {g : MG} {gs : MGs} (h1 : DG X G vs e g) (h2 : DGs X G vs es gs) (hs : (assignEach (e :: es) X.env).map (·.2) = assign e X.env :: (assignEach es X.env).map (·.2) := by rfl) : DGs X G vs (e :: es) (gsCons g gs) :=
  pgs_weak (pgs_cons h1 h2 hs) fun v σ H Q ⟨S, ρ, xs, ρ', re, r, e, q⟩ => by
    cases r with
    | nil => cases e
    | @cons v1 d1 vs1 ds1 r1 r2 =>
      simp only [gsCons] at e
      cases e1 : g d1 ρ with
      | none => rw [e1] at e; cases e
      | some ρ1 =>
        rw [e1] at e
        refine ⟨_, _, rfl, S, ρ, d1, ρ1, re, r1, e1, fun σ1 re1 w1 => ⟨S, ρ1, ds1, ρ', re1, r2, e, fun σ2 re2 w2 => q σ2 re2 (w2.trans w1)⟩⟩
theorem dg_tup {es : List Expr} {k n : Nat} {gs : MGs} (hc : X.calm = true) (h : DGs X G vs es gs) (hn : (assignEach es X.env).length = n := by rfl) (hst : (assignEach es X.env).findIdx? (·.1) = none := by rfl) : DG X G vs (.Tuple es k pos) (gT n gs) :=
  pg_weak (pg_tup hc h hn hst) fun v σ H Q ⟨S, ρ, x, ρ', re, r, e, q⟩ => by
    cases r with
    | @tup a vs' ds s1 r1 =>
      simp only [gT] at e
      split at e
      · rename_i hl
        exact ⟨a, vs', rfl, same_sqT re.sub s1, by rw [r1.length]; exact hl, S, ρ, ds, ρ', re, r1, e, q⟩
      · cases e
    | _ => cases e
theorem Reps.set {R : RC} {S : Hp} {v : V} {d : D} (h : Rep R S v d) : ∀ {vs : List V} {ds : List D} (i : Nat), Reps R S vs ds → Reps R S (vs.set i v) (ds.set i d)
  | _, _, _, .nil => .nil
  | _, _, 0, .cons _ h2 => .cons h h2
  | _, _, i + 1, .cons h1 h2 => .cons h1 (Reps.set h i h2)
theorem Reps.get {R : RC} {S : Hp} : ∀ {vs : List V} {ds : List D} {i : Nat} {x : V}, Reps R S vs ds → vs[i]? = some x → ∃ d, ds[i]? = some d ∧ Rep R S x d
  | _, _, _, _, .nil,
        e => by simp at e
  | _, _, 0, x, .cons h1 _, e => by
    (simp only [List.getElem?_cons_zero, Option.some.injEq] at e)
    subst e
    exact ⟨_, rfl, h1⟩
  | _, _, i + 1, x, .cons _ h2, e => by
    (simp only [List.getElem?_cons_succ] at e ⊢)
    exact Reps.get h2 e
theorem walks_list {R : RC} {S : Hp} {p : Addr} {vs : List V} {ds : List D} (h : SqL R.K S p vs) (r : Reps R S vs ds) : Walks R (Itl R.K p) S ds where
  go := fun i S1 H hi s1 s2 => by
    have hl := r.length
    exact ⟨vs, vs[i], same_sqL (s1.trans s2) h, by rw [List.getElem?_eq_getElem (by omega)]⟩
  yld := fun i S1 H x H' hi s1 s2 y => by
    obtain ⟨e, y⟩ := y
    subst e
    obtain ⟨d, e, rd⟩ := r.get (y vs (same_sqL (s1.trans s2) h))
    exact ⟨S1, d, .refl _ _, s2, e, rd.mono s1⟩
  stop := fun S1 H s1 s2 => ⟨vs, same_sqL (s1.trans s2) h, by rw [r.length]; exact Nat.le_refl _⟩
theorem walks_tup {R : RC} {S : Hp} {p : Addr} {vs : List V} {ds : List D} (h : SqT R.K S p vs) (r : Reps R S vs ds) : Walks R (Itt R.K p) S ds where
  go := fun i S1 H hi s1 s2 => by
    have hl := r.length
    exact ⟨vs, vs[i], same_sqT (s1.trans s2) h, by rw [List.getElem?_eq_getElem (by omega)]⟩
  yld := fun i S1 H x H' hi s1 s2 y => by
    obtain ⟨e, y⟩ := y
    subst e
    obtain ⟨d, e, rd⟩ := r.get (y vs (same_sqT (s1.trans s2) h))
    exact ⟨S1, d, .refl _ _, s2, e, rd.mono s1⟩
  stop := fun S1 H s1 s2 => ⟨vs, same_sqT (s1.trans s2) h, by rw [r.length]; exact Nat.le_refl _⟩
theorem rangeD_length (lo : Int) (n : Nat) : (rangeD lo n).length = n := by simp [rangeD]
theorem walks_range {R : RC} {S : Hp} {lo : Int} {n : Nat} : Walks R (Itr lo n) S (rangeD lo n) where
  go := fun i S1 H hi s1 s2 => by rw [rangeD_length] at hi; exact hi
  yld := fun i S1 H x H' hi s1 s2 y => by
    rw [rangeD_length] at hi
    obtain ⟨e, y⟩ := y
    subst e y
    exact ⟨S1, .int (lo + (i : Nat)), .refl _ _, s2, by simp [rangeD, hi], .int _⟩
  stop := fun S1 H s1 s2 => by rw [rangeD_length]; exact Nat.le_refl _
theorem walks_str {R : RC} {S : Hp} {x : Str} : Walks R (Its x) S (signsD x) where
  go := fun i S1 H hi s1 s2 => by simp only [signsD, List.length_map, Array.length_toList] at hi; exact hi
  yld := fun i S1 H v H' hi s1 s2 y => by
    obtain ⟨e, c, y, ev⟩ := y
    subst e ev
    exact ⟨S1, .str ⟨#[c]⟩, .refl _ _, s2, by simp [signsD, y], .str _⟩
  stop := fun S1 H s1 s2 => by
    show x.cps.size ≤ (signsD x).length
    simp [signsD]
theorem di_range1 {p p2 : Pos} {mas : MA} (hg : Gl X "range") (hm : X.mg "range" = none) (ha : DA X G W [a] mas) (hs : starEach [a] X.env = [(false, eval a X.env)] := by rfl) : DI X G W tg (.Call (.Name "range" p) [a] [] p2) (iR1 mas) :=
  pi_weak (pi_range1 hg hm ha hs) fun σ H Q ⟨S, ρ, re, h⟩ => by
    refine ⟨S, ρ, re, After.bind h fun xs h vs S1 H1 e1 s1 r1 => ?_⟩
    split at h
    · split at h
      · rename_i j hj
        cases r1 with
        | cons q1 q2 =>
          cases q2; cases q1
          exact ⟨j, rfl, (p62 hj).1, (p62 hj).2, h _ S1 H1 e1 s1 walks_range⟩
      · exact h.elim
    · exact h.elim
theorem di_range2 {p p2 : Pos} {mas : MA} (hg : Gl X "range") (hm : X.mg "range" = none) (ha : DA X G W [a, b] mas) (hs : starEach [a, b] X.env = [(false, eval a X.env), (false, eval b X.env)] := by rfl) (hs2 : starEach [b] X.env = [(false, eval b X.env)] := by rfl) : DI X G W tg (.Call (.Name "range" p) [a, b] [] p2) (iR2 mas) :=
  pi_weak (pi_range2 hg hm ha hs hs2) fun σ H Q ⟨S, ρ, re, h⟩ => by
    refine ⟨S, ρ, re, After.bind h fun xs h vs S1 H1 e1 s1 r1 => ?_⟩
    split at h
    · split at h
      · rename_i i j hj
        cases r1 with
        | cons q1 q2 =>
          cases q2 with
          | cons q2 q3 =>
            cases q3; cases q1; cases q2
            exact ⟨i, j, rfl, ⟨(p62 hj.1).1, (p62 hj.1).2, (p62 hj.2).1, (p62 hj.2).2⟩, h _ S1 H1 e1 s1 walks_range⟩
      · exact h.elim
    · exact h.elim
theorem di_tup (ha : DE X G W a ma) : DI X G W tg a (iTp ma) :=
  pi_weak (pi_tup ha) fun σ H Q ⟨S, ρ, re, h⟩ => by
    refine ⟨S, ρ, re, After.bind h fun x h v S1 H1 e1 s1 r1 => ?_⟩
    cases r1 <;> (try exact h.elim)
    rename_i a vs ds q1 r1
    exact ⟨a, rfl, ⟨vs, same_sqT s1 q1⟩, h _ S1 H1 e1 s1 (walks_tup q1 r1)⟩
theorem di_list (ha : DE X G W a ma) : DI X G W tg a (iLs ma) :=
  pi_weak (pi_list ha) fun σ H Q ⟨S, ρ, re, h⟩ => by
    refine ⟨S, ρ, re, After.bind h fun x h v S1 H1 e1 s1 r1 => ?_⟩
    cases r1 <;> (try exact h.elim)
    · rename_i a vs ds q1 r1
      exact ⟨a, rfl, ⟨vs, SqL.of (s1 _ _ q1)⟩, h _ S1 H1 e1 s1 (walks_list (SqL.of q1) r1)⟩
    · rename_i a vs ds q1 r1
      exact ⟨a, rfl, ⟨vs, same_sqL s1 q1⟩, h _ S1 H1 e1 s1 (walks_list q1 r1)⟩
theorem di_str (ha : DE X G W a ma) : DI X G W tg a (iSt ma) :=
  pi_weak (pi_str ha) fun σ H Q ⟨S, ρ, re, h⟩ => by
    refine ⟨S, ρ, re, After.bind h fun x h v S1 H1 e1 s1 r1 => ?_⟩
    cases r1 <;> (try exact h.elim)
    rename_i x
    exact ⟨x, rfl, h _ S1 H1 e1 s1 walks_str⟩
end
end L2.DL
namespace L2.DL
open PySem PyProof.Rows PySem.Spec
section
variable {K : PySem.W.Frag} {G : GC} {W : WX} {S H S' H' : Hp} {σ : St} {ρ : List Sl}
theorem WantS.toE {c : Nat} {fs : List (Str × D)} (re : RE K G S H σ ρ) (h : WantS K G W c fs) : Want K G W S H σ c fs := fun dd S2 H2 e2 s2 x => h dd σ S2 H2 (re.ext.trans e2) s2 x
theorem AfterS.bind {α β : Type} {r : Res α} {f : α → Res β} {k : β → Prop} {k' : α → Prop} (h : AfterS K G W (r.bind f) k) (i : ∀ a, AfterS K G W (f a) k → k' a) : AfterS K G W r k' := by
  cases r with
  | ok a => exact i a h
  | ex c fs => exact h
  | stuck => exact h
/-- a statement's first expression -/
theorem AfterS.toE {α β : Type} {r : Res α} {f : α → Res β} {k : β → Prop} {k' : α → Prop} (h : AfterS K G W (r.bind f) k) (re : RE K G S H σ ρ) (i : ∀ a, AfterS K G W (f a) k → k' a) : After K G W S H σ r k' := by
  cases r with
  | ok a => exact i a h
  | ex c fs => exact WantS.toE re h
  | stuck => exact h
theorem AfterS.imp {α : Type} {r : Res α} {k k' : α → Prop} (h : AfterS K G W r k) (i : ∀ a, k a → k' a) : AfterS K G W r k' := by
  cases r with
  | ok a => exact i a h
  | ex c fs => exact h
  | stuck => exact h
theorem Fin.mono {De De' : Ends} (s : Same S S') {o : O} (h : Fin K G De S o) (e1 : De.nx = De'.nx) (e2 : De.rt = De'.rt) (e3 : De.bk = De'.bk) (e4 : De.ct = De'.ct) : Fin K G De' S' o := by
  cases o with
  | nx ρ' => intro σ' S2 H2 s2 re; rw [← e1]; exact h σ' S2 H2 (s.trans s2) re
  | bk ρ' => intro σ' S2 H2 s2 re; rw [← e3]; exact h σ' S2 H2 (s.trans s2) re
  | ct ρ' => intro σ' S2 H2 s2 re; rw [← e4]; exact h σ' S2 H2 (s.trans s2) re
  | rt d => rw [Fin, ← e2]; exact h
theorem Fin.later {De : Ends} (s : Same S S') {o : O} (h : Fin K G De S o) : Fin K G De S' o := h.mono s rfl rfl rfl rfl
end
section
variable {X : Cx} {G : GC} {W : WX} {a b c e : Expr} {ma mb mc me : ME} {pos : Pos} {m1 m2 : MS} {s1 s2 : Stmt} {ss ss2 : List Stmt} {cA : MT} {x : Str}
theorem dss_nil : DSs X G W [] sNx := pss_weak pss_nil fun De σ H ⟨S, ρ, re, h⟩ => h σ S H (fun _ _ e => e) re
theorem t_seq {K : PySem.W.Frag} {De : Ends} {σ : St} {H : Hp} (h : tDS K G W (sSeq m1 m2) De σ H) : tDS K G W m1 { De with nx := tDS K G W m2 De } σ H := by
  obtain ⟨S, ρ, re, h⟩ := h
  refine ⟨S, ρ, re, AfterS.bind h fun o h => ?_⟩
  cases o with
  | nx ρ' => intro σ' S' H' s re'; exact ⟨S', ρ', re', AfterS.imp h fun o q => q.later s⟩
  | bk ρ' => exact h
  | ct ρ' => exact h
  | rt d => exact h
theorem dss_cons (h1 : DS X G W s1 m1) (h2 : DSs X G W ss m2) : DSs X G W (s1 :: ss) (sSeq m1 m2) := pss_weak (pss_cons h1 h2) fun _ _ _ => t_seq
theorem dss_one (h1 : DS X G W s1 m1) : DSs X G W [s1] m1 := pss_one h1
theorem ds_pass : DS X G W (.Pass pos) sNx := ps_weak ps_pass fun De σ H ⟨S, ρ, re, h⟩ => h σ S H (fun _ _ e => e) re
theorem ds_break : DS X G W (.Break pos) sBk := ps_weak ps_break fun De σ H ⟨S, ρ, re, h⟩ => h σ S H (fun _ _ e => e) re
theorem ds_continue : DS X G W (.Continue pos) sCt := ps_weak ps_continue fun De σ H ⟨S, ρ, re, h⟩ => h σ S H (fun _ _ e => e) re
theorem ds_never : DS X G W s1 sNever := ps_weak ps_never fun De σ H ⟨S, ρ, re, h⟩ => h
theorem dss_never : DSs X G W ss sNever := pss_weak pss_never fun De σ H ⟨S, ρ, re, h⟩ => h
theorem ds_ret (he : DE X G W e me) : DS X G W (.Return (some e) pos) (sRet me) := ps_weak (ps_ret he) fun De σ H ⟨S, ρ, re, h⟩ =>
  ⟨S, ρ, re, AfterS.toE h re fun d h v S1 H1 e1 s1 r1 => h v S1 H1 (re.ext.trans e1) s1 r1⟩
theorem ds_ex (he : DE X G W e me) (hs : swapsWith e none pos.line X.env = pure false := by rfl) : DS X G W (.Expr e pos) (sEx me) := ps_weak (ps_expr he hs) fun De σ H ⟨S, ρ, re, h⟩ =>
  ⟨S, ρ, re, AfterS.toE h re fun d h v S1 H1 e1 s1 r1 => h σ S1 H1 e1.s (re.grow e1 s1)⟩
theorem ds_set {i : Nat} {p2 : Pos} (hN : X.N.Nodup) (hi : X.N[i]? = some x) (hx : Loc X.env.scope x) (he : DE X G W e me) (hs : swapsWith e (some (.Name x p2)) pos.line X.env = pure false := by rfl) (hf : X.fn x = true ∨ X.env.scope.names.lookup x = some .local := by first | exact .inl rfl | exact .inr rfl | assumption) (hG : G.ex = none := by rfl) :
    DS X G W (.Assign [.Name x p2] e pos) (sAsg me (gN i)) := ps_weak (ps_set hN hi hx he hs hf) fun De σ H ⟨S, ρ, re, h⟩ =>
  ⟨S, ρ, re, AfterS.toE h re fun d h v S1 H1 e1 s1 r1 => h _ S1 H1 e1.s (RE.set hG (re.grow e1 s1) i r1)⟩
theorem ds_asg {tg : Expr} {g : MG} {vs : List Nat} (he : DE X G W e me) (hg : DG X G vs tg g) (hs : swapsWithSole [tg] e pos.line X.env = pure false := by rfl) (hw : swappedStores [tg] e X.env = pure none := by rfl)
    (h1 : (assignEach [tg] X.env).map (·.2) = [assign tg X.env] := by rfl) : DS X G W (.Assign [tg] e pos) (sAsg me g) := ps_weak (ps_asg he hg hs hw h1) fun De σ H ⟨S, ρ, re, h⟩ => by
  refine ⟨S, ρ, re, AfterS.toE h re fun d h v S1 H1 e1 s1 r1 => ?_⟩
  cases e2 : g d ρ with
  | some ρ' =>
    rw [e2] at h
    exact ⟨S1, ρ, d, ρ', re.grow e1 s1, r1, e2, fun σ' re' _ => h σ' S1 H1 e1.s re'⟩
  | none => rw [e2] at h; exact h.elim
theorem ds_if (hc : DT X G W c cA) (ha : DSs X G W ss m1) (hb : DSs X G W ss2 m2) : DS X G W (.If c ss ss2 pos) (sIf cA m1 m2) := ps_weak (ps_if hc ha hb) fun De σ H ⟨S, ρ, re, h⟩ => by
  refine ⟨S, ρ, re, AfterS.toE h re fun b h S1 H1 e1 s1 => ?_⟩
  cases b with
  | true => exact ⟨S1, ρ, re.grow e1 s1, AfterS.imp h fun o q => q.later e1.s⟩
  | false => exact ⟨S1, ρ, re.grow e1 s1, AfterS.imp h fun o q => q.later e1.s⟩
theorem ds_for {tg iter : Expr} {src : MI} {g : MG} {vs : List Nat} (hp : PassesOwn (model X.prog X.w) X.A X.env X.xe) (hc : X.calm = true) (hi : DI X G W tg iter src) (hg : DG X G vs tg g) (hb : DSs X G W ss m1)
    (hs : ∀ x, foldedSetIterable iter X.env x = pure x := by intro _; rfl) : DS X G W (.For tg iter ss [] pos) (sFor src g m1) := ps_weak (ps_for hp hc hi hg hb hs) fun De σ H ⟨S, ρ, re, h⟩ => by
  refine ⟨S, ρ, re, AfterS.toE h re fun ds h J S1 H1 e1 s1 wk => ?_⟩
  refine ⟨fun i m σ H => ∃ S2 ρ2, RE X.K G S2 H σ ρ2 ∧ Same S1 S2 ∧ i ≤ ds.length ∧ m = ds.length - i ∧ AfterS X.K G W (forL g m1 (ds.drop i) ρ2) (Fin X.K G De S), ⟨_, S1, ρ, re.grow e1 s1, fun _ _ e => e, Nat.zero_le _, rfl, by rw [List.drop_zero]; exact h⟩, ?_⟩
  rintro i m σ2 H2 ⟨S2, ρ2, re2, s2, hi, hm, h⟩
  by_cases hlt : i < ds.length
  · refine .inr ⟨wk.go i S2 H2 hlt s2 re2.sub, fun σ' H' => ∃ S3 ρ3, RE X.K G S3 H' σ' ρ3 ∧ Same S1 S3 ∧ AfterS X.K G W (forL g m1 (ds.drop (i + 1)) ρ3) (Fin X.K G De S), fun σ' H' ⟨S3, ρ3, re3, s3, h3⟩ => ⟨ds.length - (i + 1), by omega, S3, ρ3, re3, s3, hlt, rfl, h3⟩, fun x H' y => ?_⟩
    obtain ⟨S3, d, e3, s3, hd, r3⟩ := wk.yld i S2 H2 x H' hlt s2 re2.sub y
    have hd' : ds.drop i = d :: ds.drop (i + 1) := by
      (rw [List.drop_eq_getElem_cons hlt])
      congr 1
      rw [List.getElem?_eq_getElem hlt] at hd
      exact Option.some.inj hd
    rw [hd'] at h
    simp only [forL] at h
    cases e2 : g d ρ2 with
    | none => rw [e2] at h; exact h.elim
    | some ρ' =>
      rw [e2] at h
      refine ⟨S3, ρ2, d, ρ', re2.grow e3 s3, r3, e2, fun σ' re' _ => ⟨S3, ρ', re', AfterS.bind h fun o h => ?_⟩⟩
      cases o with
      | nx ρ3 => exact fun σ4 S4 H4 s4 re4 => ⟨S4, ρ3, re4, (s2.trans e3.s).trans s4, h⟩
      | ct ρ3 => exact fun σ4 S4 H4 s4 re4 => ⟨S4, ρ3, re4, (s2.trans e3.s).trans s4, h⟩
      | bk ρ3 => exact fun σ4 S4 H4 s4 re4 => h σ4 S4 H4 (((e1.s.trans s2).trans e3.s).trans s4) re4
      | rt d => exact h
  · have e : i = ds.length := by omega
    subst e
    refine .inl ⟨wk.stop S2 H2 s2 re2.sub, ?_⟩
    rw [List.drop_length] at h
    exact h σ2 S2 H2 (e1.s.trans s2) re2
theorem ds_while {fuel : List Sl → Nat} (hp : PassesOwn (model X.prog X.w) X.A X.env X.xe) (hc : DT X G W c cA) (hb : DSs X G W ss m1) : DS X G W (.While c ss [] pos) (sWhile fuel cA m1) := ps_weak (ps_while hp hc hb) fun De σ H ⟨S, ρ, re, h⟩ => by
  refine ⟨fun m σ H => ∃ S2 ρ2, RE X.K G S2 H σ ρ2 ∧ Same S S2 ∧ AfterS X.K G W (whileL cA m1 m ρ2) (Fin X.K G De S), ⟨fuel ρ, S, ρ, re, fun _ _ e => e, h⟩, ?_⟩
  rintro m σ2 H2 ⟨S2, ρ2, re2, s2, h⟩
  cases m with
  | zero => exact h.elim
  | succ m =>
    simp only [whileL] at h
    refine ⟨S2, ρ2, re2, AfterS.toE h re2 fun b h S3 H3 e3 s3 => ?_⟩
    cases b with
    | true =>
      rw [if_pos rfl] at h ⊢
      refine ⟨fun σ' H' => ∃ S3 ρ3, RE X.K G S3 H' σ' ρ3 ∧ Same S S3 ∧ AfterS X.K G W (whileL cA m1 m ρ3) (Fin X.K G De S), fun σ' H' q => ⟨m, Nat.lt_succ_self m, q⟩, S3, ρ2, re2.grow e3 s3, AfterS.bind h fun o h => ?_⟩
      cases o with
      | nx ρ3 => exact fun σ4 S4 H4 s4 re4 => ⟨S4, ρ3, re4, (s2.trans e3.s).trans s4, h⟩
      | ct ρ3 => exact fun σ4 S4 H4 s4 re4 => ⟨S4, ρ3, re4, (s2.trans e3.s).trans s4, h⟩
      | bk ρ3 => exact fun σ4 S4 H4 s4 re4 => h σ4 S4 H4 ((s2.trans e3.s).trans s4) re4
      | rt d => exact h
    | false =>
      rw [if_neg Bool.false_ne_true] at h ⊢
      exact h σ2 S3 H3 (s2.trans e3.s) (re2.grow e3 s3)

/-! ### lists that grow -/
theorem RE.own_set (hG : G.ex = none) {K : PySem.W.Frag} {S H H' : Hp} {σ : St} {ρ : List Sl} {i : Nat} {p : Addr} {x y : Sl} (re : RE K G S H σ ρ) (hi : ρ[i]? = some x) (hx : x.own = true) (hσ : σ[i]? = some (some (.ref p))) (hy : y.own = true) (ok : SlOk (G.R K) S H' (some (.ref p)) y)
    (hS : S p = none) (hH : ∀ q, q ≠ p → H' q = H q) : RE K G S H' σ (ρ.set i y) := by
  obtain ⟨h0, hu⟩ := re.own i x p hi hx hσ
  have hl : i < ρ.length := (List.getElem?_eq_some_iff.mp hi).1
  have sub : ∀ q o, S q = some o → H' q = some o := fun q o e => by
    have ne : q ≠ p := fun z => by rw [z, hS] at e; cases e
    rw [hH q ne]; exact re.sub q o e
  refine ⟨sub, ⟨re.ext.s, fun q o e => ?_, re.ext.new⟩, by simp [re.len], fun j z e => ?_, fun j z q e o s => ?_, fun i a dd c fs h => by rw [hG] at h; cases h⟩
  · have ne : q ≠ p := fun z => by rw [z, h0] at e; cases e
    rw [hH q ne]; exact re.ext.h q o e
  · by_cases hj : i = j
    · subst hj
      rw [List.getElem?_set_self hl] at e
      cases e
      exact ⟨_, hσ, ok⟩
    · rw [List.getElem?_set_ne hj] at e
      obtain ⟨o, h1, h2⟩ := re.sl j z e
      refine ⟨o, h1, ?_⟩
      have far : ∀ q u, z.own = true → o = some (.ref q) → H q = some u → H' q = some u := fun q u hz ho hq => by
        have ne : q ≠ p := fun w => by
          subst w
          have := hu j z e hz (by rw [h1, ho])
          exact hj this.symm
        rw [hH q ne]; exact hq
      cases z with
      | no => trivial
      | d x => exact h2
      | bl xs => obtain ⟨q, vs, a1, a2, a3, a4⟩ := h2; exact ⟨q, vs, a1, a2, far q _ rfl a1 a3, a4⟩
      | bd xs => obtain ⟨q, vs, a1, a2, a3, a4⟩ := h2; exact ⟨q, vs, a1, a2, far q _ rfl a1 a3, a4⟩
      | bo c xs => obtain ⟨q, dx, vs, a1, a2, a3, a4⟩ := h2; exact ⟨q, dx, vs, a1, a2, far q _ rfl a1 a3, a4⟩
  · have back : ∀ (k : Nat) w, (ρ.set i y)[k]? = some w → w.own = true → σ[k]? = some (some (.ref q)) → ∃ w', ρ[k]? = some w' ∧ w'.own = true := fun k w ek ow _ => by
      by_cases hk : i = k
      · subst hk; exact ⟨x, hi, hx⟩
      · rw [List.getElem?_set_ne hk] at ek; exact ⟨w, ek, ow⟩
    obtain ⟨w, e', o'⟩ := back j z e o s
    obtain ⟨a1, a2⟩ := re.own j w q e' o' s
    refine ⟨a1, fun k y' ek ok' sk => ?_⟩
    obtain ⟨w2, e2, o2⟩ := back k y' ek ok' sk
    exact a2 k w2 e2 o2 sk
theorem ds_app {i : Nat} {p1 p2 cpos : Pos} (he : DE X G W e me) (hN : X.N[i]? = some x := by rfl) (hv : Vis X.env.scope x := by first | exact Or.inl rfl | exact Or.inr (Or.inl rfl) | exact Or.inr (Or.inr rfl))
    (hd : (x == ("__debug__" : Str)) = false := by decide) (hcd
          : (x == ("__classdict__" : Str)) = false := by decide)
    (hbase : attributeBase (.Name x p1) "append" X.env (eval (.Name x p1) X.env) = eval (.Name x p1) X.env := by rfl)
    (hfew : ((backTo cpos (starEach (e :: []) X.env)).all (fun x => !x.1) && (backToKw cpos (keywordEach [] X.env)).all (fun x => x.1.isSome)
      && decide ((e :: []).length + ([] : List Keyword).length + (if ([] : List Keyword).isEmpty then 0 else 1) < 30)) = true := by rfl)
    (hline : (p2.endLine == cpos.line) = true := by rfl) (hs : starEach (e :: []) X.env = (false, eval e X.env) :: starEach [] X.env := by rfl) (hplain : (backTo cpos (starEach [] X.env)).any (·.1) = false := by rfl)
    (hsw : swapsWith (.Call (.Attribute (.Name x p1) "append" p2) [e] [] cpos) none pos.line X.env = pure false := by rfl) (hG : G.ex = none := by rfl) :
    DS X G W (.Expr (.Call (.Attribute (.Name x p1) "append" p2) [e] [] cpos) pos) (sApp i me) :=
  ps_weak (ps_expr (pe_bm PySem.F.plainAttrs_list PySem.F.slot_list_append PySem.F.type_list_append mt_append (pe_var (i := i) hN hv hd hcd) (pa_cons he pa_nil hs) hbase hfew hline hs hplain) hsw) fun De σ H ⟨S, ρ, re, h⟩ => by
    unfold sApp at h
    split at h
    · rename_i xs hb
      obtain ⟨o, h1, p, vs, ho, hS, hp, hr⟩ := re.sl i _ hb
      subst ho
      refine ⟨_, h1, .inl ⟨rfl, _, SqL.of hp⟩, S, ρ, re, AfterS.toE h re fun d h v S1 H1 e1 s1 r1 => ?_⟩
      have re1 := re.grow e1 s1
      obtain ⟨o', h1', p', vs', ho', hS', hp', hr'⟩ := re1.sl i _ hb
      rw [h1] at h1'
      cases h1'
      cases ho'
      split at h
      · rename_i hl
        refine ⟨p, vs', v, rfl, rfl, hp', by rw [hr'.length]; exact hl, ?_⟩
        exact h σ S1 _ e1.s (RE.own_set hG re1 (y := .bl (xs ++ [d])) hb rfl h1 rfl ⟨p, vs' ++ [v], rfl, hS', upd_same, hr'.append (.cons r1 .nil)⟩ hS' fun q hq => upd_ne hq)
      · exact h.elim
    · exact h.elim
/-- a[k] = e, a a list that grows -/
theorem ds_setI {i : Nat} {ie : Expr} {mi : ME} {p1 p2 : Pos} (hi : DE X G W ie mi) (he : DE X G W e me) (hN : X.N[i]? = some x := by rfl) (hv : Vis X.env.scope x := by first | exact Or.inl rfl | exact Or.inr (Or.inl rfl) | exact Or.inr (Or.inr rfl))
    (hd : (x == ("__debug__" : Str)) = false := by decide) (hcd
          : (x == ("__classdict__" : Str)) = false := by decide)
    (ha : ∀ v, assign (.Subscript (.Name x p1) ie p2) X.env v = (do
      let ov ← holding [v] (eval (.Name x p1) X.env)
      let iv ← holding [v, ov] (eval ie X.env)
      standAt p2
      holding [v, ov, iv]
            (setItem ov iv v)
      release [v, ov, iv] []) := by intro _; rfl) (hs : swapsWithSole [.Subscript (.Name x p1) ie p2] e pos.line X.env = pure false := by rfl) (hw : swappedStores [.Subscript (.Name x p1) ie p2] e X.env = pure none := by rfl)
    (h1 : (assignEach [.Subscript (.Name x p1) ie p2] X.env).map (·.2) = [assign (.Subscript (.Name x p1) ie p2) X.env] := by rfl) (hG : G.ex = none := by rfl) :
    DS X G W (.Assign [.Subscript (.Name x p1) ie p2] e pos) (sSetI i mi me) :=
  ps_weak (ps_asg he (pg_sub (pe_var (i := i) hN hv hd hcd) hi set_list ha) hs hw h1) fun De σ H ⟨S, ρ, re, h⟩ => by
    unfold sSetI at h
    split at h
    · rename_i xs hb
      refine ⟨S, ρ, re, AfterS.toE h re fun d h v S1 H1 e1 s1 r1 => ?_⟩
      have re1 := re.grow e1 s1
      obtain ⟨o, h1, p, vs, ho, hS, hp, hr⟩ := re1.sl i _ hb
      subst ho
      refine ⟨_, h1, S1, ρ, re1, AfterS.toE h re1 fun k h w S2 H2 e2 s2 r2 => ?_⟩
      have re2 := re1.grow e2 s2
      obtain ⟨o', h1', p', vs', ho', hS', hp', hr'⟩ := re2.sl i _ hb
      rw [h1] at h1'
      cases h1'
      cases ho'
      cases hk : setD xs k d with
      | none => rw [hk] at h; exact h.elim
      | some ys =>
        rw [hk] at h
        unfold setD at hk
        split at hk
        · rename_i n
          cases r2
          obtain ⟨j, hj, rfl⟩ := Option.map_eq_some_iff.mp hk
          refine ⟨p, vs', n, j, rfl, rfl, hp', by rw [hr'.length]; exact hj, ?_⟩
          exact h σ S2 _ (e1.s.trans e2.s) (RE.own_set hG re2 (y := .bl (xs.set j d)) hb rfl h1 rfl ⟨p, vs'.set j v, rfl, hS', upd_same, Reps.set (r1.mono e2.s) j hr'⟩ hS' fun q hq => upd_ne hq)
        · cases hk
    · exact h.elim
/-- a = [..], a a list that is to grow -/
theorem RE.own_new (hG : G.ex = none) {K : PySem.W.Frag} {S H : Hp} {σ : St} {ρ : List Sl} {i : Nat} {p : Addr} {o : HO} {y : Sl} (re : RE K G S H σ ρ) (hp : H p = none) (hi : i < ρ.length) (ok : SlOk (G.R K) S (upd H p o) (some (.ref p)) y) : RE K G S (upd H p o) (σ.set i (some (.ref p))) (ρ.set i y) := by
  have sp : S p = none := re.sub.free hp
  have h0 : G.H0 p = none := re.ext.h.free hp
  have e1 : Ext S H S (upd H p o) := ⟨fun _ _ e => e, fun q u e => by rw [upd_ne (ne_of_none e hp)]; exact e, fun q u e n => by rw [n] at e; cases e⟩
  have hσ : i < σ.length := by rw [re.len]; exact hi
  refine ⟨fun q u e => e1.h _ _ (re.sub _ _ e), re.ext.trans e1, by simp [re.len], fun j z e => ?_, fun j z q e oz s => ?_, fun i a dd c fs h => by rw [hG] at h; cases h⟩
  · by_cases hj : i = j
    · subst hj
      rw [List.getElem?_set_self hi] at e
      cases e
      exact ⟨_, List.getElem?_set_self hσ, ok⟩
    · rw [List.getElem?_set_ne hj] at e ⊢
      obtain ⟨o', h1, h2⟩ := re.sl j z e
      exact ⟨o', h1, h2.ext e1⟩
  · have ne : ∀ (k : Nat) w q, ρ[k]? = some w → w.own = true → σ[k]? = some (some (.ref q)) → q ≠ p := fun k w q ek ow sk z => by
      obtain ⟨o', h1, h2⟩ := re.sl k w ek
      rw [sk] at h1
      have h1 := Option.some.inj h1
      subst h1
      cases w with
      | no => cases ow
      | d _ => cases ow
      | bl xs => obtain ⟨q', vs, a1, a2, a3, a4⟩ := h2; cases a1; rw [z, hp] at a3; cases a3
      | bd xs => obtain ⟨q', vs, a1, a2, a3, a4⟩ := h2; cases a1; rw [z, hp] at a3; cases a3
      | bo c xs => obtain ⟨q', dx, vs, a1, a2, a3, a4⟩ := h2; cases a1; rw [z, hp] at a3; cases a3
    by_cases hj : i = j
    · subst hj
      rw [List.getElem?_set_self hσ] at s
      cases s
      refine ⟨h0, fun k w ek ow sk => ?_⟩
      by_cases hk : i = k
      · exact hk.symm
      · rw [List.getElem?_set_ne hk] at ek sk
        exact absurd rfl (ne k w p ek ow sk)
    · rw [List.getElem?_set_ne hj] at e s
      have hq := ne j z q e oz s
      obtain ⟨a1, a2⟩ := re.own j z q e oz s
      refine ⟨a1, fun k w ek ow sk => ?_⟩
      by_cases hk : i = k
      · subst hk
        rw [List.getElem?_set_self hσ] at sk
        cases sk
        exact absurd rfl hq
      · rw [List.getElem?_set_ne hk] at ek sk
        exact a2 k w ek ow sk
theorem ds_newL {i : Nat} {p2 spos : Pos} {es : List Expr} {mas : MA} (hN : X.N.Nodup) (hi : X.N[i]? = some x) (hx : Loc X.env.scope x) (he : DA X G W es mas) (hf : X.fn x = true ∨ X.env.scope.names.lookup x = some .local := by first | exact .inl rfl | exact .inr rfl | assumption) (hs' : swapsWith (.List es pos) (some (.Name x p2)) spos.line X.env = pure false := by rfl) (hG : G.ex = none := by rfl) :
    DS X G W (.Assign [.Name x p2] (.List es pos) spos) (sNewL i mas) := ps_weak (ps_set hN hi hx (pe_lst he) hs' hf) fun De σ H ⟨S, ρ, re, h⟩ => by
    refine ⟨S, ρ, re, AfterS.toE h re fun ds h vs S1 H1 e1 s1 r1 => ?_⟩
    split at h
    · rename_i hl
      refine ⟨by rw [r1.length]; exact hl.2, fun p hp => ?_⟩
      have re1 := re.grow e1 s1
      exact h _ S1 _ e1.s (RE.own_new hG re1 (y := .bl ds) hp hl.1 ⟨p, vs, rfl, s1.free hp, upd_same, r1⟩)
    · exact h.elim
/-- a ghost step: the list is done, from here on it is data -/
theorem t_frz (hG : G.ex = none) {K : PySem.W.Frag} {i : Nat} {De : Ends} {σ : St} {H : Hp} (h : tDS K G W (sFrz i m1) De σ H) : tDS K G W m1 De σ H := by
  obtain ⟨S, ρ, re, h⟩ := h
  have main : ∀ (z : Sl) (d : D) (o : Addr → HO → Prop), ρ[i]? = some z → z.own = true → (∀ p ho, σ[i]? = some (some (.ref p)) → S p = none → H p = some ho → o p ho → Rep (G.R K) (upd S p ho) (.ref p) d) → (∃ p ho, σ[i]? = some (some (.ref p)) ∧ S p = none ∧ H p = some ho ∧ o p ho) →
      AfterS K G W (m1 (ρ.set i (.d d))) (Fin K G De S) → tDS K G W m1 De σ H := fun z d o hz oz hr ⟨p, ho, h1, h2, h3, h4⟩ q => by
    obtain ⟨h0, hu⟩ := re.own i z p hz oz h1
    have hl : i < ρ.length := (List.getElem?_eq_some_iff.mp hz).1
    have sS : Same S (upd S p ho) := fun q u e => by rw [upd_ne (ne_of_none e h2)]; exact e
    have sub : Same (upd S p ho) H := fun q u e => by
      by_cases hq : q = p
      · subst hq; rw [upd_same] at e; cases e; exact h3
      · rw [upd_ne hq] at e; exact re.sub q u e
    have re' : RE K G (upd S p ho) H σ (ρ.set i (.d d)) := by
      refine ⟨sub, ⟨re.ext.s.trans sS, re.ext.h, fun q u e n => ?_⟩, by simp [re.len], fun j y e => ?_, fun j y q e oy s => ?_, fun i a dd c fs h => by rw [hG] at h; cases h⟩
      · by_cases hq : q = p
        · rw [hq]; exact h0
        · rw [upd_ne hq] at e; exact re.ext.new q u e n
      · by_cases hj : i = j
        · subst hj
          rw [List.getElem?_set_self hl] at e
          cases e
          exact ⟨_, h1, _, rfl, hr p ho h1 h2 h3 h4⟩
        · rw [List.getElem?_set_ne hj] at e
          obtain ⟨o', a1, a2⟩ := re.sl j y e
          have far : ∀ q, y.own = true → o' = some (.ref q) → S q = none → upd S p ho q = none := fun q oy eo hq => by
            have ne : q ≠ p := fun w => by
              subst w
              exact hj (hu j y e oy (by rw [a1, eo])).symm
            rw [upd_ne ne]; exact hq
          refine ⟨o', a1, ?_⟩
          cases y with
          | no => trivial
          | d x => obtain ⟨v, b1, b2⟩ := a2; exact ⟨v, b1, b2.mono sS⟩
          | bl xs => obtain ⟨q, vs, b1, b2, b3, b4⟩ := a2; exact ⟨q, vs, b1, far q rfl b1 b2, b3, b4.mono sS⟩
          | bd xs => obtain ⟨q, vs, b1, b2, b3, b4⟩ := a2; exact ⟨q, vs, b1, far q rfl b1 b2, b3, b4.mono sS⟩
          | bo c xs => obtain ⟨q, dx, vs, b1, b2, b3, b4⟩ := a2; exact ⟨q, dx, vs, b1, far q rfl b1 b2, b3, b4.mono sS⟩
      · have nj : ∀ (k : Nat) w, (ρ.set i (.d d))[k]? = some w → w.own = true → i ≠ k := fun k w ek ow z => by
          subst z
          rw [List.getElem?_set_self hl] at ek
          cases ek; cases ow
        have hj := nj j y e oy
        rw [List.getElem?_set_ne hj] at e
        obtain ⟨a1, a2⟩ := re.own j y q e oy s
        refine ⟨a1, fun k w ek ow sk => ?_⟩
        rw [List.getElem?_set_ne (nj k w ek ow)] at ek
        exact a2 k w ek ow sk
    exact ⟨_, _, re', AfterS.imp q fun o q => q.later sS⟩
  have sS : ∀ {p : Addr} {ho : HO}, S p = none → Same S (upd S p ho) := fun {p ho} h2 q u e => by rw [upd_ne (ne_of_none e h2)]; exact e
  unfold sFrz at h
  split at h
  · rename_i xs hz
    obtain ⟨o, a1, p, vs, b1, b2, b3, b4⟩ := re.sl i _ hz
    subst b1
    exact main _ (.lst xs) (fun q ho => q = p ∧ ho = .lst vs) hz rfl (fun q ho c1 c2 c3 c4 => by obtain ⟨rfl, rfl⟩ := c4; exact .lst upd_same (b4.mono (sS c2))) ⟨p, _, a1, b2, b3, rfl, rfl⟩ h
  · rename_i xs hz
    obtain ⟨o, a1, p, vs, b1, b2, b3, b4⟩ := re.sl i _ hz
    subst b1
    exact main _ (.dct xs) (fun q ho => q = p ∧ ho = .dK vs) hz rfl (fun q ho c1 c2 c3 c4 => by obtain ⟨rfl, rfl⟩ := c4; exact .dct upd_same (b4.mono (sS c2))) ⟨p, _, a1, b2, b3, rfl, rfl⟩ h
  · rename_i c fs hz
    obtain ⟨o, a1, p, dx, vs, b1, b2, b3, b4⟩ := re.sl i _ hz
    subst b1
    exact main _ (.obj c fs) (fun q ho => q = p ∧ ho = .ins (G.cls c) dx vs) hz rfl (fun q ho c1 c2 c3 c4 => by obtain ⟨rfl, rfl⟩ := c4; exact .obj upd_same (b4.mono (sS c2))) ⟨p, _, a1, b2, b3, rfl, rfl⟩ h
  · exact ⟨S, ρ, re, h⟩
theorem dss_frz (i : Nat) (h : DSs X G W ss m1) (hG : G.ex = none := by rfl) : DSs X G W ss (sFrz i m1) := pss_weak h fun _ _ _ => t_frz hG
theorem ds_frz (i : Nat) (h : DS X G W s1 m1) (hG : G.ex = none := by rfl) : DS X G W s1 (sFrz i m1) := ps_weak h fun _ _ _ => t_frz hG
end
end L2.DL
namespace L2.DL
open PySem PyProof.Rows PySem.Spec

/-! ### comprehensions -/
abbrev W0 : WX := fun _ _ _ _ => False
theorem wipe_wipe (σ : St) : ∀ vs : List Nat, wipe (wipe σ vs) vs = wipe σ vs := by
  have key : ∀ (vs us : List Nat) (τ : St), (∀ v ∈ us, τ[v]? = none ∨ τ[v]? = some none) → wipe τ us = τ := by
    intro vs us
    induction us with
    | nil => intro τ _; rfl
    | cons u us ih =>
      intro τ h
      unfold wipe
      rw [ih τ fun v hv => h v (by simp [hv])]
      apply List.ext_getElem?
      intro j
      by_cases hj : u = j
      · subst hj
        rcases h u (by simp) with e | e
        · rw [e, List.getElem?_eq_none_iff.mpr (by rw [List.length_set]; exact List.getElem?_eq_none_iff.mp e)]
        · rw [List.getElem?_set_self (List.getElem?_eq_some_iff.mp e).1, e]
      · rw [List.getElem?_set_ne hj]
  have wn : ∀ (us : List Nat) (v : Nat), v ∈ us → (wipe σ us)[v]? = none ∨ (wipe σ us)[v]? = some none := by
    intro us v hv
    cases e : (wipe σ us)[v]? with
    | none => exact .inl rfl
    | some o =>
      cases o with
      | none => exact .inr rfl
      | some x => exact absurd hv (wipe_some e).2
  exact fun vs => key vs vs _ fun v hv => wn vs v hv
theorem RE.unset {K : PySem.W.Frag} {G : GC} (hG : G.ex = none) {S H : Hp} {σ : St} {ρ : List Sl} (r : RE K G S H σ ρ) (i : Nat) : RE K G S H (σ.set i none) (ρ.set i .no) := by
  refine ⟨r.sub, r.ext, by simp [r.len], fun j y e => ?_, fun j y p e o s => ?_, fun i a dd c fs h => by rw [hG] at h; cases h⟩
  · by_cases hj : i = j
    · subst hj
      have hl : i < (ρ.set i .no).length := (List.getElem?_eq_some_iff.mp e).1
      rw [List.length_set] at hl
      rw [List.getElem?_set_self hl] at e
      cases e
      exact ⟨_, List.getElem?_set_self (by rw [r.len]; exact hl), trivial⟩
    · rw [List.getElem?_set_ne hj] at e ⊢
      exact r.sl j y e
  · have ne : ∀ (k : Nat) z, (ρ.set i .no)[k]? = some z → z.own = true → i ≠ k := fun k z ez oz q => by
      subst q
      have hl : i < (ρ.set i .no).length := (List.getElem?_eq_some_iff.mp ez).1
      rw [List.length_set] at hl
      rw [List.getElem?_set_self hl] at ez
      cases ez; cases oz
    have hj := ne j y e o
    rw [List.getElem?_set_ne hj] at e s
    obtain ⟨h1, h2⟩ := r.own j y p e o s
    refine ⟨h1, fun k z ez oz sz => ?_⟩
    have hk := ne k z ez oz
    rw [List.getElem?_set_ne hk] at ez sz
    exact h2 k z ez oz sz
theorem RE.wipe {K : PySem.W.Frag} {G : GC} (hG : G.ex = none) {S H : Hp} {σ : St} {ρ : List Sl} (r : RE K G S H σ ρ) : ∀ vs : List Nat, RE K G S H (L2.wipe σ vs) (wipeD ρ vs)
  | [] => r
  | v :: vs => RE.unset hG (RE.wipe hG r vs) v
theorem nox_ok {α : Type} {r : Res α} {a : α} (h : nox r = .ok a) : r = .ok a := by
  cases r <;> first | exact h | cases h
theorem res_bind_ok {α β : Type} {r : Res α} {f : α → Res β} {b : β} (h : r.bind f = .ok b) : ∃ a, r = .ok a ∧ f a = .ok b := by
  cases r with
  | ok a => exact ⟨a, rfl, h⟩
  | ex c fs => cases h
  | stuck => cases h
theorem lift_ok {α : Type} {o : Option α} {a : α} (h : lift o = .ok a) : o = some a := by
  cases o with
  | none => cases h
  | some b => cases h; rfl
section
variable {X : Cx} {G : GC} {W : WX}
theorem t_lc (hG : G.ex = none) {K : PySem.W.Frag} {src : MI} {vs : List Nat} {g : MG} {tt : MT} {te : ME} {σ : St} {H : Hp} {Q : VK} (h : tD K G W (eLc src vs g tt te) σ H Q) : tLc (tDI K G W src) (tDG K G vs g) (tDT K G W0 tt) (tD K G W0 te) vs σ H Q := by
  obtain ⟨S, ρ, re, h⟩ := h
  refine ⟨S, ρ, re, After.bind h fun ds h J S1 H1 e1 s1 wk Dd hD => ?_⟩
  have re1 := re.grow e1 s1
  split at h
  case isFalse => exact h.elim
  case isTrue hlen =>
  have h' : ∃ r, compL g tt te (wipeD ρ vs) ds = .ok r ∧ ∀ v S' H', Ext S H S' H' → Same S' H' → Rep (G.R K) S' v (.lst r) → Q v H' := by
    have nx : ∀ ds : List D, (∃ r, compL g tt te (wipeD ρ vs) ds = .ok r) ∨ compL g tt te (wipeD ρ vs) ds = .stuck := by
      intro ds
      induction ds with
      | nil => exact .inl ⟨_, rfl⟩
      | cons d ds ih =>
        simp only [compL]
        cases q1 : g d (wipeD ρ vs) with
        | none => exact .inr rfl
        | some ρ1 =>
          simp only [lift, Res.bind]
          cases q2 : tt ρ1 with
          | stuck => exact .inr rfl
          | ex c fs => exact .inr rfl
          | ok b =>
            simp only [nox]
            cases b with
            | false => simpa using ih
            | true =>
              simp only [if_true]
              cases q3 : te ρ1 with
              | stuck => exact .inr rfl
              | ex c fs => exact .inr rfl
              | ok x =>
                simp only [nox]
                rcases ih with ⟨r, e⟩ | e
                · rw [e]; exact .inl ⟨_, rfl⟩
                · rw [e]; exact .inr rfl
    rcases nx ds with ⟨r, e⟩ | e
    · rw [e] at h; exact ⟨r, e, h⟩
    · rw [e] at h; exact h.elim
  obtain ⟨r, hr, q⟩ := h'
  have hS1 : S1 Dd = none := s1.free hD
  refine ⟨fun i m Hc => ∃ S2 av ad rr, Ext S1 H1 S2 Hc ∧ Same S2 Hc ∧ S2 Dd = none ∧ Hc Dd = some (.lst av) ∧ Reps (G.R K) S2 av ad ∧ ad.length ≤ i ∧ compL g tt te (wipeD ρ vs) (ds.drop i) = .ok rr ∧ ad ++ rr = r ∧ i ≤ ds.length ∧ m = ds.length - i, ?_, ?_⟩
  · refine ⟨_, S1, [], [], r, ⟨fun _ _ e => e, fun q u e => by rw [upd_ne (ne_of_none e hD)]; exact e, fun q u e n => by rw [n] at e; cases e⟩, fun q u e => ?_, hS1, upd_same, .nil, Nat.zero_le _, by rw [List.drop_zero]; exact hr, rfl, Nat.zero_le _, rfl⟩
    rw [upd_ne (ne_of_none e hS1)]
    exact s1 _ _ e
  · rintro i m Hc ⟨S2, av, ad, rr, e2, s2, hS2, hc, ra, hal, hrr, happ, hi, hm⟩
    have re2 := re1.grow e2 s2
    by_cases hlt : i < ds.length
    · have hd' : ds.drop i = ds[i] :: ds.drop (i + 1) := List.drop_eq_getElem_cons hlt
      rw [hd'] at hrr
      simp only [compL] at hrr
      obtain ⟨ρ1, q1, hrr⟩ := res_bind_ok hrr
      have q1 := lift_ok q1
      obtain ⟨b, q2, hrr⟩ := res_bind_ok hrr
      have q2 := nox_ok q2
      refine .inr ⟨wk.go i S2 Hc hlt e2.s s2, fun Hc => ∃ S2 av ad rr, Ext S1 H1 S2 Hc ∧ Same S2 Hc ∧ S2 Dd = none ∧ Hc Dd = some (.lst av) ∧ Reps (G.R K) S2 av ad ∧ ad.length ≤ i + 1 ∧ compL g tt te (wipeD ρ vs) (ds.drop (i + 1)) = .ok rr ∧ ad ++ rr = r,
        fun H' ⟨S2, av, ad, rr, a1, a2, a3, a4, a5, a6, a7, a8⟩ => ⟨_, by omega, S2, av, ad, rr, a1, a2, a3, a4, a5, a6, a7, a8, hlt, rfl⟩, fun x H' y => ?_⟩
      obtain ⟨S3, d, e3, s3, hd, r3⟩ := wk.yld i S2 Hc x H' hlt e2.s s2 y
      rw [List.getElem?_eq_getElem hlt] at hd
      have hd := Option.some.inj hd
      rw [hd] at q1
      have re3 := re2.grow e3 s3
      refine ⟨S3, wipeD ρ vs, d, ρ1, RE.wipe hG re3 vs, r3, q1, fun σ4 re4 w4 => ⟨w4.trans (wipe_wipe σ vs), S3, ρ1, re4, ?_⟩⟩
      rw [q2]
      intro S5 H5 e5 s5
      have re5 := re4.grow e5 s5
      have e25 : Ext S2 Hc S5 H5 := e3.trans e5
      have hS5 : S5 Dd = none := by
        cases z : S5 Dd with
        | none => rfl
        | some o => have := e25.new Dd o z hS2; rw [hc] at this; cases this
      cases b with
      | false =>
        rw [if_neg Bool.false_ne_true] at hrr ⊢
        exact ⟨S5, av, ad, rr, e2.trans e25, s5, hS5, e25.h _ _ hc, ra.mono e25.s, by omega, hrr, happ⟩
      | true =>
        rw [if_pos rfl] at hrr ⊢
        obtain ⟨y, q3, hrr⟩ := res_bind_ok hrr
        have q3 := nox_ok q3
        obtain ⟨r2, q4, hrr⟩ := res_bind_ok hrr
        have hrr : y :: r2 = rr := by cases hrr; rfl
        refine ⟨S5, ρ1, re5, ?_⟩
        rw [q3]
        intro v S6 H6 e6 s6 r6
        have e26 : Ext S2 Hc S6 H6 := e25.trans e6
        have hS6 : S6 Dd = none := by
          cases z : S6 Dd with
          | none => rfl
          | some o => have := e26.new Dd o z hS2; rw [hc] at this; cases this
        have hc6 := e26.h _ _ hc
        refine ⟨av, hc6, by rw [ra.length]; omega, S6, av ++ [v], ad ++ [y], r2, ?_, ?_, hS6, upd_same, (ra.mono e26.s).append (.cons r6 .nil), by simp; omega, q4, by rw [List.append_assoc, ← happ, ← hrr]; rfl⟩
        · have e16 := e2.trans e26
          exact ⟨e16.s, fun q u e => by rw [upd_ne (ne_of_none e hD)]; exact e16.h _ _ e, e16.new⟩
        · intro q u e
          rw [upd_ne (ne_of_none e hS6)]
          exact s6 _ _ e
    · have e : i = ds.length := by omega
      subst e
      refine .inl ⟨wk.stop S2 Hc e2.s s2, ?_⟩
      rw [List.drop_length] at hrr
      have hrr : rr = [] := by cases hrr; rfl
      rw [hrr, List.append_nil] at happ
      subst happ
      have sS : Same S2 (upd S2 Dd (.lst av)) := fun q u e => by rw [upd_ne (ne_of_none e hS2)]; exact e
      refine q (.ref Dd) (upd S2 Dd (.lst av)) Hc (e1.trans ⟨e2.s.trans sS, e2.h, fun q u e n => ?_⟩) (fun q u e => ?_) (.lst upd_same (ra.mono sS))
      · by_cases hq : q = Dd
        · rw [hq]; exact hD
        · rw [upd_ne hq] at e; exact e2.new q u e n
      · by_cases hq : q = Dd
        · subst hq; rw [upd_same] at e; cases e; exact hc
        · rw [upd_ne hq] at e; exact s2 _ _ e
theorem dts_nil {K : PySem.W.Frag} : PTs X [] (tDT K G W cYes) := ⟨fun pins s σ H Q I ⟨S, ρ, re, h⟩ => pts_nil.run pins s σ H Q I (h S H (.refl _ _) re.sub)⟩
theorem de_lc {src : MI} {g : MG} {tt : MT} {te : ME} {elt tg iter : Expr} {ifs : List Expr} {scope : Scope} {own : List (Str × Nat)} {pos : Pos} (hc : X.calm = true) (hN : X.N.Nodup) (hi : DI X G W tg iter src) (ok : BlkOk X.N X.env.scope scope own)
    (hg : ∀ (s : Shared) (H : Hp) (C : Addr) (cl : List (Str × Addr)) (fp : List Addr), PG (X.blk s H scope (compEnvC scope cl C X.env) fp) tg (tDG X.K G (own.map (·.2)) g)) (ht : ∀ (s : Shared) (H : Hp) (C : Addr) (cl : List (Str × Addr)) (fp : List Addr), PTs (X.blk s H scope (compEnvC scope cl C X.env) fp) ifs (tDT X.K G W0 tt))
    (he : ∀ (s : Shared) (H : Hp) (C : Addr) (cl : List (Str × Addr)) (fp : List Addr), PE (X.blk s H scope (compEnvC scope cl C X.env) fp) elt (tD X.K G W0 te)) (hs : ∀ x, foldedSetIterable iter X.env x = pure x := by intro _; rfl) (hG : G.ex = none := by rfl) :
    DE X G W (.ListComp elt [⟨tg, iter, ifs, 0⟩] scope pos) (eLc src (own.map (·.2)) g tt te) := pe_weak (pe_lc hc hN hi ok hg ht he hs) fun _ _ _ => t_lc hG
theorem ds_setLc {i : Nat} {y : Str} {py : Pos} {src : MI} {g : MG} {tt : MT} {te : ME} {elt tg iter : Expr} {ifs : List Expr} {scope : Scope} {own : List (Str × Nat)} {pos spos : Pos} (hc : X.calm = true) (hN : X.N.Nodup) (hy : X.N[i]? = some y) (hyl : X.env.scope.names.lookup y = some .local)
    (hsw : swapsWith (.ListComp elt [⟨tg, iter, ifs, 0⟩] scope pos) (some (.Name y py)) spos.line X.env = pure true) (hi : DI X G W tg iter src) (ok : BlkOk X.N X.env.scope scope own)
    (hg : ∀ (s : Shared) (H : Hp) (C : Addr) (cl : List (Str × Addr)) (fp : List Addr), PG (X.blk s H scope (compEnvC scope cl C X.env) fp) tg (tDG X.K G (own.map (·.2)) g)) (ht : ∀ (s : Shared) (H : Hp) (C : Addr) (cl : List (Str × Addr)) (fp : List Addr), PTs (X.blk s H scope (compEnvC scope cl C X.env) fp) ifs (tDT X.K G W0 tt))
    (he : ∀ (s : Shared) (H : Hp) (C : Addr) (cl : List (Str × Addr)) (fp : List Addr), PE (X.blk s H scope (compEnvC scope cl C X.env) fp) elt (tD X.K G W0 te)) (hs : ∀ x, foldedSetIterable iter X.env x = pure x := by intro _; rfl) (hG : G.ex = none := by rfl) :
    DS X G W (.Assign [.Name y py] (.ListComp elt [⟨tg, iter, ifs, 0⟩] scope pos) spos) (sAsg (eLc src (own.map (·.2)) g tt te) (gN i)) := ps_weak (ps_setLc hc hN hy hyl hsw hi ok hg ht he hs) fun De σ H ⟨S, ρ, re, h⟩ =>
  t_lc hG (W := W) (Q := fun x H1 => gName i x σ H1 De.nx) ⟨S, ρ, re, AfterS.toE h re fun d h v S1 H1 e1 s1 r1 => h _ S1 H1 e1.s (RE.set hG (re.grow e1 s1) i r1)⟩
end

/-! ### defs -/
/-- a def's value at its arguments: np parameters, n names -/
def runB (np n : Nat) (m : MS) : List D → Res D := fun ds => if ds.length = np then (m (ds.map .d ++ List.replicate (n - np) .no)).bind fun o => (match o with
  | .rt d => .ok d
  | .nx _ => .ok .non
  | _ => .stuck) else .stuck
def spD (K : PySem.W.Frag) (cls : Nat → Addr) (f : List D → Res D) : Sp := fun vs H Q E => ∃ S ds, Same S H ∧ Reps ⟨K, cls⟩ S vs ds ∧ match f ds with
  | .ok d => ∀ v S' H', Ext S H S' H' → Same S' H' → Rep ⟨K, cls⟩ S' v d → Q v H'
  | .ex c fs => ∀ dd S' H', Ext S H S' H' → Same S' H' → XdAt ⟨K, cls⟩ S' H' dd fs → E (.ref (cls c)) dd H'
  | .stuck => False
structure FnC (P : Program) (w : World) (K : PySem.W.Frag) (mg : Str → Option Value) (base : Heap) (cls : Nat → Addr) (k : Nat) (f : Addr) (fd : FuncData) (ps : List Str) (m : List D → Res D) : Prop where
  ok : FnOk P w K mg base (L2.CX P w) k f fd ps (spD K cls m)
  bind : Binds K fd ps []
  kp : PySem.W.keepIn
        K (.ref f) = true
/-- the module's def x -/
def Cal (P : Program) (w : World) (K : PySem.W.Frag) (mg : Str → Option Value) (base : Heap) (cls : Nat → Addr) (k : Nat) (x : Str) (m : List D → Res D) : Prop :=
  ∃ f fd ps, FnC P w K mg base cls k f fd ps m ∧ mg x = some (.ref f)
theorem start_re {K : PySem.W.Frag} {cls : Nat → Addr} {S H : Hp} {vs : List V} {ds : List D} {N : List Str} {np : Nat} (sub : Same S H) (r : Reps ⟨K, cls⟩ S vs ds) (hl : ds.length = np) (hn : np ≤ N.length) : RE K ⟨cls, H, S, none⟩ S H (start N vs) (ds.map .d ++ List.replicate (N.length - np) .no) := by
  have hv := r.length
  refine ⟨sub, .refl _ _, by simp [start, hv, hl], fun i x e => ?_, fun i x p e o s => ?_, fun i a dd c fs h => by cases h⟩
  · by_cases hi : i < ds.length
    · rw [List.getElem?_append_left (by simpa using hi), List.getElem?_map] at e
      obtain ⟨d, hd, rfl⟩ := Option.map_eq_some_iff.mp e
      have hiv : i < vs.length := by omega
      refine ⟨some vs[i], by unfold start; rw [List.getElem?_append_left (by simpa using hiv), List.getElem?_map, List.getElem?_eq_getElem hiv]; rfl, vs[i], rfl, ?_⟩
      obtain ⟨d', h1, h2⟩ := r.get (List.getElem?_eq_getElem hiv)
      rw [hd] at h1
      cases h1
      exact h2
    · rw [List.getElem?_append_right (by simpa using hi), List.getElem?_replicate] at e
      split at e
      · rename_i hlt
        cases e
        simp only [List.length_map] at hlt
        refine ⟨none, ?_, trivial⟩
        unfold start
        rw [List.getElem?_append_right (by simp; omega), List.getElem?_replicate, if_pos (by simp; omega)]
      · cases e
  · exfalso
    by_cases hi : i < ds.length
    · rw [List.getElem?_append_left (by simpa using hi), List.getElem?_map] at e
      obtain ⟨d, hd, rfl⟩ := Option.map_eq_some_iff.mp e
      cases o
    · rw [List.getElem?_append_right (by simpa using hi), List.getElem?_replicate] at e
      split at e
      · cases e; cases o
      · cases e
section
variable {P : Program} {w : World} {K : PySem.W.Frag} {mg : Str → Option Value} {base : Heap} {cls : Nat → Addr} {k : Nat} {x qual : Str} {params : Arguments} {body : List Stmt} {scope : Scope} {f : Addr} {fd : FuncData} {N ps : List Str} {m : MS}
/-- a def by its body; one that lets nothing out: PSs.nox of it -/
theorem fnC_of (F : FunD K x qual params body scope [] [] f fd) (S : FnScope N ps scope) (hb : ∀ (kV doc pm : Value) (an : Option Addr) (cdv ct : Value) (us : List Value), us.length = ps.length → bindArgs (PySem.W.fnOf x qual params body scope .none kV doc pm an cdv ct) ⟨us, []⟩ = pure (ps.zip us))
    (hN : ps.length ≤ N.length)
    (hbody : ∀ (cdv : Value) (A : Around) (outer : List Env) (s : Shared) (H : Hp) (E : XK) (H0 S0 : Hp), Room k (A.deeper (envOfC qual scope s.heap.objs.size f cdv)) →
      PSs (cxOf (L2.CX P w) P w K mg base N qual scope f cdv A outer s H E) body (tDS K ⟨cls, H0, S0, none⟩ (fun c d _ H => E c d H) m)) : FnC P w K mg base cls (k + 1) f fd ps (runB ps.length N.length m) := by
  refine ⟨F.ok S (fun vs H Q E h => ?_) (fun cdv A outer s H vs Q E hr h => ?_), F.bindsN hb, F.kp⟩
  · obtain ⟨S1, ds, sub, r, h⟩ := h
    unfold runB at h
    split at h
    all_goals (try exact h.elim)
    all_goals
      rename_i e
      split at e
      · rename_i hl
        rw [r.length]; exact hl
      · cases e
  · obtain ⟨S1, ds, sub, r, h⟩ := h
    refine ⟨tDS K ⟨cls, H, S1, none⟩ (fun c d _ H => E c d H) m, hbody cdv A outer s H E H S1 hr, ?_⟩
    unfold runB at h
    by_cases hl : ds.length = ps.length
    · rw [if_pos hl] at h
      refine ⟨S1, _, start_re sub r hl hN, ?_⟩
      cases e : m (ds.map .d ++ List.replicate (N.length - ps.length) .no) with
      | stuck => rw [e] at h; exact h.elim
      | ex c fs => rw [e] at h; exact fun dd σ' S' H' e s x => h dd S' H' e s x
      | ok o =>
        rw [e] at h
        cases o with
        | nx ρ' => exact fun σ' S' H' s re' => h .non S' H' re'.ext re'.sub .non
        | rt d => exact fun v S' H' e s r => h v S' H' e s r
        | bk _ => exact h.elim
        | ct _ => exact h.elim
    · rw [if_neg hl] at h; exact h.elim
end
end L2.DL
namespace L2.DL
open PySem PyProof.Rows PySem.Spec
/-! ### calls -/
def eCallN (f : List D → Res D) (as : MA) : ME := fun ρ => (as ρ).bind fun xs => nox (f xs)
section
variable {X : Cx} {G : GC} {W : WX} {e o : Expr} {es : List Expr} {mas : MA} {me mo : ME} {p pos apos : Pos} {x y : Str} {k : Nat} {m : List D → Res D}
theorem t_callN {K : PySem.W.Frag} {σ : St} {H : Hp} {Q : VK} (h : tD K G W (eCallN m mas) σ H Q) : tCall (spD K G.cls m) [] E0 (tDA K G W mas) σ H Q := by
  obtain ⟨S, ρ, re, h⟩ := h
  refine ⟨S, ρ, re, After.bind h fun xs h vs S1 H1 e1 s1 r1 => ?_⟩
  refine ⟨S1, xs, s1, by rw [List.append_nil]; exact r1, ?_⟩
  cases q : m xs with
  | stuck => rw [q] at h; exact h.elim
  | ex c fs => rw [q] at h; exact h.elim
  | ok d => rw [q] at h; exact fun v S2 H2 e2 s2 r2 => h v S2 H2 (e1.trans e2) s2 r2
/-- f(e, ..), nothing is raised -/
theorem de_call (C : Cal X.prog X.w X.K X.mg X.base G.cls k x m) (hr : Room k X.A) (hg : Gl X x) (ha : DA X G W (e :: es) mas)
    (hdb : (x == ("__debug__" : Str)) = false := by decide) (he : starEach (e :: es) X.env = (false, eval e
          X.env) :: starEach es X.env := by rfl) (hpl : (backTo pos (starEach es X.env)).any (·.1) = false := by rfl) :
    DE X G W (.Call (.Name x p) (e :: es) [] pos) (eCallN m mas) := by
  obtain ⟨f, fd, ps, F, hm⟩ := C
  exact pe_weak (pe_call F.ok hr hg hm F.kp F.bind .nil passL ha hdb he hpl) fun _ _ _ => t_callN
/-- f(e, ..), what it raises goes on -/
theorem de_callX (C : Cal X.prog X.w X.K X.mg X.base G.cls k x m) (hr : Room k X.A) (hg : Gl X x) (tk : Takes X W) (ha : DA X G W (e :: es) mas)
    (hdb : (x == ("__debug__" : Str)) = false := by decide) (he : starEach (e :: es) X.env = (false, eval e
          X.env) :: starEach es X.env := by rfl) (hpl : (backTo pos (starEach es X.env)).any (·.1) = false := by rfl) :
    DE X G W (.Call (.Name x p) (e :: es) [] pos) (eCall m mas) := by
  obtain ⟨f, fd, ps, F, hm⟩ := C
  refine pe_weak (pe_callS F.ok hr hg hm F.kp F.bind (fun σ => passAt tk σ) ha hdb he hpl) fun σ H Q ⟨S, ρ, re, h⟩ => ?_
  refine ⟨S, ρ, re, After.bind h fun xs h vs S1 H1 e1 s1 r1 => ?_⟩
  refine ⟨S1, xs, s1, r1, ?_⟩
  cases q : m xs with
  | stuck => rw [q] at h; exact h.elim
  | ex c fs => rw [q] at h; exact fun dd S2 H2 e2 s2 x => h dd S2 H2 (e1.trans e2) s2 x
  | ok d => rw [q] at h; exact fun v S2 H2 e2 s2 r2 => h v S2 H2 (e1.trans e2) s2 r2

/-! ### built-ins -/
theorem de_fnB {g : List D → Option D} {id : String} (hc : CallR X (.builtin id) (rDn (G.R X.K) g)) (hg : Gl X x) (hm : X.mg x = none) (hv : bootBuiltins x = some (.builtin id)) (ha : DA X G W (e :: es) mas) (hn : x ≠ "__name__" := by decide) (hdb : (x == ("__debug__" : Str)) = false := by decide)
    (he : starEach (e :: es) X.env = (false, eval e X.env) :: starEach es X.env := by rfl) (hpl : (backTo pos (starEach es X.env)).any (·.1) = false := by rfl) : DE X G W (.Call (.Name x p) (e :: es) [] pos) (eFn g mas) :=
  pe_weak (pe_callB hc hg hm hv ha hn hdb he hpl) fun _ _ _ => t_fn
theorem de_fnT {g : List D → Option D} {id : String} (hc : CallR X (.type id) (rDn (G.R X.K) g)) (hg : Gl X x) (hm : X.mg x = none) (hv : bootBuiltins x = some (.type id)) (ha : DA X G W (e :: es) mas) (hn : x ≠ "__name__" := by decide) (hdb : (x == ("__debug__" : Str)) = false := by decide)
    (he : starEach (e :: es) X.env = (false, eval e X.env) :: starEach es X.env := by rfl) (hpl : (backTo pos (starEach es X.env)).any (·.1) = false := by rfl) : DE X G W (.Call (.Name x p) (e :: es) [] pos) (eFn g mas) :=
  pe_weak (pe_callTy hc hg hm hv ha hn hdb he hpl) fun _ _ _ => t_fn
/-- gcd, a module's name for a built-in function -/
theorem de_fnM {g : List D → Option D} {id : String} (hc : CallR X (.builtin id) (rDn (G.R X.K) g)) (hg : Gl X x) (hm : X.mg x = some (.builtin id)) (ha : DA X G W (e :: es) mas) (hdb : (x == ("__debug__" : Str)) = false := by decide)
    (he : starEach (e :: es) X.env = (false, eval e X.env) :: starEach es X.env := by rfl) (hpl : (backTo pos (starEach es X.env)).any (·.1) = false := by rfl) : DE X G W (.Call (.Name x p) (e :: es) [] pos) (eFn g mas) :=
  pe_weak (pe_callBfun hc hg hm ha hdb he hpl) fun _ _ _ => t_fn
def fLen : List D → Option D
  | [.lst xs] => some (.int xs.length)
  | [.ro xs] => some (.int xs.length)
  | [.tup xs] => some (.int xs.length)
  | [.str x] => if x.length ≤ sizeLine then some (.int x.length) else none
  | _ => none
def fAbs : List D → Option D
  | [.int i] => some (.int i.natAbs)
  | _ => none
def fInt : List D → Option D
  | [.int i] => some (.int i)
  | [.bl b] => some (.int (if b then 1 else 0))
  | [.str x] => if x.length ≤ 640 then (PySem.intText? x).map .int else none
  | _ => none
def fStr : List D → Option D
  | [.int i] => if i.natAbs.log2 < 1920 then some (.str (toString i)) else none
  | _ => none
def fTup : List D → Option D
  | [.lst xs] => some (.tup xs)
  | [.tup xs] => some (.tup xs)
  | _ => none
def fList : List D → Option D
  | [.lst xs] => some (.lst xs)
  | [.ro xs] => some (.lst xs)
  | [.tup xs] => some (.lst xs)
  | _ => none
def fSum : List D → Option D
  | [.lst xs] => (intsD xs).map fun ns => .int ns.sum
  | [.ro xs] => (intsD xs).map fun ns => .int ns.sum
  | _ => none
def minI : List Int → Option Int
  | [] => none
  | x :: xs => some (xs.foldl (fun a b => if b < a then b else a) x)
def maxI : List Int → Option Int
  | [] => none
  | x :: xs => some (xs.foldl (fun a b => if a < b then b else a) x)
def fMin : List D → Option D
  | [.lst xs] => (intsD xs).bind fun ns => (minI ns).map .int
  | [.int a, .int b] => some (.int (if b < a then b else a))
  | _ => none
def fMax : List D → Option D
  | [.lst xs] => (intsD xs).bind fun ns => (maxI ns).map .int
  | [.int a, .int b] => some (.int (if b > a then b else a))
  | _ => none
def blsD : List D → Option (List Bool)
  | [] => some []
  | .bl b :: r => (blsD r).map (b :: ·)
  | _ => none
def fAny : List D → Option D
  | [.lst xs] => (blsD xs).map fun bs => .bl (bs.any id)
  | _ => none
def fAll : List D → Option D
  | [.lst xs] => (blsD xs).map fun bs => .bl (bs.all id)
  | _ => none
def fGcd : List D → Option D
  | [.int a, .int b] => some (.int ((Nat.gcd a.natAbs b.natAbs : Nat) : Int))
  | _ => none
theorem blsD_vals {R : RC} {S : Hp} : ∀ {ds : List D} {vs : List V} {ns : List Bool}, Reps R S vs ds → blsD ds = some ns → vs = ns.map V.bl
  | [], _, _, .nil, e => by cases e; rfl
  | d :: ds, _, _, .cons h1 h2, e => by
    cases d <;> simp only [blsD, Option.map_eq_some_iff, reduceCtorEq] at e
    obtain ⟨r, e1, e2⟩ := e
    subst e2
    cases h1
    rw [blsD_vals h2 e1]; rfl
theorem rep_one {R : RC} {S : Hp} {vs : List V} {d : D} (h : Reps R S vs [d]) : ∃ v, vs = [v] ∧ Rep R S v d := by
  cases h with
  | cons h1 h2 => cases h2; exact ⟨_, rfl, h1⟩
theorem rep_two {R : RC} {S : Hp} {vs : List V} {d e : D} (h : Reps R S vs [d, e]) : ∃ v u, vs = [v, u] ∧ Rep R S v d ∧ Rep R S u e := by
  cases h with
  | cons h1 h2 =>
    cases h2 with
    | cons h2 h3 => cases h3; exact ⟨_, _, rfl, h1, h2⟩
/-- a sequence that is read -/
theorem Rep.lstq {R : RC} {S : Hp} {v : V} {xs : List D} (h : Rep R S v (.lst xs)) : ∃ p vs, v = .ref p ∧ S p = some (.lst vs) ∧ Reps R S vs xs := by
  cases h with | lst a b => exact ⟨_, _, rfl, a, b⟩
theorem Rep.roq {R : RC} {S : Hp} {v : V} {xs : List D} (h : Rep R S v (.ro xs)) : ∃ p vs, v = .ref p ∧ SqL R.K S p vs ∧ Reps R S vs xs := by
  cases h with | ro a b => exact ⟨_, _, rfl, a, b⟩
theorem Rep.tupq {R : RC} {S : Hp} {v : V} {xs : List D} (h : Rep R S v (.tup xs)) : ∃ p vs, v = .ref p ∧ SqT R.K S p vs ∧ Reps R S vs xs := by
  cases h with | tup a b => exact ⟨_, _, rfl, a, b⟩
theorem cs_len : CallR X (.builtin "len") (rDn (G.R X.K) fLen) := CallR.weak call_len fun vs H Q ⟨S, ds, z, sub, r, e, q⟩ => by
  unfold fLen at e
  split at e
  · cases e
    obtain ⟨v, rfl, r1⟩ := rep_one r
    obtain ⟨p, ws, rfl, h1, h2⟩ := r1.lstq
    exact ⟨_, ws.length, rfl, .inl ⟨ws, SqL.of (sub _ _ h1), rfl⟩, by rw [h2.length]; exact give_int sub q⟩
  · cases e
    obtain ⟨v, rfl, r1⟩ := rep_one r
    obtain ⟨p, ws, rfl, h1, h2⟩ := r1.roq
    exact ⟨_, ws.length, rfl, .inl ⟨ws, same_sqL sub h1, rfl⟩, by rw [h2.length]; exact give_int sub q⟩
  · cases e
    obtain ⟨v, rfl, r1⟩ := rep_one r
    obtain ⟨p, ws, rfl, h1, h2⟩ := r1.tupq
    exact ⟨_, ws.length, rfl, .inr ⟨ws, same_sqT sub h1, rfl⟩, by rw [h2.length]; exact give_int sub q⟩
  · split at e
    · rename_i hl
      cases e
      obtain ⟨v, rfl, r1⟩ := rep_one r
      cases r1
      exact ⟨_, _, rfl, ⟨hl, rfl⟩, give_int sub q⟩
    · cases e
  · cases e
theorem cs_abs : CallR X (.builtin "abs") (rDn (G.R X.K) fAbs) := CallR.weak call_abs fun vs H Q ⟨S, ds, z, sub, r, e, q⟩ => by
  unfold fAbs at e
  split at e
  · cases e
    rename_i i
    obtain ⟨v, rfl, r1⟩ := rep_one r
    cases r1
    have e : (if i < 0 then -i else i) = (i.natAbs : Int) := by split <;> omega
    exact ⟨i, rfl, by rw [e]; exact give_int sub q⟩
  · cases e
theorem cs_int : CallR X (.type "int") (rDn (G.R X.K) fInt) := CallR.weak (call_int1.or call_int_str) fun vs H Q ⟨S, ds, z, sub, r, e, q⟩ => by
  unfold fInt at e
  split at e
  · cases e
    obtain ⟨v, rfl, r1⟩ := rep_one r
    cases r1
    exact .inl (.inl ⟨_, rfl, give_int sub q⟩)
  · cases e
    obtain ⟨v, rfl, r1⟩ := rep_one r
    cases r1
    exact .inl (.inr ⟨_, rfl, give_int sub q⟩)
  · split at e
    · rename_i hl
      obtain ⟨n, e1, rfl⟩ := Option.map_eq_some_iff.mp e
      obtain ⟨v, rfl, r1⟩ := rep_one r
      cases r1
      exact .inr ⟨_, n, rfl, e1, hl, give_int sub q⟩
    · cases e
  · cases e
theorem cs_str : CallR X (.type "str") (rDn (G.R X.K) fStr) := CallR.weak call_str_int fun vs H Q ⟨S, ds, z, sub, r, e, q⟩ => by
  unfold fStr at e
  split at e
  · split at e
    · rename_i hl
      cases e
      obtain ⟨v, rfl, r1⟩ := rep_one r
      cases r1
      exact ⟨_, rfl, hl, give_str sub q⟩
    · cases e
  · cases e
theorem cs_gcd : CallR X (.builtin "math.gcd") (rDn (G.R X.K) fGcd) := CallR.weak cr_gcd fun vs H Q ⟨S, ds, z, sub, r, e, q⟩ => by
  unfold fGcd at e
  split at e
  · cases e
    obtain ⟨v, u, rfl, r1, r2⟩ := rep_two r
    cases r1; cases r2
    exact ⟨_, _, rfl, give_int sub q⟩
  · cases e
theorem cs_sum (hc : X.calm = true) : CallR X (.builtin "sum") (rDn (G.R X.K) fSum) := CallR.weak (cr_sum hc) fun vs H Q ⟨S, ds, z, sub, r, e, q⟩ => by
  unfold fSum at e
  split at e
  · obtain ⟨ns, e1, rfl⟩ := Option.map_eq_some_iff.mp e
    obtain ⟨v, rfl, r1⟩ := rep_one r
    obtain ⟨p, ws, rfl, h1, h2⟩ := r1.lstq
    have := intsD_vals h2 e1
    subst this
    exact ⟨p, ns, rfl, SqL.of (sub _ _ h1), give_int sub q⟩
  · obtain ⟨ns, e1, rfl⟩ := Option.map_eq_some_iff.mp e
    obtain ⟨v, rfl, r1⟩ := rep_one r
    obtain ⟨p, ws, rfl, h1, h2⟩ := r1.roq
    have := intsD_vals h2 e1
    subst this
    exact ⟨p, ns, rfl, same_sqL sub h1, give_int sub q⟩
  · cases e
theorem minI_is {ns : List Int} {m : Int} (h : minI ns = some m) : m ∈ ns ∧ ∀ y ∈ ns, m ≤ y := by
  cases ns with
  | nil => cases h
  | cons x xs =>
    have key : ∀ (l : List Int) (a : Int), (l.foldl (fun a b => if b < a then b else a) a) ∈ a :: l ∧ ∀ y ∈ a :: l, (l.foldl (fun a b => if b < a then b else a) a) ≤ y := by
      intro l
      induction l with
      | nil => intro a; exact ⟨by simp, fun y hy => by simp at hy; simp [hy]⟩
      | cons b l ih =>
        intro a
        simp only [List.foldl_cons]
        obtain ⟨h1, h2⟩ := ih (if b < a then b else a)
        refine ⟨?_, fun y hy => ?_⟩
        · rcases List.mem_cons.mp h1 with e | e
          · rw [e]; split <;> simp
          · simp [e]
        · have hm := h2 (if b < a then b else a) (by simp)
          (rcases List.mem_cons.mp hy with e | e)
          · subst e
            refine Int.le_trans hm ?_
            split <;> omega
          · (rcases List.mem_cons.mp e with e | e)
            · subst e
              refine Int.le_trans hm ?_
              split <;> omega
            · exact h2 y (by simp [e])
    cases h
    exact key xs x
theorem maxI_is {ns : List Int} {m : Int} (h : maxI ns = some m) : m ∈ ns ∧ ∀ y ∈ ns, y ≤ m := by
  cases ns with
  | nil => cases h
  | cons x xs =>
    have key : ∀ (l : List Int) (a : Int), (l.foldl (fun a b => if a < b then b else a) a) ∈ a :: l ∧ ∀ y ∈ a :: l, y ≤ (l.foldl (fun a b => if a < b then b else a) a) := by
      intro l
      induction l with
      | nil => intro a; exact ⟨by simp, fun y hy => by simp at hy; simp [hy]⟩
      | cons b l ih =>
        intro a
        simp only [List.foldl_cons]
        obtain ⟨h1, h2⟩ := ih (if a < b then b else a)
        refine ⟨?_, fun y hy => ?_⟩
        · rcases List.mem_cons.mp h1 with e | e
          · rw [e]; split <;> simp
          · simp [e]
        · have hm := h2 (if a < b then b else a) (by simp)
          (rcases List.mem_cons.mp hy with e | e)
          · subst e
            refine Int.le_trans ?_ hm
            split <;> omega
          · (rcases List.mem_cons.mp e with e | e)
            · subst e
              refine Int.le_trans ?_ hm
              split <;> omega
            · exact h2 y (by simp [e])
    cases h
    exact key xs x
theorem cs_min (hc : X.calm = true) : CallR X (.builtin "min") (rDn (G.R X.K) fMin) := CallR.weak ((cr_min hc).or (call_min2 hc)) fun vs H Q ⟨S, ds, z, sub, r, e, q⟩ => by
  unfold fMin at e
  split at e
  · obtain ⟨ns, e1, e⟩ := Option.bind_eq_some_iff.mp e
    obtain ⟨m, e2, rfl⟩ := Option.map_eq_some_iff.mp e
    obtain ⟨v, rfl, r1⟩ := rep_one r
    obtain ⟨p, ws, rfl, h1, h2⟩ := r1.lstq
    have := intsD_vals h2 e1
    subst this
    have hm := minI_is e2
    refine .inl ⟨p, ns, rfl, SqL.of (sub _ _ h1), List.length_pos_of_mem hm.1, fun m' h3 h4 => ?_⟩
    have : m' = m := Int.le_antisymm (h4 m hm.1) (hm.2 m' h3)
    rw [this]
    exact give_int sub q
  · cases e
    obtain ⟨v, u, rfl, r1, r2⟩ := rep_two r
    cases r1; cases r2
    exact .inr ⟨_, _, rfl, give_int sub q⟩
  · cases e
theorem cs_max (hc : X.calm = true) : CallR X (.builtin "max") (rDn (G.R X.K) fMax) := CallR.weak ((cr_max hc).or (call_max2 hc)) fun vs H Q ⟨S, ds, z, sub, r, e, q⟩ => by
  unfold fMax at e
  split at e
  · obtain ⟨ns, e1, e⟩ := Option.bind_eq_some_iff.mp e
    obtain ⟨m, e2, rfl⟩ := Option.map_eq_some_iff.mp e
    obtain ⟨v, rfl, r1⟩ := rep_one r
    obtain ⟨p, ws, rfl, h1, h2⟩ := r1.lstq
    have := intsD_vals h2 e1
    subst this
    have hm := maxI_is e2
    refine .inl ⟨p, ns, rfl, SqL.of (sub _ _ h1), List.length_pos_of_mem hm.1, fun m' h3 h4 => ?_⟩
    have : m' = m := Int.le_antisymm (hm.2 m' h3) (h4 m hm.1)
    rw [this]
    exact give_int sub q
  · cases e
    obtain ⟨v, u, rfl, r1, r2⟩ := rep_two r
    cases r1; cases r2
    exact .inr ⟨_, _, rfl, give_int sub q⟩
  · cases e
theorem cs_any (hc : X.calm = true) : CallR X (.builtin "any") (rDn (G.R X.K) fAny) := CallR.weak (cr_any hc) fun vs H Q ⟨S, ds, z, sub, r, e, q⟩ => by
  unfold fAny at e
  split at e
  · obtain ⟨ns, e1, rfl⟩ := Option.map_eq_some_iff.mp e
    obtain ⟨v, rfl, r1⟩ := rep_one r
    obtain ⟨p, ws, rfl, h1, h2⟩ := r1.lstq
    have := blsD_vals h2 e1
    subst this
    exact ⟨p, ns, rfl, SqL.of (sub _ _ h1), give_bl sub q⟩
  · cases e
theorem cs_all (hc : X.calm = true) : CallR X (.builtin "all") (rDn (G.R X.K) fAll) := CallR.weak (cr_all hc) fun vs H Q ⟨S, ds, z, sub, r, e, q⟩ => by
  unfold fAll at e
  split at e
  · obtain ⟨ns, e1, rfl⟩ := Option.map_eq_some_iff.mp e
    obtain ⟨v, rfl, r1⟩ := rep_one r
    obtain ⟨p, ws, rfl, h1, h2⟩ := r1.lstq
    have := blsD_vals h2 e1
    subst this
    exact ⟨p, ns, rfl, SqL.of (sub _ _ h1), give_bl sub q⟩
  · cases e
theorem cs_tup : CallR X (.type "tuple") (rDn (G.R X.K) fTup) := CallR.weak call_tuple_of fun vs H Q ⟨S, ds, z, sub, r, e, q⟩ => by
  unfold fTup at e
  split at e
  · cases e
    obtain ⟨v, rfl, r1⟩ := rep_one r
    obtain ⟨p, ws, rfl, h1, h2⟩ := r1.lstq
    exact ⟨p, ws, rfl, .inl ⟨SqL.of (sub _ _ h1), give_tup sub h2 q⟩⟩
  · cases e
    obtain ⟨v, rfl, r1⟩ := rep_one r
    obtain ⟨p, ws, rfl, h1, h2⟩ := r1.tupq
    exact ⟨p, ws, rfl, .inr ⟨same_sqT sub h1, give_rep sub (.tup h1 h2) q⟩⟩
  · cases e
theorem cs_list : CallR X (.type "list") (rDn (G.R X.K) fList) := CallR.weak call_list_of fun vs H Q ⟨S, ds, z, sub, r, e, q⟩ => by
  unfold fList at e
  split at e
  · cases e
    obtain ⟨v, rfl, r1⟩ := rep_one r
    obtain ⟨p, ws, rfl, h1, h2⟩ := r1.lstq
    exact ⟨p, ws, rfl, .inl (SqL.of (sub _ _ h1)), give_lst sub h2 q⟩
  · cases e
    obtain ⟨v, rfl, r1⟩ := rep_one r
    obtain ⟨p, ws, rfl, h1, h2⟩ := r1.roq
    exact ⟨p, ws, rfl, .inl (same_sqL sub h1), give_lst sub h2 q⟩
  · cases e
    obtain ⟨v, rfl, r1⟩ := rep_one r
    obtain ⟨p, ws, rfl, h1, h2⟩ := r1.tupq
    exact ⟨p, ws, rfl, .inr (same_sqT sub h1), give_lst sub h2 q⟩
  · cases e

/-! ### subscripts, slices -/
def oIx : D → D → Option D
  | .lst xs, .int i => atI xs i
  | .ro xs, .int i => atI xs i
  | .tup xs, .int i => atI xs i
  | .str x, .int i => if x.length ≤ sizeLine then (atI x.cps.toList i).map fun c => .str ⟨#[c]⟩ else none
  | _, _ => none
theorem atI_rep {R : RC} {S : Hp} {vs : List V} {ds : List D} {i : Int} {d : D} (r : Reps R S vs ds) (h : atI ds i = some d) : ∃ v, atI vs i = some v ∧ Rep R S v d := by
  unfold atI at h ⊢
  rw [r.length]
  obtain ⟨j, h1, h2⟩ := Option.bind_eq_some_iff.mp h
  have hl : j < vs.length := by rw [r.length]; exact (List.getElem?_eq_some_iff.mp h2).1
  obtain ⟨d', e1, e2⟩ := r.get (List.getElem?_eq_getElem hl)
  rw [h2] at e1
  cases e1
  exact ⟨vs[j], by rw [h1]; exact List.getElem?_eq_getElem hl, e2⟩
theorem xs_ix : IxR X (rD2 (G.R X.K) oIx) := IxR.weak ix_seq fun x y H Q ⟨S, dx, dy, z, sub, rx, ry, e, q⟩ => by
  unfold oIx at e
  split at e
  · obtain ⟨p, ws, rfl, h1, h2⟩ := rx.lstq
    cases ry
    obtain ⟨v, e1, e2⟩ := atI_rep h2 e
    exact .inl ⟨p, ws, _, v, rfl, rfl, SqL.of (sub _ _ h1), e1, give_rep sub e2 q⟩
  · obtain ⟨p, ws, rfl, h1, h2⟩ := rx.roq
    cases ry
    obtain ⟨v, e1, e2⟩ := atI_rep h2 e
    exact .inl ⟨p, ws, _, v, rfl, rfl, same_sqL sub h1, e1, give_rep sub e2 q⟩
  · obtain ⟨p, ws, rfl, h1, h2⟩ := rx.tupq
    cases ry
    obtain ⟨v, e1, e2⟩ := atI_rep h2 e
    exact .inr (.inl ⟨p, ws, _, v, rfl, rfl, same_sqT sub h1, e1, give_rep sub e2 q⟩)
  · split at e
    · rename_i hl
      cases rx; cases ry
      obtain ⟨c, e1, rfl⟩ := Option.map_eq_some_iff.mp e
      exact .inr (.inr ⟨_, _, c, rfl, rfl, hl, e1, give_str sub q⟩)
    · cases e
  · cases e
/-- a part of a slice -/
abbrev MO := List Sl → Res (Option Int)
def pNo : MO := fun _ => .ok none
def pE (a : ME) : MO := fun ρ => (a ρ).bind fun d => match d with
  | .int i => .ok (some i)
  | _ => .stuck
def tDO (K : PySem.W.Frag) (G : GC) (W : WX) (m : MO) : TO := fun σ H Q => ∃ S ρ, RE K G S H σ ρ ∧
  After K G W S H σ (m ρ) fun o => ∀ S' H', Ext S H S' H' → Same S' H' → Q o H'
theorem po_weak {e : Option Expr} {t t' : TO} (h : PO X e t) (i : ∀ σ H Q, t' σ H Q → t σ H Q) : PO X e t' := ⟨fun pins s σ H Q I q => h.run pins s σ H Q I (i σ H Q q)⟩
theorem dp_no : PO X none (tDO X.K G W pNo) := po_weak po_none fun σ H Q ⟨S, ρ, re, h⟩ => h S H (.refl _ _) re.sub
theorem dp_e {a : Expr} {ma : ME} (h : DE X G W a ma) : PO X (some a) (tDO X.K G W (pE ma)) := po_weak (po_some h) fun σ H Q ⟨S, ρ, re, h⟩ => by
  refine ⟨S, ρ, re, After.bind h fun x h v S1 H1 e1 s1 r1 => ?_⟩
  cases x <;> (try exact h.elim)
  cases r1
  exact ⟨_, rfl, h S1 H1 e1 s1⟩
def cutL (xs : List D) (lo hi : Option Int) : List D := (xs.drop (HT.sIx xs.length 0 lo)).take (HT.sIx xs.length xs.length hi - HT.sIx xs.length 0 lo)
def oCut (d : D) (lo hi : Option Int) : Option D := match d with
  | .lst xs => some (.lst (cutL xs lo hi))
  | .ro xs => some (.lst (cutL xs lo hi))
  | .tup xs => some (.tup (cutL xs lo hi))
  | .str x => if x.length ≤ sizeLine then some (.str (cutS x lo hi)) else none
  | _ => none
def eCut (a : ME) (lo hi : MO) : ME := fun ρ => (a ρ).bind fun d => (lo ρ).bind fun l => (hi ρ).bind fun u => lift (oCut d l u)
theorem Reps.take {R : RC} {S : Hp} : ∀ {vs : List V} {ds : List D} (n : Nat), Reps R S vs ds → Reps R S (vs.take n) (ds.take n)
  | _, _, 0, _ => .nil
  | _, _, _ + 1, .nil => .nil
  | _, _, n + 1, .cons h1 h2 => .cons h1 (Reps.take n h2)
theorem Reps.drop {R : RC} {S : Hp} : ∀ {vs : List V} {ds : List D} (n : Nat), Reps R S vs ds → Reps R S (vs.drop n) (ds.drop n)
  | _, _, 0, h => h
  | _, _, _ + 1, .nil => .nil
  | _, _, n + 1, .cons _ h2 => Reps.drop n h2
theorem Reps.cut {R : RC} {S : Hp} {vs : List V} {ds : List D} (h : Reps R S vs ds) (lo hi : Option Int) : Reps R S (cutV vs lo hi) (cutL ds lo hi) := by
  unfold cutV cutL
  rw [h.length]
  exact (h.drop _).take _
theorem cut_whole {xs : List D} {lo hi : Option Int} (h : HT.sIx xs.length 0 lo = 0 ∧ HT.sIx xs.length xs.length hi = xs.length) : cutL xs lo hi = xs := by
  unfold cutL
  rw [h.1, h.2, List.drop_zero, Nat.sub_zero, List.take_length]
theorem de_cut {a : Expr} {ma : ME} {lo hi : Option Expr} {ml mh : MO} {p2 : Pos} (ha : DE X G W a ma) (hl : PO X lo (tDO X.K G W ml)) (hh : PO X hi (tDO X.K G W mh)) : DE X G W (.Subscript a (.Slice lo hi none p2) pos) (eCut ma ml mh) :=
  pe_weak (pe_slice (sl_list.or (sl_tupA.or sl_str)) ha hl hh) fun σ H Q ⟨S, ρ, re, h⟩ => by
    refine ⟨S, ρ, re, After.bind h fun x h v S1 H1 e1 s1 r1 => ?_⟩
    refine ⟨S1, ρ, re.grow e1 s1, After.bind (After.ext e1 h fun _ q => q) fun l h S2 H2 e2 s2 => ?_⟩
    refine ⟨S2, ρ, (re.grow e1 s1).grow e2 s2, After.bind (After.ext e2 h fun _ q => q) fun u h S3 H3 e3 s3 => ?_⟩
    have r1 := (r1.mono e2.s).mono e3.s
    obtain ⟨z, hz, q⟩ := After.lift h
    have q' : Give (G.R X.K) S3 H3 z Q := fun u S' H' e s r => q u S' H' (((e1.trans e2).trans e3).trans e) s r
    unfold oCut at hz
    split at hz
    · cases hz
      obtain ⟨p, ws, rfl, h1, h2⟩ := r1.lstq
      exact .inl ⟨p, ws, rfl, SqL.of (s3 _ _ h1), give_lst s3 (h2.cut _ _) q'⟩
    · cases hz
      obtain ⟨p, ws, rfl, h1, h2⟩ := r1.roq
      exact .inl ⟨p, ws, rfl, same_sqL s3 h1, give_lst s3 (h2.cut _ _) q'⟩
    · cases hz
      obtain ⟨p, ws, rfl, h1, h2⟩ := r1.tupq
      refine .inr (.inl ⟨p, ws, rfl, same_sqT s3 h1, fun hw => ?_, fun _ => give_tup s3 (h2.cut _ _) q'⟩)
      rw [h2.length] at hw
      rw [cut_whole hw] at q'
      exact give_rep s3 (.tup h1 h2) q'
    · split at hz
      · rename_i hl
        cases hz
        cases r1
        exact .inr (.inr ⟨_, rfl, hl, give_str s3 q'⟩)
      · cases hz
    · cases hz
/-! ### methods of texts -/
def eMs (g : Str → List D → Option D) (a : ME) (as : MA) : ME := fun ρ => (a ρ).bind fun x => match x with
  | .str z => (as ρ).bind fun xs => lift (g z xs)
  | _ => .stuck
def rDs (R : RC) (g : Str → List D → Option D) : V → List V → Hp → VK → Prop := fun v vs H Q => ∃ S a xs z, Same S H ∧ v = .str a ∧ Reps R S vs xs ∧ g a xs = some z ∧ Give R S H z Q
theorem MtR.weak {id : String} {r r' : V → List V → Hp → VK → Prop} (h : MtR X id r) (i : ∀ x xs H Q, r' x xs H Q → r x xs H Q) : MtR X id r' := fun pins s σ H x xs v us Q I rx rs q => h pins s σ H x xs v us Q I rx rs (i _ _ _ _ q)
theorem t_m1 {K : PySem.W.Frag} {g : Str → List D → Option D} {σ : St} {H : Hp} {Q : VK} (h : tD K G W (eMs g mo (aCons me aNil)) σ H Q) : tM1 (rDs (G.R K) g) (tD K G W mo) (tD K G W me) σ H Q := by
  obtain ⟨S, ρ, re, h⟩ := h
  refine ⟨S, ρ, re, After.bind h fun x h v S1 H1 e1 s1 r1 => ?_⟩
  have re1 := re.grow e1 s1
  cases x <;> (try exact h.elim)
  rename_i a
  cases r1
  refine ⟨⟨_, rfl⟩, S1, ρ, re1, ?_⟩
  refine After.bind (f := fun y => (aNil ρ).bind fun ys => lift (g a (y :: ys))) (After.ext e1 (k := fun d => ∀ v S' H', Ext S H S' H' → Same S' H' → Rep (G.R K) S' v d → Q v H') (by
    have e : ((aCons me aNil ρ).bind fun xs => lift (g a xs)) = (me ρ).bind fun y => (aNil ρ).bind fun ys => lift (g a (y :: ys)) := by
      unfold aCons
      cases me ρ <;> rfl
    rw [← e]; exact h) fun _ q => q) fun y h w S2 H2 e2 s2 r2 => ?_
  obtain ⟨z, hz, q⟩ := After.lift h
  exact ⟨S2, a, [y], z, s2, rfl, .cons r2 .nil, hz, fun u S3 H3 e3 s3 r3 => q u S3 H3 ((e1.trans e2).trans e3) s3 r3⟩
theorem t_m0 {K : PySem.W.Frag} {g : Str → List D → Option D} {σ : St} {H : Hp} {Q : VK} (h : tD K G W (eMs g mo aNil) σ H Q) : tM0 (rDs (G.R K) g) (tD K G W mo) σ H Q := by
  obtain ⟨S, ρ, re, h⟩ := h
  refine ⟨S, ρ, re, After.bind h fun x h v S1 H1 e1 s1 r1 => ?_⟩
  cases x <;> (try exact h.elim)
  rename_i a
  cases r1
  obtain ⟨z, hz, q⟩ := After.lift (o := g a []) h
  exact ⟨⟨_, rfl⟩, S1, a, [], z, s1, rfl, .nil, hz, fun u S3 H3 e3 s3 r3 => q u S3 H3 (e1.trans e3) s3 r3⟩
/-- a new list of texts -/
def strsD (xs : List Str) : List D := xs.map .str
theorem reps_strs {R : RC} {S : Hp} : ∀ xs : List Str, Reps R S (xs.map V.str) (strsD xs)
  | [] => .nil
  | x :: xs => .cons (.str x) (reps_strs xs)
def toStrs : List D → Option (List Str)
  | [] => some []
  | .str x :: r => (toStrs r).map (x :: ·)
  | _ => none
theorem toStrs_vals {R : RC} {S : Hp} : ∀ {ds : List D} {vs : List V} {ns : List Str}, Reps R S vs ds → toStrs ds = some ns → vs = ns.map V.str
  | [], _, _, .nil, e => by cases e; rfl
  | d :: ds, _, _, .cons h1 h2, e => by
    cases d <;> simp only [toStrs, Option.map_eq_some_iff, reduceCtorEq] at e
    obtain ⟨r, e1, e2⟩ := e
    subst e2
    cases h1
    rw [toStrs_vals h2 e1]; rfl
def gSplit (a : Str) : List D → Option D
  | [.str b] => if (b.length == 0) = false ∧ a.length + 2 ≤ sizeLine then some (.lst (strsD (Txt.split a b))) else none
  | _ => none
def gPart (a : Str) : List D → Option D
  | [.str b] => if (b.length == 0) = false ∧ a.length ≤ sizeLine then some (.tup [.str (Txt.partition a b).1, .str (Txt.partition a b).2.1, .str (Txt.partition a b).2.2]) else none
  | _ => none
def gJoin (a : Str) : List D → Option D
  | [.lst xs] => (toStrs xs).bind fun ys => if (ys.map (·.length)).sum + ys.length * a.length ≤ 16777216 then some (.str (Txt.join a ys)) else none
  | _ => none
def gUpper (a : Str) : List D → Option D
  | [] => if a.length ≤ 5592405 then some (.str (Txt.upper a)) else none
  | _ => none
theorem ms_split : MtR X "str.split" (rDs (G.R X.K) gSplit) := MtR.weak mt_split fun v vs H Q ⟨S, a, xs, z, sub, ev, r, e, q⟩ => by
  unfold gSplit at e
  split at e
  · split at e
    · rename_i h
      cases e
      obtain ⟨u, rfl, r1⟩ := rep_one r
      cases r1
      exact ⟨a, _, ev, rfl, h.1, h.2, give_lst sub (reps_strs _) q⟩
    · cases e
  · cases e
theorem ms_part : MtR X "str.partition" (rDs (G.R X.K) gPart) := MtR.weak mt_partition fun v vs H Q ⟨S, a, xs, z, sub, ev, r, e, q⟩ => by
  unfold gPart at e
  split at e
  · split at e
    · rename_i h
      cases e
      obtain ⟨u, rfl, r1⟩ := rep_one r
      cases r1
      exact ⟨a, _, ev, rfl, h.1, h.2, give_tup sub (.cons (.str _) (.cons (.str _) (.cons (.str _) .nil))) q⟩
    · cases e
  · cases e
theorem ms_join : MtR X "str.join" (rDs (G.R X.K) gJoin) := MtR.weak mt_join fun v vs H Q ⟨S, a, xs, z, sub, ev, r, e, q⟩ => by
  unfold gJoin at e
  split at e
  · obtain ⟨ys, e1, e⟩ := Option.bind_eq_some_iff.mp e
    split at e
    · rename_i h
      cases e
      obtain ⟨u, rfl, r1⟩ := rep_one r
      obtain ⟨p, ws, rfl, h1, h2⟩ := r1.lstq
      have := toStrs_vals h2 e1
      subst this
      exact ⟨a, p, ys, ev, rfl, .inl (SqL.of (sub _ _ h1)), h, give_str sub q⟩
    · cases e
  · cases e
theorem ms_upper : MtR X "str.upper" (rDs (G.R X.K) gUpper) := MtR.weak mt_upper fun v vs H Q ⟨S, a, xs, z, sub, ev, r, e, q⟩ => by
  unfold gUpper at e
  split at e
  · split at e
    · rename_i h
      cases e
      cases r
      exact ⟨a, ev, rfl, h, give_str sub q⟩
    · cases e
  · cases e
theorem de_m1 {id : String} {name : Str} {g : Str → List D → Option D} (slot : Slot "str" name id) (ty : typeOf (.builtin id) = pure (.type "method_descriptor")) (rule : MtR X id (rDs (G.R X.K) g)) (ho : DE X G W o mo) (he : DE X G W e me) (hs : starEach [e] X.env = [(false, eval e X.env)] := by rfl)
    (hbase : attributeBase o name X.env (eval o X.env) = eval o X.env := by rfl) (hline : (apos.endLine == pos.line) = true := by rfl) : DE X G W (.Call (.Attribute o name apos) [e] [] pos) (eMs g mo (aCons me aNil)) :=
  pe_weak (pe_m1 slot ty rule ho he hs hbase hline) fun _ _ _ => t_m1
theorem de_m0 {id : String} {name : Str} {g : Str → List D → Option D} (slot : Slot "str" name id) (ty : typeOf (.builtin id) = pure (.type "method_descriptor")) (rule : MtR X id (rDs (G.R X.K) g)) (ho : DE X G W o mo)
    (hbase : attributeBase o name X.env (eval o X.env) = eval o X.env := by rfl) (hline : (apos.endLine == pos.line) = true := by rfl) : DE X G W (.Call (.Attribute o name apos) [] [] pos) (eMs g mo aNil) :=
  pe_weak (pe_m0 slot ty rule ho hbase hline) fun _ _ _ => t_m0
end
end L2.DL
namespace L2.DL
open PySem PyProof.Rows PySem.Spec
/-- what a list, a tuple, a text walks -/
def itemsD : D → Option (List D)
  | .lst xs => some xs
  | .ro xs => some xs
  | .tup xs => some xs
  | .str x => some (signsD x)
  | _ => none
def iSq (e : ME) : MI := fun ρ => (e ρ).bind fun d => lift (itemsD d)
/-- as many turns as the number in a slot says, and one more -/
def fuelI (i : Nat) (ρ : List Sl) : Nat := match ρ[i]? with
  | some (.d (.int b)) => b.natAbs + 1
  | _ => 0
def eIxB (i : Nat) (k : ME) : ME := fun ρ => match ρ[i]? with
  | some (.bl xs) => (k ρ).bind fun d => lift (oIx (.lst xs) d)
  | _ => .stuck
def eLenB (i : Nat) : ME := fun ρ => match ρ[i]? with
  | some (.bl xs) => .ok (.int xs.length)
  | _ => .stuck
section
variable {X : Cx} {G : GC} {W : WX} {a b e : Expr} {ma mb me : ME} {pos : Pos} {tg : Expr} {x : Str}
theorem di_seq (ha : DE X G W a ma) : DI X G W tg a (iSq ma) := ⟨fun pins s σ H R I ⟨S, ρ, re, h⟩ => by
  cases q : ma ρ with
  | stuck => simp only [iSq, q] at h; exact h.elim
  | ex c fs => exact (di_list ha).run pins s σ H R I ⟨S, ρ, re, by simp only [iSq, iLs, q] at h ⊢; exact h⟩
  | ok d =>
    cases d with
    | lst xs => exact (di_list ha).run pins s σ H R I ⟨S, ρ, re, by simp only [iSq, iLs, q] at h ⊢; exact h⟩
    | ro xs => exact (di_list ha).run pins s σ H R I ⟨S, ρ, re, by simp only [iSq, iLs, q] at h ⊢; exact h⟩
    | tup xs => exact (di_tup ha).run pins s σ H R I ⟨S, ρ, re, by simp only [iSq, iTp, q] at h ⊢; exact h⟩
    | str x => exact (di_str ha).run pins s σ H R I ⟨S, ρ, re, by simp only [iSq, iSt, q] at h ⊢; exact h⟩
    | _ => simp only [iSq, q] at h; exact h.elim⟩
theorem de_ixB (i : Nat) {p1 : Pos} (hb : DE X G W b mb) (hs : PlainIx b := by exact fun _ _ => rfl) (hN : X.N[i]? = some x := by rfl) (hv : Vis X.env.scope x := by first | exact Or.inl rfl | exact Or.inr (Or.inl rfl) | exact Or.inr (Or.inr rfl)) (hd : (x == ("__debug__" : Str)) = false := by decide) (hcd : (x == ("__classdict__" : Str)) = false := by decide) :
    DE X G W (.Subscript (.Name x p1) b pos) (eIxB i mb) := pe_weak (pe_ix ix_list (pe_var hN hv hd hcd) hb hs) fun σ H Q ⟨S, ρ, re, h⟩ => by
  unfold eIxB at h
  split at h
  · rename_i xs hz
    obtain ⟨o, h1, p, vs, ho, hS, hp, hr⟩ := re.sl i _ hz
    subst ho
    refine ⟨_, h1, S, ρ, re, After.bind h fun d h v S1 H1 e1 s1 r1 => ?_⟩
    obtain ⟨z, hz', q⟩ := After.lift h
    cases d with
    | int k =>
      have hz' : atI xs k = some z := hz'
      cases r1
      obtain ⟨v, a1, a2⟩ := atI_rep hr hz'
      exact ⟨p, vs, _, v, rfl, rfl, SqL.of (e1.h _ _ hp), a1, q v S1 H1 e1 s1 (a2.mono e1.s)⟩
    | _ => cases hz'
  · exact h.elim
theorem de_lenB (i : Nat) {p p1 : Pos} (hg : Gl X "len") (hm : X.mg "len" = none) (hN : X.N[i]? = some x := by rfl) (hv : Vis X.env.scope x := by first | exact Or.inl rfl | exact Or.inr (Or.inl rfl) | exact Or.inr (Or.inr rfl)) (hd : (x == ("__debug__" : Str)) = false := by decide) (hcd : (x == ("__classdict__" : Str)) = false := by decide)
    (he : starEach (.Name x p1 :: []) X.env = (false, eval (.Name x p1) X.env) :: starEach [] X.env := by rfl) (hpl : (backTo pos (starEach [] X.env)).any (·.1) = false := by rfl) :
    DE X G W (.Call (.Name "len" p) [.Name x p1] [] pos) (eLenB i) := pe_weak (pe_callB call_len_seq hg hm PySem.boot_len (pa_cons (pe_var (i := i) hN hv hd hcd) pa_nil he) (by decide) (by decide) he hpl) fun σ H Q ⟨S, ρ, re, h⟩ => by
  unfold eLenB at h
  split at h
  · rename_i xs hz
    obtain ⟨o, h1, p, vs, ho, hS, hp, hr⟩ := re.sl i _ hz
    subst ho
    exact ⟨_, h1, p, vs, rfl, .inl (SqL.of hp), by rw [hr.length]; exact h _ S H (.refl _ _) re.sub (.int _)⟩
  · exact h.elim
end
end L2.DL
namespace L2.DL
open PySem PyProof.Rows PySem.Spec
/-! ### exceptions -/
/-- __init__ of an exception class: its fields are kept -/
def spEx (C : Addr) (flds : List Str) : Sp := fun vs H Q _ => ∃ a ws, vs = .ref a :: ws ∧ ws.length = flds.length ∧ H a = some (exo a C none) ∧ ∀ dx, H dx = none → dx ≠ a → Q .non (upd (upd H dx (exd dx ((flds.zip ws).reverse))) a (exo a C (some dx)))
/-- an exception class with fields: what the walk wants of it -/
structure ExF (P : Program) (w : World) (K : PySem.W.Frag) (mg : Str → Option Value) (base : Heap) (C : Addr) (x : Str) (flds : List Str) : Prop where
  gC : mg x = some (.ref C)
  T : OexC K C
  ini : ∃ fI fd ps, PySem.W.findIn K (.ref C) "__init__" = some (some (.ref fI)) ∧ PySem.W.typeIn K (.ref fI) = some (.type "function") ∧ FnOk P w K mg base (L2.CX P w) 1 fI fd ps (spEx C flds) ∧ Binds K fd ps [] ∧ flds ≠ [] ∧ flds.length ≤ 900
section
variable {P : Program} {w : World} {K : PySem.W.Frag} {mg : Str → Option Value} {base : Heap} {C fI : Addr} {qual : Str} {params : Arguments} {body : List Stmt} {scope : Scope} {fd : FuncData} {N ps : List Str} {f1 f2 : Str}
theorem upd_comm {H : Hp} {a b : Addr} {o u : HO} (h : a ≠ b) : upd (upd H a o) b u = upd (upd H b u) a o := by
  funext c
  unfold upd
  by_cases h1 : c = a
  · subst h1; simp [h]
  · simp [h1]
theorem exinit1 (F : FunD K "__init__" qual params body scope [] [] fI fd) (S : FnScope ["self", f1] ["self", f1] scope) (T : OexC K C) (n1 : PySem.W.findIn K (.ref C) f1 = some none)
    (hbody : ∀ (cdv : Value) (A : Around) (outer : List Env) (s : Shared) (H : Hp) (E : XK),
      PSs (cxOf (L2.CX P w) P w K mg base ["self", f1] qual scope fI cdv A outer s H E) body (tOst K f1 (tVar 0) (tVar 1))) : FnOk P w K mg base (L2.CX P w) 1 fI fd ["self", f1] (spEx C [f1]) := by
  refine F.ok (k := 0) S (fun vs H Q E h => ?_) (fun cdv A outer s H vs Q E hr h => ⟨_, hbody cdv A outer s H E, ?_⟩)
  · obtain ⟨a, ws, rfl, hl, _⟩ := h
    simp only [List.length_cons, hl, List.length_nil]
  · obtain ⟨a, ws, rfl, hl, ha, q⟩ := h
    obtain ⟨y, rfl⟩ : ∃ y, ws = [y] := by
      cases ws with
      | nil => cases hl
      | cons y r => cases r with
        | nil => exact ⟨y, rfl⟩
        | cons _ _ => simp at hl
    exact ⟨y, rfl, .ref a, rfl, a, C, rfl, T, n1, .inl ⟨ha, fun dx hd hn => q dx hd hn⟩⟩
theorem exinit2 (F : FunD K "__init__" qual params body scope [] [] fI fd) (S : FnScope ["self", f1, f2] ["self", f1, f2] scope) (T : OexC K C) (n1 : PySem.W.findIn K (.ref C) f1 = some none) (n2 : PySem.W.findIn K (.ref C) f2 = some none)
    (hbody : ∀ (cdv : Value) (A : Around) (outer : List Env) (s : Shared) (H : Hp) (E : XK),
      PSs (cxOf (L2.CX P w) P w K mg base ["self", f1, f2] qual scope fI cdv A outer s H E) body (tSeq (tOst K f1 (tVar 0) (tVar 1)) (tOst K f2 (tVar 0) (tVar 2)))) : FnOk P w K mg base (L2.CX P w) 1 fI fd ["self", f1, f2] (spEx C [f1, f2]) := by
  refine F.ok (k := 0) S (fun vs H Q E h => ?_) (fun cdv A outer s H vs Q E hr h => ⟨_, hbody cdv A outer s H E, ?_⟩)
  · obtain ⟨a, ws, rfl, hl, _⟩ := h
    simp only [List.length_cons, hl, List.length_nil]
  · obtain ⟨a, ws, rfl, hl, ha, q⟩ := h
    obtain ⟨y, z, rfl⟩ : ∃ y z, ws = [y, z] := by
      cases ws with
      | nil => cases hl
      | cons y r => cases r with
        | nil => simp at hl
        | cons z r => cases r with
          | nil => exact ⟨y, z, rfl⟩
          | cons _ _ => simp at hl
    refine ⟨y, rfl, .ref a, rfl, a, C, rfl, T, n1, .inl ⟨ha, fun dx hd hn => ?_⟩⟩
    refine ⟨z, rfl, .ref a, rfl, a, C, rfl, T, n2, .inr ⟨dx, _, upd_same, by rw [upd_ne hn, upd_same], by simp, ?_⟩⟩
    have e : upd (upd (upd H dx (exd dx [(f1, y)])) a (exo a C (some dx))) dx (exd dx ((f2, z) :: [(f1, y)])) = upd (upd H dx (exd dx [(f2, z), (f1, y)])) a (exo a C (some dx)) := by
      rw [upd_comm (Ne.symm hn), upd_upd]
    rw [e]
    exact q dx hd hn
end
def sRaise (c : Nat) (flds : List Str) (as : MA) : MS := fun ρ => (as ρ).bind fun xs => if xs.length = flds.length then .ex c ((flds.zip xs).reverse) else .stuck
theorem RepF.zip {R : RC} {S : Hp} : ∀ {flds : List Str} {vs : List V} {ds : List D}, Reps R S vs ds → RepF R S (flds.zip vs) (flds.zip ds)
  | [], _, _, _ => by simp only [List.zip_nil_left]; exact .nil
  | _ :: _, _, _, .nil => .nil
  | _ :: _, _, _, .cons h1 h2 => .cons h1 (RepF.zip h2)
theorem RepF.app {R : RC} {S : Hp} : ∀ {a b : List (Str × V)} {c d : List (Str × D)}, RepF R S a c → RepF R S b d → RepF R S (a ++ b) (c ++ d)
  | _, _, _, _, .nil, h => h
  | _, _, _, _, .cons h1 h2, h => .cons h1 (RepF.app h2 h)
theorem RepF.rev {R : RC} {S : Hp} : ∀ {a : List (Str × V)} {c : List (Str × D)}, RepF R S a c → RepF R S a.reverse c.reverse
  | _, _, .nil => .nil
  | _, _, .cons h1 h2 => by
    (rw [List.reverse_cons, List.reverse_cons])
    exact (RepF.rev h2).app (.cons h1 .nil)
theorem RepF.look {R : RC} {S : Hp} {f : Str} {d : D} : ∀ {a : List (Str × V)} {c : List (Str × D)}, RepF R S a c → c.lookup f = some d → ∃ v, a.lookup f = some v ∧ Rep R S v d
  | _, _, .nil, h => by cases h
  | _, _, @RepF.cons _ _ k v d' vs ds h1 h2, h => by
    rw [List.lookup_cons] at h ⊢
    cases e : f == k with
    | true =>
      rw [e] at h
      cases h
      exact ⟨_, rfl, h1⟩
    | false =>
      rw [e] at h
      exact RepF.look h2 h
section
variable {X : Cx} {G : GC} {W : WX} {e : Expr} {es : List Expr} {mas : MA} {me : ME} {p pos pos2 : Pos} {x : Str} {flds : List Str} {c : Nat}
theorem ds_raise (F : ExF X.prog X.w X.K X.mg X.base (G.cls c) x flds) (hr : Room 2 X.A) (tk : Takes X W) (hg : Gl X x) (ha : DA X G W (e :: es) mas) (hc : X.calm = true := by rfl)
    (hdb : (x == ("__debug__" : Str)) = false := by decide) (he : starEach (e :: es) X.env = (false, eval e
          X.env) :: starEach es X.env := by rfl) (hpl : (backTo pos (starEach es X.env)).any (·.1) = false := by rfl) :
    DS X G W (.Raise (some (.Call (.Name x p) (e :: es) [] pos)) none pos2) (sRaise c flds mas) := by
  obtain ⟨fI, fd, ps, iC, tI, F1, hb, hne, hfl⟩ := F.ini
  refine ps_weak (ps_raise hc tk (pmk_oex F.T iC tI F1 hr hb .nil passL hg F.gC ha hdb he hpl)) fun De σ H ⟨S, ρ, re, h⟩ => ?_
  refine ⟨S, ρ, re, AfterS.toE h re fun xs h vs S1 H1 e1 s1 r1 => ?_⟩
  have re1 := re.grow e1 s1
  split at h
  · rename_i hl
    refine ⟨by rw [r1.length, hl]; omega, fun a ha => ?_⟩
    refine ⟨a, vs, by rw [List.append_nil], by rw [r1.length]; exact hl, upd_same, fun dx hdx hna => ⟨rfl, ?_⟩⟩
    have hd1 : H1 dx = none := by rw [upd_ne hna] at hdx; exact hdx
    refine ⟨dx, (flds.zip vs).reverse, upd_same, by rw [upd_ne hna, upd_same], hd1, ?_⟩
    have eH : upd (del (upd (upd (upd H1 a (exo a (G.cls c) none)) dx (exd dx ((flds.zip vs).reverse))) a (exo a (G.cls c) (some dx))) a) dx (.xd ((flds.zip vs).reverse)) = upd H1 dx (.xd ((flds.zip vs).reverse)) := by
      funext b
      by_cases hb : b = dx
      · rw [hb, upd_same, upd_same]
      · rw [upd_ne hb, upd_ne hb]
        by_cases hba : b = a
        · rw [hba, del_same, ha]
        · rw [del_ne hba, upd_ne hba, upd_ne hb, upd_ne hba]
    rw [eH]
    refine h (some dx) σ S1 _ (re1.ext.trans ⟨fun _ _ e => e, fun q u e => by rw [upd_ne (ne_of_none e hd1)]; exact e, fun q u e n => by rw [n] at e; cases e⟩) (fun q u e => ?_) (.inr ⟨dx, _, rfl, upd_same, (RepF.zip r1).rev⟩)
    rw [upd_ne (ne_of_none (s1 _ _ e) hd1)]
    exact s1 _ _ e
  · exact h.elim

/-! ### try -/
/-- try: return e | e, except C as n (slot i): cm tells which classes the clause names; hd: the suite, by the class and the fields -/
def sTry (ret : Bool) (me : ME) (i : Nat) (cm : Nat → Option Bool) (hd : Nat → List (Str × D) → MS) : MS := fun ρ => match me ρ with
  | .ok d => if ret = true then .ok (.rt d) else .ok (.nx ρ)
  | .ex c fs => if i < ρ.length then (match cm c with
    | some true => (nox (hd c fs (ρ.set i .no))).bind fun o => (match o with
      | .nx ρ' => .ok (.nx (ρ'.set i .no))
      | .rt d => .ok (.rt d)
      | _ => .stuck)
    | some false => .ex c fs
    | none => .stuck) else .stuck
  | .stuck => .stuck
/-- the caught exception's field -/
def eXf (cs : List Nat) (c : Nat) (fs : List (Str × D)) (f : Str) : ME := fun _ => if c ∈ cs then lift (fs.lookup f) else .stuck
/-- isinstance(n, C) of it -/
def eXi (tab : Nat → Option Bool) (c : Nat) : ME := fun _ => lift ((tab c).map .bl)
abbrev GC.at (G : GC) (i : Nat) (a : Addr) (dd : Option Addr) (c : Nat) (fs : List (Str × D)) : GC := ⟨G.cls, G.H0, G.S0, some (i, a, dd, c, fs)⟩
/-- into the suite -/
theorem RE.into {K : PySem.W.Frag} {S H : Hp} {σ : St} {ρ : List Sl} {i : Nat} {a : Addr} {dd : Option Addr} {c : Nat} {fs : List (Str × D)} (hG : G.ex = none) (re : RE K G S H σ ρ) (hi : i < ρ.length) (x : XdAt (G.R K) S H dd fs) : RE K (G.at i a dd c fs) S H (σ.set i (some (.ref a))) (ρ.set i .no) := by
  have re0 := RE.unset hG re i
  have hl : i < σ.length := by rw [re.len]; exact hi
  have e0 : ∀ (j : Nat), i ≠ j → (σ.set i (some (V.ref a)))[j]? = (σ.set i none)[j]? := fun j h => by rw [List.getElem?_set_ne h, List.getElem?_set_ne h]
  refine ⟨re0.sub, re0.ext, by simp [re.len], fun j y e => ?_, fun j y p e o s => ?_, fun i' a' dd' c' fs' h => ?_⟩
  · by_cases hj : i = j
    · subst hj
      rw [List.getElem?_set_self hi] at e
      cases e
      exact ⟨_, List.getElem?_set_self hl, trivial⟩
    · obtain ⟨o, h1, h2⟩ := re0.sl j y e
      exact ⟨o, by rw [e0 j hj]; exact h1, h2⟩
  · have ne : ∀ (k : Nat) z, (ρ.set i .no)[k]? = some z → z.own = true → i ≠ k := fun k z ez oz q => by
      subst q
      rw [List.getElem?_set_self hi] at ez
      cases ez; cases oz
    rw [e0 j (ne j y e o)] at s
    obtain ⟨h1, h2⟩ := re0.own j y p e o s
    exact ⟨h1, fun k z ez oz sz => h2 k z ez oz (by rw [← e0 k (ne k z ez oz)]; exact sz)⟩
  · cases h
    exact ⟨List.getElem?_set_self hl, x⟩
/-- out of it: the name is unbound -/
theorem RE.outof {K : PySem.W.Frag} {S H : Hp} {σ : St} {ρ : List Sl} {i : Nat} {a : Addr} {dd : Option Addr} {c : Nat} {fs : List (Str × D)} (hG : G.ex = none) (re : RE K (G.at i a dd c fs) S H σ ρ) : RE K G S H (σ.set i none) (ρ.set i .no) := by
  have re0 : RE K G S H σ ρ := ⟨re.sub, re.ext, re.len, re.sl, re.own, fun _ _ _ _ _ h => by rw [hG] at h; cases h⟩
  exact RE.unset hG re0 i
variable {n y : Str} {i : Nat} {cE : Addr} {np pos' ppos : Pos} {b₀ : Stmt} {suite : List Stmt} {cm : Nat → Option Bool} {hd : Nat → List (Str × D) → MS}
def tsX (K : PySem.W.Frag) (G : GC) (i : Nat) (cm : Nat → Option Bool) (hd : Nat → List (Str × D) → MS) : Addr → Value → Option Addr → TS := fun a cls dd D σ H => ∃ c fs, cls = .ref (G.cls c) ∧ cm c = some true ∧ tDS K (G.at i a dd c fs) W0 (hd c fs) D σ H
theorem t_try {K : PySem.W.Frag} {ret : Bool} {De : Ends} {σ : St} {H : Hp} {cE : Value} (hG : G.ex = none) (hcm : ∀ c b, cm c = some b → PySem.W.exmOne K (.ref (G.cls c)) cE = some b) (h : tDS K G W (sTry ret me i cm hd) De σ H) :
    tD K G (wAs K cE i (tsX K G i cm hd) W De) me σ H (fun v H1 => if ret = true then De.rt v H1 else De.nx σ H1) := by
  obtain ⟨S, ρ, re, h⟩ := h
  refine ⟨S, ρ, re, ?_⟩
  unfold sTry at h
  cases q : me ρ with
  | stuck => rw [q] at h; exact h.elim
  | ok d =>
    rw [q] at h
    intro v S1 H1 e1 s1 r1
    cases ret with
    | true => simp only [if_true] at h ⊢; exact h v S1 H1 (re.ext.trans e1) s1 r1
    | false => simp only [Bool.false_eq_true, if_false] at h ⊢; exact h σ S1 H1 e1.s (re.grow e1 s1)
  | ex c fs =>
    rw [q] at h
    dsimp only at h
    intro dd S1 H1 e1 s1 x1
    have re1 := re.grow e1 s1
    by_cases hi : i < ρ.length
    case neg => rw [if_neg hi] at h; exact h.elim
    rw [if_pos hi] at h
    cases hb : cm c with
    | none => rw [hb] at h; exact h.elim
    | some b =>
      rw [hb] at h
      refine ⟨b, hcm c b hb, fun eb a ha => ?_, fun eb => ?_⟩
      · subst eb
        refine ⟨c, fs, rfl, hb, S1, ρ.set i .no, RE.into hG re1 hi x1, ?_⟩
        cases q2 : hd c fs (ρ.set i .no) with
        | stuck => simp only [q2] at h; exact h.elim
        | ex _ _ => simp only [q2] at h; exact h.elim
        | ok o =>
          simp only [q2] at h
          cases o with
          | nx ρ' => exact fun σ' S' H' s re' => h _ S' H' (e1.s.trans s) (RE.outof hG re')
          | rt d => exact fun v S' H' e s r => h v S' H' e s r
          | bk _ => exact h.elim
          | ct _ => exact h.elim
      · subst eb
        exact h dd σ S1 H1 (re.ext.trans e1) s1 x1
theorem suite_of {a : Addr} {oe : Obj} {cls : Value} {dd : Option Addr} {pn : List (Addr × Obj)} (h : ∀ c fs, cls = .ref (G.cls c) → cm c = some true → DSs (X.suite a ((a, oe) :: pn)) (G.at i a dd c fs) W0 suite (hd c fs)) :
    PSs (X.suite a ((a, oe) :: pn)) suite (tsX X.K G i cm hd a cls dd) := ⟨fun pins s σ H De I ⟨c, fs, e, hb, q⟩ => (h c fs e hb).run pins s σ H De I q⟩
theorem ds_try_ret {tpos : Pos} (hs : X.stack = X.env :: X.outer) (hf : X.env.frame = some X.env.locals) (hN : X.N.Nodup) (hi : X.N[i]? = some n) (hln : X.env.kindOf n = some .local) (hc : Names X y (.ref cE)) (tk : Takes X W) (hcm : ∀ c b, cm c = some b → PySem.W.exmOne X.K (.ref (G.cls c)) (.ref cE) = some b)
    (he : ∀ (W : WX) (pn : List (Addr × Obj)) (xe : Value → Shared → Prop), Takes (X.tr pn xe) W → PE (X.tr pn xe) e (tD X.K G W me))
    (hsu : ∀ (a : Addr) (oe : Obj) (dd : Option Addr) (pn : List (Addr × Obj)) (c : Nat) (fs : List (Str × D)), Zc (.ref (G.cls c)) dd oe → (∃ vs, oe.data = .fields vs) → cm c = some true → PSs (X.suite a ((a, oe) :: pn)) (b₀ :: suite) (tDS X.K (G.at i a dd c fs) W0 (hd c fs))) (hG : G.ex = none := by rfl) :
    DS X G W (.Try [.Return (some e) ppos] [.ExceptHandler (some (.Name y np)) (some n) (b₀ :: suite) pos'] [] [] tpos) (sTry true me i cm hd) :=
  ps_weak (ps_try_as (tb := fun W => tRet (tD X.K G W me)) (ts := tsX X.K G i cm hd) hs hf hN hi hln hc tk (fun W pn xe tk _ => pss_one (ps_ret (he W pn xe tk))) (fun a oe cls dd pn hz hv => suite_of fun c fs e hb => hsu a oe dd pn c fs (by rw [← e]; exact hz) hv hb))
    fun De σ H h => by
      have := t_try (ret := true) hG hcm h
      simp only [if_true] at this
      exact this
theorem ds_try_ex {tpos : Pos} (hs : X.stack = X.env :: X.outer) (hf : X.env.frame = some X.env.locals) (hN : X.N.Nodup) (hi : X.N[i]? = some n) (hln : X.env.kindOf n = some .local) (hc : Names X y (.ref cE)) (tk : Takes X W) (hcm : ∀ c b, cm c = some b → PySem.W.exmOne X.K (.ref (G.cls c)) (.ref cE) = some b)
    (he : ∀ (W : WX) (pn : List (Addr × Obj)) (xe : Value → Shared → Prop), Takes (X.tr pn xe) W → PE (X.tr pn xe) e (tD X.K G W me)) (hsw : ∀ (pn : List (Addr × Obj)) (xe : Value → Shared → Prop), swapsWith e none ppos.line (X.tr pn xe).env = pure false := by intro _ _; rfl)
    (hsu : ∀ (a : Addr) (oe : Obj) (dd : Option Addr) (pn : List (Addr × Obj)) (c : Nat) (fs : List (Str × D)), Zc (.ref (G.cls c)) dd oe → (∃ vs, oe.data = .fields vs) → cm c = some true → PSs (X.suite a ((a, oe) :: pn)) (b₀ :: suite) (tDS X.K (G.at i a dd c fs) W0 (hd c fs))) (hG : G.ex = none := by rfl) :
    DS X G W (.Try [.Expr e ppos] [.ExceptHandler (some (.Name y np)) (some n) (b₀ :: suite) pos'] [] [] tpos) (sTry false me i cm hd) :=
  ps_weak (ps_try_as (tb := fun W => tDrop (tD X.K G W me)) (ts := tsX X.K G i cm hd) hs hf hN hi hln hc tk (fun W pn xe tk _ => pss_one (ps_expr (he W pn xe tk) (hsw pn xe))) (fun a oe cls dd pn hz hv => suite_of fun c fs e hb => hsu a oe dd pn c fs (by rw [← e]; exact hz) hv hb))
    fun De σ H h => by
      have := t_try (ret := false) hG hcm h
      simp only [Bool.false_eq_true, if_false] at this
      exact this
/-- n.f in the suite -/
theorem de_xf {a : Addr} {oe : Obj} {dd : Option Addr} {pn : List (Addr × Obj)} {c : Nat} {fs : List (Str × D)} {f : Str} {p1 : Pos} {cs : List Nat} {W : WX} (hz : Zc (.ref (G.cls c)) dd oe) (hv : ∃ vs, oe.data = .fields vs) (T : ∀ c ∈ cs, XfC X.K (G.cls c) ∧ PySem.W.findIn X.K (.ref (G.cls c)) f = some none)
    (hN : (X.suite a ((a, oe) :: pn)).N[i]? = some n := by rfl) (hvi : Vis (X.suite a ((a, oe) :: pn)).env.scope n := by first | exact Or.inl rfl | exact Or.inr (Or.inl rfl) | exact Or.inr (Or.inr rfl)) (hdb : (n == ("__debug__" : Str)) = false := by decide) (hcd : (n == ("__classdict__" : Str)) = false := by decide)
    (hb : attributeBase (.Name n p1) f X.env (eval (.Name n p1) X.env) = eval (.Name n p1) X.env := by rfl) : PE (X.suite a ((a, oe) :: pn)) (.Attribute (.Name n p1) f pos) (tD X.K (G.at i a dd c fs) W (eXf cs c fs f)) := by
  by_cases hc : c ∈ cs
  · refine pe_weak (pe_xf (T c hc).1 (T c hc).2 hz hv (pe_var (i := i) hN hvi hdb hcd) hb) fun σ H Q ⟨S, ρ, re, h⟩ => ?_
    unfold eXf at h
    rw [if_pos hc] at h
    obtain ⟨z, hz', q⟩ := After.lift h
    obtain ⟨h1, h2⟩ := re.exn _ _ _ _ _ rfl
    rcases h2 with ⟨e, _⟩ | ⟨d, vfs, e, hd, hr⟩
    · subst e; cases hz'
    · obtain ⟨v, a1, a2⟩ := hr.look hz'
      exact ⟨_, h1, rfl, rfl, d, vfs, v, e, hd, a1, q v S H (.refl _ _) re.sub a2⟩
  · refine ⟨fun pins s σ H Q I ⟨S, ρ, re, h⟩ => ?_⟩
    unfold eXf at h
    rw [if_neg hc] at h
    exact h.elim
/-- isinstance(n, C) in the suite -/
theorem call_isE2 {X : Cx} {a D : Addr} {oe : Obj} {dd : Option Addr} {pn : List (Addr × Obj)} {cv : Addr} {b : Bool} (C : ExcC X.K D) (hz : Zc (.ref D) dd oe) (hf : ∃ vs, oe.data = .fields vs) (e : PySem.W.kitOne X.K (.ref D) (.ref cv) = some b) :
    CallR (X.suite a ((a, oe) :: pn)) (.builtin "isinstance") (fun xs H Q => xs = [.ref a, .ref cv] ∧ (dd = none ∨ ∃ d vfs, dd = some d ∧ H d = some (.xd vfs)) ∧ Q (.bl b) H) := by
  (intro pins s σ H xs us Q I r h)
  obtain ⟨rfl, hdd, q⟩ := h
  cases r with
  | cons rx rr =>
    cases rr with
    | cons rt rr =>
      cases rr
      cases rx
      cases rt
      (obtain ⟨hget, _⟩ := I.pin (a, oe) (List.mem_append.mpr (.inl List.mem_cons_self)))
      obtain ⟨vs, hv⟩ := hf
      have J : ∃ od, PySem.W.InstAt s.heap a oe D od := by
        (obtain ⟨oc, od, oda, osl⟩ := oe)
        obtain ⟨h1, h2⟩ := hz
        dsimp only at h1 h2 hv
        subst h1 h2 hv
        rcases hdd with rfl | ⟨d, vfs, rfl, hd⟩
        · exact ⟨none, hget, rfl, rfl, trivial⟩
        · have hx : ObjOk X.prog X.w H s.heap d (.xd vfs) := I.hok d _ hd
          obtain ⟨mA, hns, _⟩ := hx
          obtain ⟨o, _, _, ho, _⟩ := hns
          exact ⟨some o, hget, rfl, rfl, ho⟩
      obtain ⟨od, J⟩ := J
      have hcl : (PySem.W.clsIn X.K D).isSome = true := by
        obtain ⟨cd, hc, _⟩ := PySem.W.any_some C.hd
        rw [hc]; rfl
      exact PySem.W.kia_one (PySem.W.kitx_exc hcl C.hg C.hk C.hs C.ha C.hn C.ht C.hm) I.kIn J e (fun z => nomatch z) fun tk => ⟨.bl b, H, I.kept (t' := tk) fun _ _ z => z, rfl, q⟩
theorem de_xi {a : Addr} {oe : Obj} {dd : Option Addr} {pn : List (Addr × Obj)} {c : Nat} {fs : List (Str × D)} {p1 p2 p3 : Pos} {C : Str} {cE : Addr} {tab : Nat → Option Bool} {W : WX} (hz : Zc (.ref (G.cls c)) dd oe) (hv : ∃ vs, oe.data = .fields vs) (T : ∀ c b, tab c = some b → ExcC X.K (G.cls c) ∧ PySem.W.kitOne X.K (.ref (G.cls c)) (.ref cE) = some b)
    (hg : Gl X "isinstance") (hm : X.mg "isinstance" = none) (gC : Gl X C) (mC : X.mg C = some (.ref cE)) (hdC : (C == ("__debug__" : Str)) = false := by decide)
    (hN : (X.suite a ((a, oe) :: pn)).N[i]? = some n := by rfl) (hvi : Vis (X.suite a ((a, oe) :: pn)).env.scope n := by first | exact Or.inl rfl | exact Or.inr (Or.inl rfl) | exact Or.inr (Or.inr rfl)) (hdb : (n == ("__debug__" : Str)) = false := by decide) (hcd : (n == ("__classdict__" : Str)) = false := by decide)
    (hs1 : starEach [.Name n p1, .Name C p2] X.env = (false, eval (.Name n p1) X.env) :: starEach [.Name C p2] X.env := by rfl) (hs2 : starEach [.Name C p2] X.env = (false, eval (.Name C p2) X.env) :: starEach [] X.env := by rfl) (hpl : (backTo pos (starEach [.Name C p2] X.env)).any (·.1) = false := by rfl) :
    PE (X.suite a ((a, oe) :: pn)) (.Call (.Name "isinstance" p3) [.Name n p1, .Name C p2] [] pos) (tD X.K (G.at i a dd c fs) W (eXi tab c)) := by
  cases hb : tab c with
  | none =>
    refine ⟨fun pins s σ H Q I ⟨S, ρ, re, h⟩ => ?_⟩
    unfold eXi at h
    rw [hb] at h
    exact h.elim
  | some b =>
    obtain ⟨T1, T2⟩ := T c b hb
    refine pe_weak (pe_callB (X := X.suite a ((a, oe) :: pn)) (call_isE2 T1 hz hv T2) hg hm (by decide +kernel) (pa_cons (pe_var (i := i) hN hvi hdb hcd) (pa_cons (pe_glob (v := .ref cE) gC mC rfl hdC) pa_nil hs2) hs1) (by decide) (by decide) hs1 hpl) fun σ H Q ⟨S, ρ, re, h⟩ => ?_
    unfold eXi at h
    rw [hb] at h
    obtain ⟨h1, h2⟩ := re.exn _ _ _ _ _ rfl
    refine ⟨_, h1, rfl, ?_, h (.bl b) S H (.refl _ _) re.sub (.bl _)⟩
    rcases h2 with ⟨_, e⟩ | ⟨d, vfs, e, hd, _⟩
    · exact .inl e
    · exact .inr ⟨d, vfs, e, hd⟩
end
end L2.DL
/-! An exception that leaves from inside a list comprehension. -/
namespace L2.DL
open PySem PyProof.Rows PySem.Spec
section
variable {M : Model} {A : Around} {E : Value
      → Shared → Prop} {s : Shared} {env : Env}
/-- what is wanted of a block's end; fr: the frame that the block runs in -/
def postX (M : Model) (A : Around) (E : Value → Shared → Prop) (use : Option (Value → Sem Unit)) (Q : Value → Shared → Prop) (acc : Value) (C : Addr) (fr : Option Addr) : Result → Shared → Prop
  | .ok f, t => compPost M A E use Q acc C (.ok f) t
  | .error x, t => ∃ m, t.heap.Ns C m ∧ ∀ g, Heap.SameBut C t.heap g → ∀ ce : Env, ce.locals = C → ce.frame = fr → wpAny M A (PySem.passOn "comprehension.variables-let-go" x ce : Sem Value) (fun _ _ => False) E { t with heap := g }
theorem comp_free_x {e : Expr} {scope : Scope} {pos : Pos} {mk first : Sem Value} {c0 : Comprehension} {cs : List Comprehension} {cl : List (Str × Addr)} {use : Option (Value → Sem Unit)} {Q : Value → Shared → Prop}
    (h1 : clausesOf e = c0 :: cs) (h2 : ∀ x, foldedSetIterable c0.iter env x = pure x) (h3 : closureFor scope env = pure cl) (h4 : scope.kind = .function) (h5 : ∀ y ∈ scope.names, y.2 = .local → scope.names.lookup y.1 = some .local)
    (h : wpAny M A first (fun x t1 => wpAny M A (pyIter x) (fun it t2 => wpAny M A mk (fun acc t3 => wpAny M A (newFunctionEnv scope env.globals cl [] env.qual none .none (some env)) (fun ce t4 =>
        codeAny M A (.compStart e 0 it acc { ce with scope := relabel scope env }) (postX M A E use Q acc ce.locals ce.frame) t4) E t3) E t2) E t1) E s) :
    wpAny M A (comprehension e scope env pos mk false first use) Q E s := by
  unfold comprehension
  rw [h3, h1]
  refine wpAny_bind (wpAny_mono h (fun x t1 k1 => ?_) fun _ _ z => z)
  refine wpAny_bind (wpAny_standAt (wpAny_bind (wpAny_of_eq (h2 x) (wpAny_bind (wpAny_holding (wpAny_mono k1 (fun it t2 k2 => ?_) fun _ _ z => z))))))
  refine wpAny_standIf (wpAny_bind (wpAny_mono k2 (fun acc t3 k3 => wpAny_bind (wpAny_pure (wpAny_bind (wpAny_mono k3 (fun ce t4 k4 => ?_) fun _ _ z => z)))) fun _ _ z => z))
  dsimp only
  have loc1 : ∀ y ∈ (scope.names.filter fun y => (y.2 == .local || y.2 == .cell) && y.1 != (".0" : Str)).reverse, y.2 = .local →
      Env.kindOf { ce with scope := relabel scope env } y.1 = some .local := fun y hy hl => lookup_relabel_local (h5 y (List.mem_filter.mp (List.mem_reverse.mp hy)).1 hl)
  have loc2 : ∀ y ∈ (scope.names.filter fun y => (y.2 == .local || y.2 == .cell) && y.1 != (".0" : Str)).reverse.drop 1 ++ (scope.names.filter fun y => (y.2 == .local || y.2 == .cell) && y.1 != (".0" : Str)).reverse.take 1,
      y.2 = .local → Env.kindOf { ce with scope := relabel scope env } y.1 = some .local := fun y hy hl => by
    rcases List.mem_append.mp hy with q | q
    · exact loc1 y (List.mem_of_mem_drop q) hl
    · exact loc1 y (List.mem_of_mem_take q) hl
  refine wpAny_holding (wpAny_bind (wpAny_attempt (wpAny_holding (wpAny_run (codeAny_mono k4 fun r t5 hr => ?_)))))
  cases r with
  | ok f =>
    cases use with
    | none =>
      obtain ⟨m, hn, q⟩ := hr
      exact wpAny_bind (wpAny_holding (wpAny_comp_letGo (cenv := { ce with scope := relabel scope env }) h4 _ t5 m loc1 hn fun g _ _ sb => wpAny_pure (q g sb)))
    | some u =>
      refine wpAny_bind (wpAny_rule (wpAny_bind (wpAny_holding (wpAny_mono hr (fun _ t6 q => ?_) fun _ _ z => z))))
      obtain ⟨m, hn, q⟩ := q
      exact wpAny_bind (wpAny_comp_letGo (cenv := { ce with scope := relabel scope env }) h4 _ t6 m loc2 hn fun g _ _ sb => wpAny_pure (q g sb))
  | error x =>
    obtain ⟨m, hn, q⟩ := hr
    exact wpAny_bind (wpAny_holding (wpAny_comp_letGo (cenv := { ce with scope := relabel scope env }) h4 _ t5 m loc1 hn fun g _ _ sb => wpAny_mono (q g sb _ rfl rfl) (fun _ _ f => f.elim) fun _ _ y => y))
theorem note_frame_eq {e1 e2 : Env} (h : e1.frame = e2.frame) (u : Value) : noteFrame u e1 = noteFrame u e2 := by
  unfold noteFrame PySem.frameOf
  rw [h]
/-- an exception that is held goes on -/
theorem passOn_held {env : Env} {base : Heap} {l : List Env} {Z : Obj → Prop} {L a : Addr} {what : String} {Q : Value → Shared → Prop} (hf : env.frame = some L) (hh : HandSPX.HeldZ base l a Z L s.heap)
    (h : ∀ g, HandSPX.HeldZ base l a Z L g → s.heap.UpToSlots g → E (.ref a) { s with heap := g }) : wpAny M A (PySem.passOn what (.ref a) env : Sem Value) Q E s := by
  unfold PySem.passOn
  obtain ⟨oe, vs, T, oT, ts, he, hz, hd, h1, hnT, hTe, hT, hdT, h3⟩ := hh.2.2.2
  (refine wpAny_bind (wpAny_field he hd h1 ?_))
  dsimp only
  rw [if_neg (show ¬ ((Value.ref T == Value.none) = true) from by simp), hf]
  exact wpAny_bind (HandSPX.setFlight_onZ hh fun g hg up => wpAny_throw (h g hg up))
end
section
variable {X : Cx} {pins : List (Addr × Obj)} {σ τ : St} {H H1 H2 : Hp} {s s1 s2 : Shared} {W : WX} {ce : Env} {fp : List Addr} {C : Addr} {scope : Scope}
/-- what a call lets out within the block gets out of the comprehension -/
theorem out_of_block {E' : XK} {use : Option (Value → Sem Unit)} {Q : Value → Shared → Prop} {acc : Value} {R : Result → Shared → Prop}
    (hs : X.stack = X.env :: X.outer) (hf : X.env.frame = some X.env.locals) (tk : Takes X W) (I : Inv X pins σ H s)
    (hfp : ∀ b ∈ fp, FpOk X pins H b ∧ b < s.heap.objs.size) (hC : C = s.heap.objs.size) (hcl : ce.locals = C) (hcf : ce.frame = X.env.frame)
    (J : Inv (X.blk s H scope ce fp) [] τ H1 s1) (hW : ∀ cls d G, E' cls d G → W cls d σ G) {u : Value}
    (c : L2.CX X.prog X.w X.stack H1 s1 E' u s2)
    (hR : ∀ t, postX (model X.prog X.w) X.A X.xe use Q acc C X.env.frame (.error u) t → R (.error u) t) :
    notedBy (model X.prog X.w) X.A ce (fun e t => R (.error e) t) u s2 := by
  obtain ⟨a, B, cls, dd, hd⟩ : ∃ a B cls dd, u = .ref a ∧ HandSPX.FlyingZ B X.stack a (Zc cls dd) s2.heap ∧ (∃ H', HOk X.prog X.w H' B ∧ UB (frs X.stack) H1 H' s1.heap B s2.heap ∧ H' a = none ∧ E' cls dd H') ∧ s2.os = s1.os ∧ AllBare s2.gens := by
    obtain ⟨a, B, H', cls, dd, q1, q2, q3, q4, q5, q6, q7, q8⟩ := c
    exact ⟨a, B, cls, dd, q1, q2, ⟨H', q3, q4, q5, q8⟩, q6, q7⟩
  obtain ⟨rfl, fl, ⟨H', hok, ub, na, hE⟩, hos, hbare⟩ := hd
  have frm : X.A.frames = some (X.env :: X.outer) := by rw [I.ok.frames, hs]
  have fl' : HandSPX.FlyingZ B (X.env :: X.outer) a (Zc cls dd) s2.heap := by rw [← hs]; exact fl
  unfold notedBy
  rw [note_frame_eq hcf]
  refine HandSPX.looks_onZ Zc.steady frm hf fl' fun g1 hg1 up1 => hR _ ?_
  -- the block's own dict
  have nC : H1 C = none := by have z : H1 ce.locals = none := J.free; rw [hcl] at z; exact z
  have nfC : C ∉ frs X.stack := fun hm => by
    obtain ⟨_, o, ho, _⟩ := I.stack.mem hm
    rw [hC] at ho
    (exact absurd (Heap.lt_size ho) (Nat.lt_irrefl _))
  obtain ⟨m, hns, _⟩ := J.loc
  have hns : s1.heap.Ns C m := by have z : s1.heap.Ns ce.locals m := hns; rw [hcl] at z; exact z
  obtain ⟨oC, es, ep, hoC, restC⟩ := hns
  have hBC : B.get? C = some oC := ub.keep C oC hoC nC nfC
  refine ⟨m, ⟨oC, es, ep, hg1.1 C oC hBC, restC⟩, fun g2 sb ce2 hl2 hf2 => ?_⟩
  have hf2' : ce2.frame = some X.env.locals := by rw [hf2, hf]
  -- the ground without it
  obtain ⟨B2, b1, b2⟩ := restrict B fun b => decide (b ≠ C)
  have b1 : ∀ b, b ≠ C → B2.get? b = B.get? b := fun b hb => b1 b (by simpa using hb)
  have b2 : B2.get? C = none := b2 C (by simp)
  have bsub : ∀ b o, B2.get? b = some o → B.get? b = some o ∧ b ≠ C := fun b o e => by
    by_cases hb : b = C
    · rw [hb, b2] at e; cases e
    · rw [b1 b hb] at e; exact ⟨e, hb⟩
  have at2 : ∀ b, b ≠ C → g2.get? b = g1.get? b := fun b hb => sb.2 b hb
  have held : HandSPX.HeldZ B2 (X.env :: X.outer) a (Zc cls dd) X.env.locals g2 := by
    obtain ⟨k1, k2, k3, oe, vs, T, oT, ts, he, hz, hd, h1, hnT, hTe, hT, hdT, h3⟩ := hg1
    have aC : a ≠ C := fun z => by rw [z, hBC] at k2; cases k2
    have TC : T ≠ C := fun z => by rw [z, hBC] at hnT; cases hnT
    refine ⟨fun b o e => ?_, by rw [b1 a aC]; exact k2, ?_, oe, vs, T, oT, ts, by rw [at2 a aC]; exact he, hz, hd, h1, by rw [b1 T TC]; exact hnT, hTe, by rw [at2 T TC]; exact hT, hdT, h3⟩
    · obtain ⟨e', hb⟩ := bsub b o e
      rw [at2 b hb]
      exact k1 b o e'
    · have fB : ∀ L ∈ frs (X.env :: X.outer), B.get? L = none := fun L hL => (k3.mem hL).1
      have k3' : g1.FunFrames B2 (X.env :: X.outer) := funFrames_none k3 fun L hL => by
        by_cases hb : L = C
        · rw [hb]; exact b2
        · rw [b1 L hb]; exact fB L hL
      have onFr : ∀ (l : List Env), (∀ b ∈ frs l, b ≠ C) → g1.FunFrames B2 l → g2.FunFrames B2 l := by
        intro l
        induction l with
        | nil => intro _ _; trivial
        | cons e r ih =>
          intro hn hl
          obtain ⟨q1, ⟨L, o, q2, q3, q4, q5⟩, q6⟩ := hl
          have hL : L ∈ frs (e :: r) := List.mem_filterMap.mpr ⟨e, List.mem_cons_self, q2⟩
          refine ⟨q1, ⟨L, o, q2, q3, by rw [at2 L (hn L hL)]; exact q4, q5⟩, ih (fun b hb => hn b ?_) q6⟩
          obtain ⟨e', he', q⟩ := List.mem_filterMap.mp hb
          exact List.mem_filterMap.mpr ⟨e', List.mem_cons_of_mem _ he', q⟩
      exact onFr _ (fun b hb z => nfC (by rw [hs]; rw [← z]; exact hb)) k3'
  refine passOn_held hf2' held fun g3 hg3 up3 => tk _ _ ?_
  -- the state without the exception
  obtain ⟨G, c1, c2⟩ := restrict g3 fun b => (B2.get? b).isSome || decide (b ∈ frs X.stack)
  have gB : ∀ b o, B2.get? b = some o → G.get? b = some o := fun b o e => by
    rw [c1 b (by simp [e])]
    exact hg3.1 b o e
  have gF : ∀ b, b ∈ frs X.stack → G.get? b = g3.get? b := fun b hb => c1 b (by simp [hb])
  have og : ∀ b o, G.get? b = some o → g3.get? b = some o ∧ ((B2.get? b).isSome = true ∨ b ∈ frs X.stack) := fun b o e => by
    cases q : ((B2.get? b).isSome || decide (b ∈ frs X.stack)) with
    | false => rw [c2 b q] at e; cases e
    | true =>
      rw [c1 b q] at e
      (exact ⟨e, by simpa [Bool.or_eq_true] using q⟩)
  have jb := J.base
  have neC : ∀ b o, s.heap.get? b = some o → b ≠ C := fun b o e z => by
    rw [z, hC] at e
    exact absurd (Heap.lt_size e) (Nat.lt_irrefl _)
  have slotF : ∀ b o, s.heap.get? b = some o → H b = none → b ∈ frs X.stack → b ∉ fp → ∃ sl, G.get? b = some { o with slots := sl } := fun b o e n hb hx => by
    obtain ⟨sl1, e1⟩ := jb.slot b o e n hb hx
    obtain ⟨sl2, e2⟩ := ub.slot b _ e1 hb
    obtain ⟨_, o', e', hnf⟩ := I.stack.mem hb
    rw [e] at e'; cases e'
    obtain ⟨sl3, e3⟩ := up1 b _ e2 hnf
    rw [← at2 b (neC b o e)] at e3
    obtain ⟨sl4, e4⟩ := up3 b _ e3 hnf
    exact ⟨sl4, by rw [gF b hb]; exact e4⟩
  have fpn : ∀ b ∈ fp, b ∉ frs X.stack := fun b hb hm => by
    have q := J.ok.exfs b hb
    exact q hm
  have un : Un (frs X.stack) fp H H' s.heap G := by
    refine ⟨fun b o e n hb hx => ?_, fun b o e n hb hx => slotF b o e n hb hx, fun b o e n hx => ?_, fun b o e hx => ?_, fun b xs e => ub.tups b xs (jb.tups b xs e), fun b o xs e => ub.frzs b o xs (jb.frzs b o xs e), fun b ps e => ?_⟩
    · exact gB b o (by rw [b1 b (neC b o e)]; exact ub.keep b o (jb.keep b o e n hb hx) (jb.free b o e n hx) hb)
    · obtain ⟨o1, e1⟩ := jb.there b o e hx
      exact ub.free b o1 e1 (jb.free b o e n hx)
    · (by_cases hb : b ∈ frs X.stack)
      · obtain ⟨sl, q⟩ := slotF b o e (I.stkFree b hb) hb hx
        exact ⟨_, q⟩
      · obtain ⟨o1, e1⟩ := jb.there b o e hx
        obtain ⟨o2, e2⟩ := ub.there b o1 e1 hb
        exact ⟨o2, gB b o2 (by rw [b1 b (neC b o e)]; exact e2)⟩
    · obtain ⟨m1, e1⟩ := jb.tbls b ps e
      (obtain ⟨m2, e2⟩ := ub.tbls b _ e1)
      (exact ⟨m1 ++ m2, by rw [e2, Array.append_assoc]⟩)
  have hokG : HOk X.prog X.w H' G := fun b o q => (hok b o q).stay (fun c v hc r => gB c v (by
      have cC : c ≠ C := fun z => by
        subst z
        have z2 := ub.free c oC hoC nC
        rcases hc with hc | hc
        · rw [hc, q] at z2; cases z2
        · rw [hc] at z2; cases z2
      rw [b1 c cC]; exact r)) (fun _ r => r) fun _ _ r => r
  have I2 : Inv X pins σ H' { s2 with heap := G } := I.call' (s' := { s2 with heap := G }) (ch := fp) (hos.trans J.os) un hokG hbare fun b hb => ⟨(hfp b hb).1.2.2.2.1, (hfp b hb).1.2.1, (hfp b hb).1.2.2.2.2.1, (hfp b hb).1.2.2.2.2.2⟩
  refine ⟨a, B2, { s2 with heap := G }, pins, σ, H', cls, dd, rfl, I2, fun b o e hb => ?_, Heap.UpToSlots.of_keeps fun b o e => (og b o e).1, .inr (.inr (by rw [hs]; exact hg3)), na, rfl, hbare, hW _ _ _ hE⟩
  obtain ⟨e', h⟩ := og b o e
  rcases h with h | h
  · (obtain ⟨o', q⟩ := Option.isSome_iff_exists.mp h)
    have z := hg3.1 b o' q
    rw [e'] at z; cases z
    exact q
  · exact absurd h hb
end
/-- [elt for tg in iter], what elt raises goes on -/
def tLcX (W : WX) (wi : TI) (g : TG) (tt : TT) (te : XK → TE) (vs : List Nat) : TE := fun σ H Q => tLc wi g tt (te fun cls d H' => W cls d σ H') vs σ H Q
section
variable {X : Cx} {W : WX}
theorem lc_coreX {pins : List (Addr × Obj)} {s : Shared} {σ : St} {H : Hp} {Q : VK} {use : Option (Value → Sem Unit)} {Qf : Value → Shared → Prop} {pos' : Pos} {elt tg iter : Expr} {ifs : List Expr} {scope : Scope} {own : List (Str × Nat)} {pos : Pos} {wi : TI} {g : TG} {tt : TT} {te : XK → TE}
    (hs : X.stack = X.env :: X.outer) (hf : X.env.frame = some X.env.locals) (tk : Takes X W) (hc : X.calm = true) (hN : X.N.Nodup) (hi : PI X tg iter wi) (ok : BlkOk X.N X.env.scope scope own)
    (hg : ∀ (s : Shared) (H : Hp) (C : Addr) (cl : List (Str × Addr)) (fp : List Addr), PG (X.blk s H scope (compEnvC scope cl C X.env) fp) tg g)
    (ht : ∀ (s : Shared) (H : Hp) (C : Addr) (cl : List (Str × Addr)) (fp : List Addr), PTs (X.blk s H scope (compEnvC scope cl C X.env) fp) ifs tt)
    (he : ∀ (s : Shared) (H : Hp) (C : Addr) (cl : List (Str × Addr)) (fp : List Addr) (xe : Value → Shared → Prop) (E' : XK), (∀ τ, PassesAt (L2.CX X.prog X.w) ((X.blk s H scope (compEnvC scope cl C X.env) fp).wish xe) τ E') →
      PE ((X.blk s H scope (compEnvC scope cl C X.env) fp).wish xe) elt (te E'))
    (hfold : ∀ x, foldedSetIterable iter X.env x = pure x) (I : Inv X pins σ H s) (h : tLc wi g tt (te fun cls d H' => W cls d σ H') (own.map (·.2)) σ H Q)
    (hEnd : ∀ D C t m H', Inv X pins σ H' t → Q (.ref D) H' → t.heap.Ns C m → FpOk X pins H' C → compPost (model X.prog X.w) X.A X.xe use Qf (.ref D) C (.ok .next) t) :
    wpAny (model X.prog X.w) X.A (comprehension (.ListComp elt [⟨tg, iter, ifs, 0⟩]
          scope pos) scope X.env pos' (newList []) false (eval iter X.env) use) Qf X.xe s := by
  have cells : ∀ y ∈ scope.names, y.2 = .free → ∃ c, X.env.cells.lookup y.1 = some c := fun y hy e => (ok.free y hy e).elim (fun k => I.ok.has _ (.inl k)) fun k => I.ok.has _ (.inr k)
  refine comp_free_x rfl hfold (closure_ok cells) ok.kind (fun y hy e => by rw [ok.uniq y hy, e]) (thn (hi.run pins s σ H _ I h) fun xv sa1 hx => thn hx fun itv sa2 h2 => ?_)
  obtain ⟨it, fp, tn, J, hp2, e, iv2, T, kp2, fr2, q⟩ := h2
  subst e
  (refine wpAny_newObj_type (newEnv_comp ?_) (by show 0 ≤ sizeLine; decide))
  generalize hD : sa2.heap.objs.size = D
  have hDn : hp2 D = none := iv2.hok.fresh (Nat.le_of_eq hD)
  obtain ⟨Wi, ⟨m0, w0⟩, turn⟩ := q D hDn
  generalize es3 : ({ sa2 with heap := sa2.heap.push { cls := .type "list", data := .seq ([] : List Value).toArray } } : Shared) = sa3
  have h3 : sa3.heap = sa2.heap.push { cls := .type "list", data := .seq ([] : List Value).toArray } := by rw [← es3]
  have iv3 : Inv X pins σ (upd hp2 D (.lst [])) sa3 := by
    subst es3
    refine iv2.laid (t' := sa2.toks) (fun b o e => Heap.get?_push_of_some _ e) (Nat.le_of_eq hD) ⟨Nat.zero_le _, [], 0, .nil, ?_⟩
    subst hD
    (exact Heap.get?_push_size _ rfl)
  have old : ∀ b ∈ fp, b < sa2.heap.objs.size := fun b hb => let ⟨o, e, _⟩ := T.obj _ _ kp2 b hb; Heap.lt_size e
  have fr3 : ∀ b ∈ fp, FpOk X pins (upd hp2 D (.lst [])) b ∧ b < sa3.heap.objs.size := fun b hb => by
    have lt := old b hb
    refine ⟨⟨?_, (fr2 b hb).2⟩, by rw [h3, Heap.size_push]; exact Nat.lt_succ_of_lt lt⟩
    rw [upd_ne (hD ▸ Nat.ne_of_lt lt)]
    exact (fr2 b hb).1
  have kp3 : tn 0 sa3.heap := T.keep _ _ _ kp2 fun b _ o e => by rw [h3]; exact Heap.get?_push_of_some _ e
  have iv4 := block_start iv3 ok hN fr3
  have qg := hg sa3 (upd hp2 D (.lst [])) sa3.heap.objs.size (cellsFrom (sa3.heap.objs.size + 1) scope.names (cloFrom X.env.cells scope.names [])) fp
  have qt := ht sa3 (upd hp2 D (.lst [])) sa3.heap.objs.size (cellsFrom (sa3.heap.objs.size + 1) scope.names (cloFrom X.env.cells scope.names [])) fp
  have qe := he sa3 (upd hp2 D (.lst [])) sa3.heap.objs.size (cellsFrom (sa3.heap.objs.size + 1) scope.names (cloFrom X.env.cells scope.names [])) fp
  show codeAny _ _ (.compStart _ 0 (.ref it) (.ref D) (compEnvC scope (cellsFrom (sa3.heap.objs.size + 1) scope.names (cloFrom X.env.cells scope.names [])) sa3.heap.objs.size X.env))
    (postX (model X.prog X.w) X.A X.xe use Qf (.ref D) sa3.heap.objs.size X.env.frame) { sa3 with heap := pushCells (sa3.heap.push { cls := .type "dict", data := .dict #[] }) scope.names }
  have nfp : ∀ b ∈ fp, (upd hp2 D (.lst [])) b = none := fun b hb => (fr3 b hb).1.1
  generalize hce : compEnvC scope (cellsFrom (sa3.heap.objs.size + 1) scope.names (cloFrom X.env.cells scope.names [])) sa3.heap.objs.size X.env = cenv at iv4 qg qt qe ⊢
  have cL : cenv.locals = sa3.heap.objs.size := by subst hce; rfl
  have cF : cenv.frame = X.env.frame := by subst hce; rfl
  generalize hH3 : upd hp2 D (.lst []) = hp3 at iv3 iv4 qg qt qe w0 nfp fr3
  generalize hs4 : ({ sa3 with heap := pushCells (sa3.heap.push { cls := .type "dict", data := .dict #[] }) scope.names } : Shared) = sa4 at iv4 ⊢
  have kp4 : tn 0 sa4.heap := T.keep _ _ _ kp3 fun b _ o e => by rw [← hs4]; exact pushCells_keeps _ _ _ _ (Heap.get?_push_of_some _ e)
  have stat : ∀ {τ : St} {H' : Hp} {t : Shared}, Inv (X.blk sa3 hp3 scope cenv fp) [] τ H' t → (∀ b ∈ fp, H' b = none) → ∀ b ∈ fp, FpOk (X.blk sa3 hp3 scope cenv fp) [] H' b := fun {τ H' t} I' hn b hb =>
    ⟨hn b hb, (I'.ok.exf b hb).1, I'.ok.exfs b hb, .inl hb, fun x c e => (I'.ok.exf b hb).2
          x c e, fun p hp => absurd (show p ∈ ([] : List (Addr × Obj)) ++ [] from hp) (by simp)⟩
  have back : ∀ {τ : St} {H' : Hp} {t : Shared}, Inv (X.blk sa3 hp3 scope cenv fp) [] τ H' t → Inv X pins σ H' t := fun {τ H' t} I' =>
    iv3.call' (ch := fp) I'.os I'.base I'.hok I'.bare fun b hb => ⟨(fr3 b hb).1.2.2.2.1, (fr3 b hb).1.2.1, (fr3 b hb).1.2.2.2.2.1, (fr3 b hb).1.2.2.2.2.2⟩
  have loop : codeAny (model X.prog X.w) X.A (.compLoop (.ListComp elt [⟨tg, iter, ifs, 0⟩] scope pos) 0 (.ref it) (.ref D) cenv) (postX (model X.prog X.w) X.A X.xe use Qf (.ref D) sa3.heap.objs.size X.env.frame) sa4 := by
    refine compLoop_any (fun n t => ∃ i H', Inv (X.blk sa3 hp3 scope cenv fp) [] (wipe σ (own.map (·.2))) H' t ∧ tn i t.heap ∧ (∀ b ∈ fp, H' b = none) ∧ Wi i n H') ?_ m0 ⟨0, hp3, iv4, kp4, nfp, w0⟩
    rintro n sa5 ⟨i, hp5, iv5, kp5, n5, w5⟩
    rcases turn i n hp5 w5 with ⟨stop, qq⟩ | ⟨go, Nx, hNx, step⟩
    · have td := T.done (X.blk sa3 hp3 scope cenv fp) rfl rfl rfl hc i [] sa5 _ hp5 (fun _ _ => False) iv5 (stat iv5 n5) kp5 stop
      refine thnF td fun r sa6 ⟨hr, iv6⟩ => ?_
      subst hr
      have nC : hp5 sa3.heap.objs.size = none := by have z : hp5 cenv.locals = none := iv6.free; rw [cL] at z; exact z
      obtain ⟨m, hn, _⟩ := iv6.loc
      have hn : sa6.heap.Ns sa3.heap.objs.size m := by have z : sa6.heap.Ns cenv.locals m := hn; rw [cL] at z; exact z
      exact hEnd D sa3.heap.objs.size sa6 m hp5 (back iv6) qq hn (iv3.fpOk (H' := hp5) (Nat.le_refl _) nC)
    · have ti := T.item (X.blk sa3 hp3 scope cenv fp) rfl rfl rfl hc i [] sa5 _ hp5 (fun _ _ => False) iv5 (stat iv5 n5) kp5 go
      refine thnF ti fun r sa6 ⟨u, hr, h6⟩ => ?_
      subst hr
      refine thnF h6 fun _ sa7 ⟨x, hp7, iv7, r7, y7, kp7, n7⟩ => ?_
      have iv7' := iv7.pinned (stat iv7 n7) (T.obj _ _ kp7)
      refine thnF (qg.run _ sa7 _ hp7 x u _ iv7' r7 (step x hp7 y7)) fun _ sa8 ⟨σ8, H8, iv8, hw8, q8⟩ => ?_
      refine thnF (qt.run _ sa8 σ8 H8 _ iv8 q8) fun b sa9 ⟨H9, I9, q9⟩ => ?_
      have again : ∀ {t : Shared} {H' : Hp}, Inv (X.blk sa3 hp3 scope cenv fp) ([] ++ pinsAt fp sa7.heap) σ8 H' t → Nx H' → ∃ m, m < n ∧ ∃ i H', Inv (X.blk sa3 hp3 scope cenv fp) [] (wipe σ (own.map (·.2))) H' t ∧ tn i t.heap ∧ (∀ b ∈ fp, H' b = none) ∧ Wi i m H' := fun {t H'} I' nx => by
        (obtain ⟨m', hm, w'⟩ := hNx H' nx)
        have pinned : ∀ b ∈ fp, ∀ o, sa7.heap.get? b = some o → t.heap.get? b = some o ∧ H' b = none := fun b hb o e =>
          let z := I'.pin (b, o) (List.mem_append_right
                _ (List.mem_append_right _ (mem_pinsAt hb e)))
          ⟨z.1, z.2.1⟩
        have hl : (wipe σ (own.map (·.2))).length
              = σ8.length := by rw [← hw8, wipe_length]
        refine ⟨m', hm, i + 1, H', (I'.unpinned (pins := [])).weak hl (fun j v e => ?_), T.keep _ _ _ kp7 fun b hb o e => (pinned b hb o e).1, fun b hb => ?_, w'⟩
        · rw [← hw8] at e
          exact (wipe_some e).1
        · obtain ⟨o, e, _⟩ := T.obj _ _ kp7 b hb
          exact (pinned b hb o e).2
      cases b with
      | false =>
        (simp only [Bool.false_eq_true, if_false] at q9 ⊢)
        exact again I9 q9
      | true =>
        simp only [if_true] at q9 ⊢
        have qe' := qe (notedBy (model X.prog X.w) X.A cenv fun e t => postX (model X.prog X.w) X.A X.xe use Qf (.ref D) sa3.heap.objs.size X.env.frame (.error e) t) (fun cls d H' => W cls d σ H')
          (fun τ pins' H' t u t' It c => out_of_block (scope := scope) (pins := pins) (σ := σ) (s := sa3) (H := hp3) (fp := fp) (C := sa3.heap.objs.size) hs hf tk iv3 fr3 rfl cL cF ((Inv.unwish It).pins_of (pins' := []) (by
            intro p hp
            exact absurd (show p ∈ ([] : List (Addr × Obj)) from hp) (by simp))) (fun _ _ _ z => z) c fun t z => z)
        refine thn (qe'.run _ sa9 σ8 H9 _ (I9.wish _) q9) fun z s10 ⟨yv, H10, I10, r10, acc, hD10, hz10, nx⟩ => ?_
        exact app_ok (X := X.blk sa3 hp3 scope cenv fp) (Inv.unwish I10) hD10 hz10 r10 fun s11 I11 => again I11 nx
  exact codeAny_compStart_list loop (T.self X.A 0 _ _ _ kp4 loop)
theorem pe_lcX {elt tg iter : Expr} {ifs : List Expr} {scope : Scope} {own : List (Str × Nat)} {pos : Pos} {wi : TI} {g : TG} {tt : TT} {te : XK → TE}
    (hs : X.stack = X.env :: X.outer) (hf : X.env.frame = some X.env.locals) (tk : Takes X W) (hc : X.calm = true) (hN : X.N.Nodup) (hi : PI X tg iter wi) (ok : BlkOk X.N X.env.scope scope own)
    (hg : ∀ (s : Shared) (H : Hp) (C : Addr) (cl : List (Str × Addr)) (fp : List Addr), PG (X.blk s H scope (compEnvC scope cl C X.env) fp) tg g)
    (ht : ∀ (s : Shared) (H : Hp) (C : Addr) (cl : List (Str × Addr)) (fp : List Addr), PTs (X.blk s H scope (compEnvC scope cl C X.env) fp) ifs tt)
    (he : ∀ (s : Shared) (H : Hp) (C : Addr) (cl : List (Str × Addr)) (fp : List Addr) (xe : Value → Shared → Prop) (E' : XK), (∀ τ, PassesAt (L2.CX X.prog X.w) ((X.blk s H scope (compEnvC scope cl C X.env) fp).wish xe) τ E') →
      PE ((X.blk s H scope (compEnvC scope cl C X.env) fp).wish xe) elt (te E'))
    (hfold : ∀ x, foldedSetIterable iter X.env x = pure x := by intro _; rfl) :
    PE X (.ListComp elt [⟨tg, iter, ifs, 0⟩] scope pos) (tLcX W wi g tt te (own.map (·.2))) := by
  (refine ⟨fun pins s σ H Q I h => ?_⟩)
  rw [eval_ListComp]
  refine lc_coreX hs hf tk hc hN hi ok hg ht he hfold I h fun D C t m H' I' q hn f => ⟨m, hn, fun g sb => ⟨.ref D, H', ?_, rfl, q⟩⟩
  exact I'.turned (t' := t.toks) (it := C) (fun b o hb e => by rw [sb.2 b hb]; exact e) f.1 f.2.1 f.2.2.2.1 f.2.2.2.2.1 f.2.2.2.2.2
theorem ps_setLcX {i : Nat} {y : Str} {py : Pos} {elt tg iter : Expr} {ifs : List Expr} {scope : Scope} {own : List (Str × Nat)} {pos spos : Pos} {wi : TI} {g : TG} {tt : TT} {te : XK → TE}
    (hs : X.stack = X.env :: X.outer) (hf : X.env.frame = some X.env.locals) (tk : Takes X W) (hc : X.calm = true) (hN : X.N.Nodup) (hy : X.N[i]? = some y) (hyl : X.env.scope.names.lookup y = some .local)
    (hsw : swapsWith (.ListComp elt [⟨tg, iter, ifs, 0⟩] scope pos) (some (.Name y py))
          spos.line X.env = pure true) (hi : PI X tg iter wi) (ok : BlkOk X.N X.env.scope scope own)
    (hg : ∀ (s : Shared) (H : Hp) (C : Addr) (cl : List (Str × Addr)) (fp : List Addr), PG (X.blk s H scope (compEnvC scope cl C X.env) fp) tg g)
    (ht : ∀ (s : Shared) (H : Hp) (C : Addr) (cl : List (Str × Addr)) (fp : List Addr), PTs (X.blk s H scope (compEnvC scope cl C X.env) fp) ifs tt)
    (he : ∀ (s : Shared) (H : Hp) (C : Addr) (cl : List (Str × Addr)) (fp : List Addr) (xe : Value → Shared → Prop) (E' : XK), (∀ τ, PassesAt (L2.CX X.prog X.w) ((X.blk s H scope (compEnvC scope cl C X.env) fp).wish xe) τ E') →
      PE ((X.blk s H scope (compEnvC scope cl C X.env) fp).wish xe) elt (te E'))
    (hfold : ∀ x, foldedSetIterable iter X.env x = pure x := by intro _; rfl) :
    PS X (.Assign [.Name y py] (.ListComp elt [⟨tg, iter, ifs, 0⟩] scope pos) spos) (tAsg (tLcX W wi g tt te (own.map (·.2))) (gName i)) := by
  refine ⟨fun pins s σ H De I h => ?_⟩
  (rw [exec_Assign_Name_used _ _ _ _ hsw])
  (refine wpAny_bind (wpAny_standAt (wpAny_bind ?_)))
  refine wpAny_bind (thn (lc_coreX (Qf := fun _ t => SP X pins De .next t) (Q := fun x H1 => gName i x σ H1 De.nx) hs hf tk hc hN hi ok hg ht he hfold I h fun L C t m H' I' q hn f => ?_) fun _ t hq => wpAny_pure (wpAny_pure hq))
  show wpAny _ _ (assign (.Name
        y py) X.env (.ref L)) _ _ _
  refine wpAny_assign_Name (store_ok2 (v := V.ref L) I' hN hy (.inl hyl) rfl (fun t2 iv2 ⟨a, sb, ha⟩ => ?_) (.inr hyl))
  have far : C ≠ a := ha.elim (fun z => by rw [z]; exact f.2.1) fun z e => f.2.2.2.2.1 y a z e.symm
  exact ⟨m, hn.sameBut sb far, fun g3 sb3 => ⟨_, H', iv2.turned (t' := t2.toks) (fun b o hb e => by rw [sb3.2 b hb]; exact e) f.1 f.2.1 f.2.2.2.1 f.2.2.2.2.1 f.2.2.2.2.2, q⟩⟩
end
/-- a list comprehension whose element may raise; the target and the tests don't -/
def compLX (g : MG) (te : ME) (ρ : List Sl) : List D → Res (List D)
  | [] => .ok []
  | d :: ds => (lift (g d ρ)).bind fun ρ1 => (te ρ1).bind fun x => (compLX g te ρ ds).bind fun r => .ok (x :: r)
def eLcX (src : MI) (vs : List Nat) (g : MG) (te : ME) : ME := fun ρ => (src ρ).bind fun ds => if ds.length ≤ sizeLine then (compLX g te (wipeD ρ vs) ds).bind fun r => .ok (.lst r) else .stuck
section
variable {X : Cx} {G : GC} {W : WX}
theorem t_lcX (hG : G.ex = none) {K : PySem.W.Frag} {src : MI} {vs : List Nat} {g : MG} {te : ME} {σ : St} {H : Hp} {Q : VK} (h : tD K G W (eLcX src vs g te) σ H Q) :
    tLcX W (tDI K G W src) (tDG K G vs g) (tDT K G W0 cYes) (fun E' => tD K G (fun c d _ H => E' c d H) te) vs σ H Q := by
  obtain ⟨S, ρ, re, h⟩ := h
  refine ⟨S, ρ, re, After.bind h fun ds h J S1 H1 e1 s1 wk Dd hD => ?_⟩
  have re1 := re.grow e1 s1
  by_cases hlen : ds.length ≤ sizeLine
  case neg => rw [if_neg hlen] at h; exact h.elim
  rw [if_pos hlen] at h
  have hS1 : S1 Dd = none := s1.free hD
  -- what is left of the walk, behind what is made so far
  refine ⟨fun i m Hc => ∃ S2 av ad, Ext S1 H1 S2 Hc ∧ Same S2 Hc ∧ S2 Dd = none ∧ Hc Dd = some (.lst av) ∧ Reps (G.R K) S2 av ad ∧ ad.length ≤ i ∧ i ≤ ds.length ∧ m = ds.length - i ∧
      After K G W S H σ ((compLX g te (wipeD ρ vs) (ds.drop i)).bind fun r => .ok (.lst (ad ++ r))) (fun d => ∀ v S' H', Ext S H S' H' → Same S' H' → Rep (G.R K) S' v d → Q v H'), ?_, ?_⟩
  · refine ⟨_, S1, [], [], ⟨fun _ _ e => e, fun q u e => by rw [upd_ne (ne_of_none e hD)]; exact e, fun q u e n => by rw [n] at e; cases e⟩, fun q u e => ?_, hS1, upd_same, .nil, Nat.zero_le _, Nat.zero_le _, rfl, by rw [List.drop_zero]; exact h⟩
    rw [upd_ne (ne_of_none e hS1)]
    exact s1 _ _ e
  · rintro i m Hc ⟨S2, av, ad, e2, s2, hS2, hc, ra, hal, hi, hm, hr⟩
    have re2 := re1.grow e2 s2
    by_cases hlt : i < ds.length
    · have hd' : ds.drop i = ds[i] :: ds.drop (i + 1) := List.drop_eq_getElem_cons hlt
      rw [hd'] at hr
      refine .inr ⟨wk.go i S2 Hc hlt e2.s s2, fun Hc => ∃ S2 av ad, Ext S1 H1 S2 Hc ∧ Same S2 Hc ∧ S2 Dd = none ∧ Hc Dd = some (.lst av) ∧ Reps (G.R K) S2 av ad ∧ ad.length ≤ i + 1 ∧
          After K G W S H σ ((compLX g te (wipeD ρ vs) (ds.drop (i + 1))).bind fun r => .ok (.lst (ad ++ r))) (fun d => ∀ v S' H', Ext S H S' H' → Same S' H' → Rep (G.R K) S' v d → Q v H'),
        fun H' ⟨S2, av, ad, a1, a2, a3, a4, a5, a6, a7⟩ => ⟨_, by omega, S2, av, ad, a1, a2, a3, a4, a5, a6, hlt, rfl, a7⟩, fun x H' y => ?_⟩
      obtain ⟨S3, d, e3, s3, hd, r3⟩ := wk.yld i S2 Hc x H' hlt e2.s s2 y
      rw [List.getElem?_eq_getElem hlt] at hd
      have hd := Option.some.inj hd
      rw [hd] at hr
      simp only [compLX] at hr
      cases q1 : g d (wipeD ρ vs) with
      | none => rw [q1] at hr; exact hr.elim
      | some ρ1 =>
        rw [q1] at hr
        have re3 := re2.grow e3 s3
        refine ⟨S3, wipeD ρ vs, d, ρ1, RE.wipe hG re3 vs, r3, q1, fun σ4 re4 w4 => ⟨w4.trans (wipe_wipe σ vs), S3, ρ1, re4, fun S5 H5 e5 s5 => ?_⟩⟩
        dsimp only
        rw [if_pos rfl]
        have re5 := re4.grow e5 s5
        have e25 : Ext S2 Hc S5 H5 := e3.trans e5
        have eAll : Ext S H S5 H5 := (e1.trans e2).trans e25
        refine ⟨S5, ρ1, re5, ?_⟩
        simp only [lift, Res.bind] at hr
        cases q3 : te ρ1 with
        | stuck => rw [q3] at hr; exact hr.elim
        | ex c fs =>
          rw [q3] at hr
          exact fun dd S6 H6 e6 s6 x6 => hr dd S6 H6 (eAll.trans e6) s6 x6
        | ok y =>
          rw [q3] at hr
          intro v S6 H6 e6 s6 r6
          have e26 : Ext S2 Hc S6 H6 := e25.trans e6
          have hS6 : S6 Dd = none := by
            cases z : S6 Dd with
            | none => rfl
            | some o => have := e26.new Dd o z hS2; rw [hc] at this; cases this
          have hc6 := e26.h _ _ hc
          refine ⟨av, hc6, by rw [ra.length]; omega, S6, av ++ [v], ad ++ [y], ?_, ?_, hS6, upd_same, (ra.mono e26.s).append (.cons r6 .nil), by simp; omega, ?_⟩
          · have e16 := e2.trans e26
            exact ⟨e16.s, fun q u e => by rw [upd_ne (ne_of_none e hD)]; exact e16.h _ _ e, e16.new⟩
          · intro q u e
            rw [upd_ne (ne_of_none e hS6)]
            exact s6 _ _ e
          · cases q4 : compLX g te (wipeD ρ vs) (ds.drop (i + 1)) with
            | stuck => rw [q4] at hr; exact hr.elim
            | ex c fs => rw [q4] at hr; exact hr
            | ok r =>
              rw [q4] at hr
              show ∀ v S' H', _
              rw [List.append_assoc]
              exact hr
    · have e : i = ds.length := by omega
      subst e
      refine .inl ⟨wk.stop S2 Hc e2.s s2, ?_⟩
      rw [List.drop_length] at hr
      have q : ∀ v S' H', Ext S H S' H' → Same S' H' → Rep (G.R K) S' v (.lst (ad ++ [])) → Q v H' := hr
      rw [List.append_nil] at q
      have sS : Same S2 (upd S2 Dd (.lst av)) := fun q u e => by rw [upd_ne (ne_of_none e hS2)]; exact e
      refine q (.ref Dd) (upd S2 Dd (.lst av)) Hc (e1.trans ⟨e2.s.trans sS, e2.h, fun q u e n => ?_⟩) (fun q u e => ?_) (.lst upd_same (ra.mono sS))
      · by_cases hq : q = Dd
        · rw [hq]; exact hD
        · rw [upd_ne hq] at e; exact e2.new q u e n
      · by_cases hq : q = Dd
        · subst hq; rw [upd_same] at e; cases e; exact hc
        · rw [upd_ne hq] at e; exact s2 _ _ e
theorem de_lcX {src : MI} {g : MG} {te : ME} {elt tg iter : Expr} {scope : Scope} {own : List (Str × Nat)} {pos : Pos} (hs : X.stack = X.env :: X.outer) (hf : X.env.frame = some X.env.locals) (tk : Takes X W) (hc : X.calm = true) (hN : X.N.Nodup) (hi : DI X G W tg iter src) (ok : BlkOk X.N X.env.scope scope own)
    (hg : ∀ (s : Shared) (H : Hp) (C : Addr) (cl : List (Str × Addr)) (fp : List Addr), PG (X.blk s H scope (compEnvC scope cl C X.env) fp) tg (tDG X.K G (own.map (·.2)) g))
    (he : ∀ (s : Shared) (H : Hp) (C : Addr) (cl : List (Str × Addr)) (fp : List Addr) (xe : Value → Shared → Prop) (E' : XK), (∀ τ, PassesAt (L2.CX X.prog X.w) ((X.blk s H scope (compEnvC scope cl C X.env) fp).wish xe) τ E') →
      PE ((X.blk s H scope (compEnvC scope cl C X.env) fp).wish xe) elt (tD X.K G (fun c d _ H => E' c d H) te))
    (hfold : ∀ x, foldedSetIterable iter X.env x = pure x := by intro _; rfl) (hG : G.ex = none := by rfl) :
    DE X G W (.ListComp elt [⟨tg, iter, [], 0⟩] scope pos) (eLcX src (own.map (·.2)) g te) :=
  pe_weak (pe_lcX hs hf tk hc hN hi ok hg (fun _ _ _ _ _ => dts_nil) he hfold) fun _ _ _ => t_lcX hG
theorem ds_setLcX {i : Nat} {y : Str} {py : Pos} {src : MI} {g : MG} {te : ME} {elt tg iter : Expr} {scope : Scope} {own : List (Str × Nat)} {pos spos : Pos} (hs : X.stack = X.env :: X.outer) (hf : X.env.frame = some X.env.locals) (tk : Takes X W) (hc : X.calm = true) (hN : X.N.Nodup)
    (hy : X.N[i]? = some y) (hyl : X.env.scope.names.lookup y = some .local) (hsw : swapsWith (.ListComp elt [⟨tg, iter, [], 0⟩] scope pos) (some (.Name y py)) spos.line X.env = pure true) (hi : DI X G W tg iter src) (ok : BlkOk X.N X.env.scope scope own)
    (hg : ∀ (s : Shared) (H : Hp) (C : Addr) (cl : List (Str × Addr)) (fp : List Addr), PG (X.blk s H scope (compEnvC scope cl C X.env) fp) tg (tDG X.K G (own.map (·.2)) g))
    (he : ∀ (s : Shared) (H : Hp) (C : Addr) (cl : List (Str × Addr)) (fp : List Addr) (xe : Value → Shared → Prop) (E' : XK), (∀ τ, PassesAt (L2.CX X.prog X.w) ((X.blk s H scope (compEnvC scope cl C X.env) fp).wish xe) τ E') →
      PE ((X.blk s H scope (compEnvC scope cl C X.env) fp).wish xe) elt (tD X.K G (fun c d _ H => E' c d H) te))
    (hfold : ∀ x, foldedSetIterable iter X.env x = pure x := by intro _; rfl) (hG : G.ex = none := by rfl) :
    DS X G W (.Assign [.Name y py] (.ListComp elt [⟨tg, iter, [], 0⟩] scope pos) spos) (sAsg (eLcX src (own.map (·.2)) g te) (gN i)) :=
  ps_weak (ps_setLcX hs hf tk hc hN hy hyl hsw hi ok hg (fun _ _ _ _ _ => dts_nil) he hfold) fun De σ H ⟨S, ρ, re, h⟩ =>
    t_lcX hG (W := W) (Q := fun x H1 => gName i x σ H1 De.nx) ⟨S, ρ, re, AfterS.toE h re fun d h v S1 H1 e1 s1 r1 => h _ S1 H1 e1.s (RE.set hG (re.grow e1 s1) i r1)⟩
/-- a call within such an element -/
theorem de_callB {E' : XK} {m : List D → Res D} {e : Expr} {es : List Expr} {mas : MA} {x : Str} {k : Nat} {p pos : Pos} (C : Cal X.prog X.w X.K X.mg X.base G.cls k x m) (hr : Room k X.A) (hg : Gl X x) (pa : ∀ τ, PassesAt (L2.CX X.prog X.w) X τ E') (ha : DA X G (fun c d _ H => E' c d H) (e :: es) mas)
    (hdb : (x == ("__debug__" : Str)) = false := by decide) (he : starEach (e :: es) X.env = (false, eval e
          X.env) :: starEach es X.env := by rfl) (hpl : (backTo pos (starEach es X.env)).any (·.1) = false := by rfl) :
    DE X G (fun c d _ H => E' c d H) (.Call (.Name x p) (e :: es) [] pos) (eCall m mas) := by
  obtain ⟨f, fd, ps, F, hm⟩ := C
  refine pe_weak (pe_callS F.ok hr hg hm F.kp F.bind (E := fun _ => E') pa ha hdb he hpl) fun σ H Q ⟨S, ρ, re, h⟩ => ?_
  refine ⟨S, ρ, re, After.bind h fun xs h vs S1 H1 e1 s1 r1 => ?_⟩
  refine ⟨S1, xs, s1, r1, ?_⟩
  cases q : m xs with
  | stuck => rw [q] at h; exact h.elim
  | ex c fs => rw [q] at h; exact fun dd S2 H2 e2 s2 x => h dd S2 H2 (e1.trans e2) s2 x
  | ok d => rw [q] at h; exact fun v S2 H2 e2 s2 r2 => h v S2 H2 (e1.trans e2) s2 r2
end
end L2.DL
/-! the head's facts for the data layer -/
namespace L2.DL
open PySem PyProof.Rows PySem.Spec
open He (ga ma fAd ba)
def slotB : List (Option Value) → Bool
  | [_, _, _, _, some (.builtin x), _] => decide (x = "ValueError.__new__")
  | _ => false
def mroB (C : Addr) : List Value → Bool
  | .ref c :: bm => decide (c = C) && PySem.HandSPX.refsVE bm
  | _ => false
def oexO (K : PySem.W.Frag) (C : Addr) : Bool := match K.lookup C with
  | some ⟨.type t, _, .cls cd, sl⟩ => decide (t = "type") && (mroB C cd.mro && (cd.hasDict && (slotB sl.toList && decide (cd.hasDel = false))))
  | _ => false
def oexB (K : PySem.W.Frag) (C : Addr) : Bool := oexO K C && (decide (PySem.W.findIn K (.ref C) "__setattr__" = some (some (.builtin "object.__setattr__"))) && (decide (PySem.W.subIn K (.ref C) (.type "BaseException") = some true) && (decide (PySem.W.typeIn K (.ref C) = some (.type "type")) && PySem.W.keepIn K (.ref C))))
theorem slotB_ok {l : List (Option Value)} (h : slotB l = true) : ∃ a b c d e, l = [a, b, c, d, some (.builtin "ValueError.__new__"), e] := by
  unfold slotB at h
  split at h
  · exact ⟨_, _, _, _, _, by rw [of_decide_eq_true h]⟩
  · cases h
theorem mroB_ok {C : Addr} {l : List Value} (h : mroB C l = true) : ∃ bm, l = .ref C :: bm ∧ PySem.HandSPX.refsVE bm = true := by
  unfold mroB at h
  split at h
  · obtain ⟨h1, h2⟩ := ba h
    exact ⟨_, by rw [of_decide_eq_true h1], h2⟩
  · cases h
theorem oexO_ok {K : PySem.W.Frag} {C : Addr} (h : oexO K C = true) : ∃ nm q N bs bm sn sub ab col dd k0 k1 k2 k3 k5, K.lookup C = some (excClassObj nm q C N bs bm true sn sub ab col dd k0 k1 k2 k3 k5 "ValueError.__new__") ∧ PySem.HandSPX.refsVE bm = true := by
  unfold oexO at h
  split at h
  · rename_i t d cd sl hl
    obtain ⟨h1, h⟩ := ba h
    obtain ⟨h2, h⟩ := ba h
    obtain ⟨h3, h⟩ := ba h
    obtain ⟨h4, h5⟩ := ba h
    have h6 : cd.hasDel = false := of_decide_eq_true h5
    obtain ⟨bm, e2, r⟩ := mroB_ok h2
    obtain ⟨a, b, c, d, e, e4⟩ := slotB_ok h4
    have es : sl = #[a, b, c, d, some (.builtin "ValueError.__new__"), e] := Array.toList_inj.mp e4
    have et := of_decide_eq_true h1
    subst es et
    obtain ⟨n1, n2, n3, n4, n5, n6, n7, n8, n9, n10, n11⟩ := cd
    simp only at e2 h3 h6
    subst e2 h3 h6
    exact ⟨_, _, _, _, bm, _, _, _, _, _, _, _, _, _, _, hl, r⟩
  · cases h
theorem oexB_ok {K : PySem.W.Frag} {C : Addr} (h : oexB K C = true) : OexC K C := by
  obtain ⟨h1, h⟩ := ba h
  obtain ⟨h2, h⟩ := ba h
  obtain ⟨h3, h⟩ := ba h
  obtain ⟨h4, h5⟩ := ba h
  exact ⟨oexO_ok h1, of_decide_eq_true h2, of_decide_eq_true h3, of_decide_eq_true h4, h5⟩
def excB (K : PySem.W.Frag) (D : Addr) : Bool := decide (PySem.W.findIn K (.ref D) "__getattribute__" = some (some (.builtin "BaseException.__getattribute__"))) && (decide (PySem.W.findIn K (.ref D) "__getattr__" = some none) && (decide (PySem.W.subIn K (.ref D) (.type "BaseException") = some true) && (PySem.W.hasDictIn K D &&
  (decide (PySem.W.findIn K (.ref D) "__class__" = some (some (.builtin "object.__class__"))) && (decide (PySem.W.specialIn K (.builtin "object.__class__") "__get__" = some (some (.builtin "getset_descriptor.__get__"))) && (decide (PySem.W.takesIn K (.builtin "object.__class__") = some true) && decide (PySem.W.mroIn K D (.type "object") = some true)))))))
theorem excB_ok {K : PySem.W.Frag} {D : Addr} (h : excB K D = true) : ExcC K D := by
  obtain ⟨h1, h⟩ := ba h
  obtain ⟨h2, h⟩ := ba h
  obtain ⟨h3, h⟩ := ba h
  obtain ⟨h4, h⟩ := ba h
  obtain ⟨h5, h⟩ := ba h
  obtain ⟨h6, h⟩ := ba h
  obtain ⟨h7, h8⟩ := ba h
  exact ⟨of_decide_eq_true h1, of_decide_eq_true h2, of_decide_eq_true h3, h4, of_decide_eq_true h5, of_decide_eq_true h6, of_decide_eq_true h7, of_decide_eq_true h8⟩
def kitB (K : PySem.W.Frag) (C D : Addr) (b : Bool) : Bool := decide (PySem.W.kitOne K (.ref C) (.ref D) = some b)
def gblB (K : PySem.W.Frag) (x : Str) (n : String) : Bool := decide (PySem.W.nsIn K mainGlobals x = some (some (.builtin n)))
def fnB (K : PySem.W.Frag) (a : Addr) : Bool := decide (PySem.W.typeIn K (.ref a) = some (.type "function"))
def fldB (K : PySem.W.Frag) (C : Addr) (f : Str) : Bool := decide (PySem.W.findIn K (.ref C) f = some none)
/-- a law's end: what may get out hangs on the world -/
theorem walk_w {l : PySem.W.OpenLaw} {most lev : Nat} {vw : Program} {lo : List Str} {XP : (Str → Option Value) → Heap → Prop} {YP : World → Heap → Prop} {dr : DefRec} {CXw : World → CXT} {x : Str} (h1 : l.most = some most) (h2 : most ≤ sizeLine) (h3 : dr.params.defaults = []) (h4 : Room lev callerA)
    (go : ∀ (w : World) (mg : Str → Option Value) (fa : Addr) (h : Heap), YP w h → h.Ns mainGlobals mg → mg dr.name = some (.ref fa) → ∃ (K : PySem.W.Frag) (fd : FuncData) (sp : Sp), K.In h ∧ (∀ (s : Shared) (u : Value), BindsTo s fd ⟨[u], []⟩ [(x, u)]) ∧ (∀ (H : Hp) (a : Addr) (ns : List Int), ns.length ≤ most → Only H → SqL K H a (ns.map V.int) → sp [.ref a] H (fun v _ => v = .bl true) fun _ _ _ => False) ∧ ∀ base : Heap, K.In base → base.Ns mainGlobals mg → FnOk l.prog w K mg base (CXw w) lev fa fd [x] sp)
    (none_out : ∀ (w : World) (H : Hp) (s : Shared) (e : Value) (s' : Shared), CXw w [] H s (fun _ _ _ => False) e s' → False) : PySem.W.WalkO vw lo XP YP l.row.toRowW dr [] (fun f us => PySem.call f us) :=
  Att.attach_call h1 h3 fun w s₀ s₁ mg mb fa o pm cd doc a us ns G Y ho hd hcd hmg hobj hints hlen hg => by
    obtain ⟨K, fd, sp, KX, hb, hsp, hF⟩ := go w mg fa _ Y G.T.g hmg
    exact law_call KX G.T.g G.T.b G.T.builtins G.T.nolimit hg hobj hints (by exact Nat.le_trans hlen h2) h4 hF hb (fun H hO hS => hsp H a ns hlen hO hS) (fun H e s' z => none_out w H s₁ e s' z)
theorem cx_none {P : Program} {w : World} {H : Hp} {s s' : Shared} {e : Value} (z : L2.CX P w [] H s (fun _ _ _ => False) e s') : False := by
  obtain ⟨_, _, _, _, _, _, _, _, _, _, _, _, k⟩ := z
  exact k
/-- the script as the law gets it -/
abbrev script (ns : List Int) : D := .ro (ns.map D.int)
theorem reps_ints {R : RC} {S : Hp} : ∀ ns : List Int, Reps R S (ns.map V.int) (ns.map D.int)
  | [] => .nil
  | n :: ns => .cons (.int n) (reps_ints ns)
theorem law_sp {K : PySem.W.Frag} {cls : Nat → Addr} {m : List D → Res D} {H : Hp} {a : Addr} {ns : List Int} (h : m [script ns] = .ok (.bl true)) (hS : SqL K H a (ns.map V.int)) :
    spD K cls m [.ref a] H (fun v _ => v = .bl true) fun _ _ _ => False := by
  refine ⟨H, [script ns], .refl H, .cons (.ro hS (reps_ints ns)) .nil, ?_⟩
  rw [h]
  intro v S' H' _ _ r
  cases r
  rfl
end L2.DL
namespace L2.DL.K71
open PySem PyProof.Rows PySem.Spec
def c_TAKEN : D := .tup [.str "half", .str "quota", .str "lots", .str "veto", .str "both", .str "either", .str "opposite", .str "with", .str "along", .str "times"]
def cm_BadWord (c : Nat) : Option Bool := if c = 2 then some true else none
def is_CalmError (c : Nat) : Option Bool := if c = 2 then some true else none
def xf_word : List Nat := [2]
def m_ratio : List D → Res D := runB 2 3 (sSeq (sIf (cE (eOp oEq (eV 1) (eC (.int 0)))) (sNever) (sNx))
    (sSeq (sAsg (eFn fGcd (aCons (eV 0) (aCons (eV 1) (aNil)))) (gN 2))
    (sSeq (sIf (cE (eOp oLt (eV 1) (eC (.int 0)))) (sAsg (eUn oNeg (eV 2)) (gN 2)) (sNx))
    (sRet (eFn oTup (aCons (eOp oFdiv (eV 0) (eV 2)) (aCons (eOp oFdiv (eV 1) (eV 2)) (aNil))))))))
def m_point : List D → Res D := runB 2 4 (sSeq (sIf (cE (eOp oEq (eV 1) (eC (.int 0)))) (sNever) (sNx))
    (sSeq (sAsg (eV 1) (gN 2))
    (sSeq (sFor (iSq (eV 0)) (gN 3) (sAsg (eFn fGcd (aCons (eV 2) (aCons (eV 3) (aNil)))) (gN 2)))
    (sSeq (sAsg (eFn fAbs (aCons (eV 2) (aNil))) (gN 2))
    (sSeq (sIf (cE (eOp oLt (eV 1) (eC (.int 0)))) (sAsg (eUn oNeg (eV 2)) (gN 2)) (sNx))
    (sRet (eOp oAdd (eFn fTup (aCons (eLc (iSq (eV 0)) [3] (gN 3) (cYes) (eOp oFdiv (eV 3) (eV 2))) (aNil))) (eFn oTup (aCons (eOp oFdiv (eV 1) (eV 2)) (aNil))))))))))
def m_all_in : List D → Res D := runB 2 3 (sSeq (sFor (iSq (eV 0)) (gN 2) (sIf (cE (eOp oNotIn (eV 2) (eV 1))) (sRet (eC (.bl false))) (sNx)))
    (sRet (eC (.bl true))))
def m_is_name : List D → Res D := runB 1 1 (sSeq (sIf (cOr (cE (eOp oLt (eFn fLen (aCons (eV 0) (aNil))) (eC (.int 1)))) (cOr (cE (eOp oGt (eFn fLen (aCons (eV 0) (aNil))) (eC (.int 8)))) (cE (eOp oIn (eV 0) (eC c_TAKEN))))) (sRet (eC (.bl false))) (sNx))
    (sRet (eAnd (eOp oIn (eOp oIx (eV 0) (eC (.int 0))) (eC (.str ("abcdefghijklmnopqrstuvwxyz" : Str)))) (eCallN m_all_in (aCons (eV 0) (aCons (eOp oAdd (eC (.str ("abcdefghijklmnopqrstuvwxyz" : Str))) (eC (.str ("0123456789" : Str)))) (aNil)))))))
def m_is_digits : List D → Res D := runB 1 1 (sSeq (sIf (cOr (cE (eOp oLt (eFn fLen (aCons (eV 0) (aNil))) (eC (.int 1)))) (cOr (cE (eOp oGt (eFn fLen (aCons (eV 0) (aNil))) (eC (.int 60)))) (cNot (cE (eCallN m_all_in (aCons (eV 0) (aCons (eC (.str ("0123456789" : Str))) (aNil)))))))) (sRet (eC (.bl false))) (sNx))
    (sRet (eOr (eOp oEq (eFn fLen (aCons (eV 0) (aNil))) (eC (.int 1))) (eOp oNe (eOp oIx (eV 0) (eC (.int 0))) (eC (.str ("0" : Str)))))))
def m_is_whole : List D → Res D := runB 1 1 (sSeq (sIf (cE (eOp oEq (eCut (eV 0) (pNo) (pE (eC (.int 1)))) (eC (.str ("-" : Str))))) (sRet (eAnd (eCallN m_is_digits (aCons (eCut (eV 0) (pE (eC (.int 1))) (pNo)) (aNil))) (eOp oNe (eV 0) (eC (.str ("-0" : Str)))))) (sNx))
    (sRet (eCallN m_is_digits (aCons (eV 0) (aNil)))))
def m_is_ratio_word : List D → Res D := runB 1 4 (sSeq (sAsg (eMs gPart (eV 0) (aCons (eC (.str ("/" : Str))) aNil)) (gT 3 (gsCons (gN 1) (gsCons (gN 2) (gsCons (gN 3) (gsNil))))))
    (sSeq (sIf (cE (eOp oEq (eV 2) (eC (.str ("" : Str))))) (sRet (eCallN m_is_whole (aCons (eV 0) (aNil)))) (sNx))
    (sSeq (sIf (cOr (cNot (cE (eCallN m_is_whole (aCons (eV 1) (aNil))))) (cOr (cNot (cE (eCallN m_is_digits (aCons (eV 3) (aNil))))) (cE (eOp oIn (eV 3) (eFn oTup (aCons (eC (.str ("0" : Str))) (aCons (eC (.str ("1" : Str))) (aNil)))))))) (sRet (eC (.bl false))) (sNx))
    (sRet (eOp oEq (eCallN m_ratio (aCons (eFn fInt (aCons (eV 1) (aNil))) (aCons (eFn fInt (aCons (eV 3) (aNil))) (aNil)))) (eFn oTup (aCons (eFn fInt (aCons (eV 1) (aNil))) (aCons (eFn fInt (aCons (eV 3) (aNil))) (aNil)))))))))
def m_write_ratio : List D → Res D := runB 1 1 (sSeq (sIf (cE (eOp oEq (eOp oIx (eV 0) (eC (.int 1))) (eC (.int 1)))) (sRet (eFn fStr (aCons (eOp oIx (eV 0) (eC (.int 0))) (aNil)))) (sNx))
    (sRet (eOp oAdd (eOp oAdd (eFn fStr (aCons (eOp oIx (eV 0) (eC (.int 0))) (aNil))) (eC (.str ("/" : Str)))) (eFn fStr (aCons (eOp oIx (eV 0) (eC (.int 1))) (aNil))))))
def m_read_ratio : List D → Res D := runB 1 4 (sSeq (sIf (cNot (cE (eCallN m_is_ratio_word (aCons (eV 0) (aNil))))) (sRaise 2 ["word"] (aCons (eV 0) (aNil))) (sNx))
    (sSeq (sAsg (eMs gPart (eV 0) (aCons (eC (.str ("/" : Str))) aNil)) (gT 3 (gsCons (gN 1) (gsCons (gN 2) (gsCons (gN 3) (gsNil))))))
    (sSeq (sIf (cE (eOp oEq (eV 2) (eC (.str ("" : Str))))) (sRet (eFn oTup (aCons (eFn fInt (aCons (eV 1) (aNil))) (aCons (eC (.int 1)) (aNil))))) (sNx))
    (sRet (eFn oTup (aCons (eFn fInt (aCons (eV 1) (aNil))) (aCons (eFn fInt (aCons (eV 3) (aNil))) (aNil))))))))
def m_write_point : List D → Res D := runB 1 2 (sRet (eMs gJoin (eC (.str (" " : Str))) (aCons (eLc (iSq (eCut (eV 0) (pNo) (pE (eUn oNeg (eC (.int 1)))))) [1] (gN 1) (cYes) (eCallN m_write_ratio (aCons (eCallN m_ratio (aCons (eV 1) (aCons (eOp oIx (eV 0) (eUn oNeg (eC (.int 1)))) (aNil)))) (aNil)))) aNil)))
def m_point_from : List D → Res D := runB 1 3 (sSeq (sAsg (eC (.int 1)) (gN 1))
    (sSeq (sFor (iSq (eV 0)) (gN 2) (sAsg (eOp oMul (eV 1) (eOp oIx (eV 2) (eC (.int 1)))) (gN 1)))
    (sRet (eCallN m_point (aCons (eLc (iSq (eV 0)) [2] (gN 2) (cYes) (eOp oMul (eOp oIx (eV 2) (eC (.int 0))) (eOp oFdiv (eV 1) (eOp oIx (eV 2) (eC (.int 1)))))) (aCons (eV 1) (aNil)))))))
def m_read_point : List D → Res D := runB 1 3 (sSeq (sAsg (eLcX (iSq (eMs gSplit (eV 0) (aCons (eC (.str (" " : Str))) aNil))) [2] (gN 2) (eCall m_read_ratio (aCons (eV 2) (aNil)))) (gN 1))
    (sSeq (sIf (cE (eOp oGt (eFn fLen (aCons (eV 1) (aNil))) (eC (.int 3)))) (sRaise 2 ["word"] (aCons (eV 0) (aNil))) (sNx))
    (sRet (eCallN m_point_from (aCons (eV 1) (aNil))))))
def m__law_cell : List D → Res D := runB 2 4 (sSeq (sIf (cE (eOp oLt (eV 1) (eFn fLen (aCons (eV 0) (aNil))))) (sRet (eOp oIx (eV 0) (eV 1))) (sNx))
    (sSeq (sAsg (eC (.int 17)) (gN 2))
    (sSeq (sFor (iSq (eV 0)) (gN 3) (sAsg (eOp oMod (eFn fInt (aCons (eOp oAdd (eOp oMul (eV 2) (eC (.int 31))) (eOp oMod (eFn fInt (aCons (eV 3) (aNil))) (eC (.int 1000003)))) (aNil))) (eC (.int 1000003))) (gN 2)))
    (sRet (eOp oMod (eFn fInt (aCons (eOp oMul (eOp oMul (eOp oAdd (eV 2) (eC (.int 7))) (eOp oAdd (eV 1) (eC (.int 3)))) (eC (.int 69621))) (aNil))) (eC (.int 2147483647)))))))
def m__law_digits : List D → Res D := runB 2 8 (sSeq (sNewL 2 (aNil))
    (sSeq (sAsg (eFn fInt (aCons (eV 0) (aNil))) (gN 3))
    (sSeq (sIf (cE (eOp oGe (eV 3) (eOp oPowD (eC (.int 10)) (eC (.int 18))))) (sSeq (sAsg (eOp oSub (eV 3) (eOp oPowD (eC (.int 10)) (eC (.int 18)))) (gN 3))
    (sSeq (sFor (iSq (eV 1)) (gN 6) (sSeq (sApp 2 (eOp oMod (eFn fInt (aCons (eV 3) (aNil))) (eV 6)))
    (sAsg (eOp oFdiv (eFn fInt (aCons (eV 3) (aNil))) (eV 6)) (gN 3))))
    (sFrz 2 (sRet (eV 2))))) (sNx))
    (sSeq (sAsg (eOp oMod (eFn fInt (aCons (eV 3) (aNil))) (eC (.int 2147483629))) (gN 4))
    (sSeq (sFor (iR1 (aCons (eFn fLen (aCons (eV 1) (aNil))) (aNil))) (gN 5) (sSeq (sAsg (eOp oMod (eFn fInt (aCons (eOp oAdd (eOp oAdd (eOp oMul (eV 4) (eC (.int 48271))) (eOp oMul (eC (.int 974711)) (eV 5))) (eC (.int 12345))) (aNil))) (eC (.int 2147483647))) (gN 4))
    (sSeq (sAsg (eOp oMod (eFn fInt (aCons (eOp oMul (eV 4) (eOp oAdd (eOp oFdiv (eV 4) (eC (.int 65537))) (eC (.int 3)))) (aNil))) (eC (.int 2147483629))) (gN 7))
    (sApp 2 (eOp oMod (eOp oFdiv (eV 7) (eC (.int 19))) (eOp oIx (eV 1) (eV 5)))))))
    (sFrz 2 (sRet (eV 2))))))))
def m__law_gcd : List D → Res D := runB 2 3 (sSeq (sAsg (eFn fAbs (aCons (eV 0) (aNil))) (gN 0))
    (sSeq (sAsg (eFn fAbs (aCons (eV 1) (aNil))) (gN 1))
    (sSeq (sWhile (fuelI 1) (cE (eOp oNe (eV 1) (eC (.int 0)))) (sSeq (sAsg (eOp oMod (eFn fInt (aCons (eV 0) (aNil))) (eV 1)) (gN 2))
    (sSeq (sAsg (eV 1) (gN 0))
    (sAsg (eV 2) (gN 1)))))
    (sRet (eV 0)))))
def m__law_reduced : List D → Res D := runB 2 4 (sSeq (sAsg (eV 1) (gN 2))
    (sSeq (sFor (iSq (eV 0)) (gN 3) (sAsg (eCallN m__law_gcd (aCons (eV 2) (aCons (eV 3) (aNil)))) (gN 2)))
    (sRet (eOp oAdd (eFn fTup (aCons (eLc (iSq (eV 0)) [3] (gN 3) (cYes) (eOp oFdiv (eV 3) (eV 2))) (aNil))) (eFn oTup (aCons (eOp oFdiv (eV 1) (eV 2)) (aNil)))))))
def m__law_fraction : List D → Res D := runB 2 3 (sSeq (sAsg (eCallN m__law_gcd (aCons (eV 0) (aCons (eV 1) (aNil)))) (gN 2))
    (sSeq (sIf (cE (eOp oLt (eV 1) (eC (.int 0)))) (sAsg (eUn oNeg (eV 2)) (gN 2)) (sNx))
    (sRet (eFn oTup (aCons (eOp oFdiv (eV 0) (eV 2)) (aCons (eOp oFdiv (eV 1) (eV 2)) (aNil)))))))
def m__law_motion : List D → Res D := runB 3 6 (sSeq (sAsg (eOp oIx (eFn oLst (aCons (eC (.int 1)) (aCons (eC (.int 2)) (aCons (eC (.int 3)) (aCons (eC (.int 1)) (aCons (eC (.int 4)) (aCons (eC (.int 5)) (aCons (eC (.int 1)) (aCons (eC (.int 6)) (aCons (eC (.int 2)) (aCons (eC (.int 7)) (aCons (eC (.int 10)) (aCons (eC (.int 12)) (aNil)))))))))))))) (eOp oIx (eV 0) (eC (.int 0)))) (gN 3))
    (sSeq (sAsg (eOp oAdd (eOp oMul (eOp oMul (eC (.int 2)) (eV 2)) (eV 3)) (eC (.int 1))) (gN 4))
    (sRet (eCallN m__law_reduced (aCons (eLc (iR1 (aCons (eV 1) (aNil))) [5] (gN 5) (cYes) (eOp oSub (eOp oMod (eFn fInt (aCons (eOp oIx (eV 0) (eOp oAdd (eC (.int 1)) (eV 5))) (aNil))) (eV 4)) (eOp oMul (eV 2) (eV 3)))) (aCons (eV 3) (aNil)))))))
def m__law_truth : List D → Res D := runB 2 2 (sSeq (sIf (cE (eV 1)) (sRet (eOp oIs (eV 0) (eC (.bl true)))) (sNx))
    (sRet (eOp oIs (eV 0) (eC (.bl false)))))
def m__law_big : List D → Res D := runB 1 2 (sSeq (sAsg (eOp oIx (eFn oLst (aCons (eOp oMod (eFn fInt (aCons (eOp oIx (eV 0) (eC (.int 1))) (aNil))) (eC (.int 13))) (aCons (eOp oMod (eFn fInt (aCons (eOp oIx (eV 0) (eC (.int 1))) (aNil))) (eC (.int 1009))) (aCons (eFn fInt (aCons (eOp oIx (eV 0) (eC (.int 1))) (aNil))) (aCons (eOp oAdd (eOp oMul (eFn fInt (aCons (eOp oIx (eV 0) (eC (.int 1))) (aNil))) (eOp oPowD (eC (.int 10)) (eC (.int 18)))) (eFn fInt (aCons (eOp oIx (eV 0) (eC (.int 2))) (aNil)))) (aNil)))))) (eOp oMod (eFn fInt (aCons (eOp oIx (eV 0) (eC (.int 0))) (aNil))) (eC (.int 4)))) (gN 1))
    (sSeq (sIf (cE (eOp oEq (eOp oMod (eOp oFdiv (eFn fInt (aCons (eOp oIx (eV 0) (eC (.int 0))) (aNil))) (eC (.int 4))) (eC (.int 4))) (eC (.int 3)))) (sAsg (eOp oAdd (eOp oAdd (eOp oMul (eFn fInt (aCons (eOp oIx (eV 0) (eC (.int 1))) (aNil))) (eOp oPowD (eC (.int 10)) (eC (.int 45)))) (eOp oMul (eFn fInt (aCons (eOp oIx (eV 0) (eC (.int 2))) (aNil))) (eOp oPowD (eC (.int 10)) (eC (.int 22))))) (eFn fInt (aCons (eOp oIx (eV 0) (eC (.int 3))) (aNil)))) (gN 1)) (sNx))
    (sSeq (sIf (cE (eOp oEq (eOp oMod (eOp oFdiv (eFn fInt (aCons (eOp oIx (eV 0) (eC (.int 0))) (aNil))) (eC (.int 16))) (eC (.int 2))) (eC (.int 1)))) (sRet (eUn oNeg (eV 1))) (sNx))
    (sRet (eV 1)))))
def m__law_ratio_text : List D → Res D := runB 2 3 (sSeq (sAsg (eCallN m__law_gcd (aCons (eV 0) (aCons (eV 1) (aNil)))) (gN 2))
    (sSeq (sIf (cE (eOp oEq (eOp oFdiv (eV 1) (eV 2)) (eC (.int 1)))) (sRet (eFn fStr (aCons (eOp oFdiv (eV 0) (eV 2)) (aNil)))) (sNx))
    (sRet (eOp oAdd (eOp oAdd (eFn fStr (aCons (eOp oFdiv (eV 0) (eV 2)) (aNil))) (eC (.str ("/" : Str)))) (eFn fStr (aCons (eOp oFdiv (eV 1) (eV 2)) (aNil)))))))
def m__law_place_text : List D → Res D := runB 1 3 (sSeq (sAsg (eOp oSub (eFn fLen (aCons (eV 0) (aNil))) (eC (.int 1))) (gN 1))
    (sRet (eMs gJoin (eC (.str (" " : Str))) (aCons (eLc (iR1 (aCons (eV 1) (aNil))) [2] (gN 2) (cYes) (eCallN m__law_ratio_text (aCons (eOp oIx (eV 0) (eV 2)) (aCons (eOp oIx (eV 0) (eV 1)) (aNil))))) aNil))))
def m__law_name : List D → Res D := runB 1 4 (sSeq (sAsg (eC (.str ("abcdefghijklmnopqrstuvwxyz" : Str))) (gN 1))
    (sSeq (sAsg (eOp oIx (eV 1) (eOp oMod (eFn fInt (aCons (eV 0) (aNil))) (eC (.int 26)))) (gN 2))
    (sSeq (sAsg (eOp oFdiv (eFn fInt (aCons (eV 0) (aNil))) (eC (.int 26))) (gN 3))
    (sSeq (sIf (cE (eOp oGt (eOp oMod (eFn fInt (aCons (eV 3) (aNil))) (eC (.int 4))) (eC (.int 0)))) (sAsg (eOp oAdd (eV 2) (eOp oIx (eC (.str ("0123456789" : Str))) (eOp oMod (eOp oFdiv (eFn fInt (aCons (eV 3) (aNil))) (eC (.int 4))) (eC (.int 10))))) (gN 2)) (sNx))
    (sSeq (sIf (cE (eOp oGt (eOp oMod (eFn fInt (aCons (eV 3) (aNil))) (eC (.int 4))) (eC (.int 1)))) (sAsg (eOp oAdd (eV 2) (eOp oIx (eV 1) (eOp oMod (eOp oFdiv (eFn fInt (aCons (eV 3) (aNil))) (eC (.int 40))) (eC (.int 26))))) (gN 2)) (sNx))
    (sSeq (sIf (cE (eOp oEq (eOp oMod (eFn fInt (aCons (eV 3) (aNil))) (eC (.int 4))) (eC (.int 3)))) (sAsg (eOp oAdd (eOp oAdd (eV 2) (eOp oIx (eV 1) (eOp oMod (eOp oFdiv (eFn fInt (aCons (eV 3) (aNil))) (eC (.int 1040))) (eC (.int 26))))) (eC (.str ("0z9" : Str)))) (gN 2)) (sNx))
    (sRet (eV 2))))))))
def m__law_digits_text : List D → Res D := runB 1 2 (sSeq (sIf (cOr (cE (eOp oLt (eFn fLen (aCons (eV 0) (aNil))) (eC (.int 1)))) (cOr (cE (eOp oGt (eFn fLen (aCons (eV 0) (aNil))) (eC (.int 60)))) (cE (eFn fAny (aCons (eLc (iSq (eV 0)) [1] (gN 1) (cYes) (eOp oNotIn (eV 1) (eC (.str ("0123456789" : Str))))) (aNil)))))) (sRet (eC (.bl false))) (sNx))
    (sRet (eOr (eOp oEq (eFn fLen (aCons (eV 0) (aNil))) (eC (.int 1))) (eOp oNe (eOp oIx (eV 0) (eC (.int 0))) (eC (.str ("0" : Str)))))))
def m__law_read : List D → Res D := runB 1 3 (sSeq (sAsg (eMs gSplit (eV 0) (aCons (eC (.str ("/" : Str))) aNil)) (gN 1))
    (sSeq (sIf (cE (eOp oGt (eFn fLen (aCons (eV 1) (aNil))) (eC (.int 2)))) (sRet (eC .non)) (sNx))
    (sSeq (sAsg (eOp oIx (eV 1) (eC (.int 0))) (gN 2))
    (sSeq (sIf (cE (eOp oEq (eCut (eV 2) (pNo) (pE (eC (.int 1)))) (eC (.str ("-" : Str))))) (sSeq (sAsg (eCut (eV 2) (pE (eC (.int 1))) (pNo)) (gN 2))
    (sIf (cE (eOp oEq (eV 2) (eC (.str ("0" : Str))))) (sRet (eC .non)) (sNx))) (sNx))
    (sSeq (sIf (cNot (cE (eCallN m__law_digits_text (aCons (eV 2) (aNil))))) (sRet (eC .non)) (sNx))
    (sSeq (sIf (cE (eOp oEq (eFn fLen (aCons (eV 1) (aNil))) (eC (.int 1)))) (sRet (eFn oTup (aCons (eFn fInt (aCons (eOp oIx (eV 1) (eC (.int 0))) (aNil))) (aCons (eC (.int 1)) (aNil))))) (sNx))
    (sSeq (sIf (cOr (cNot (cE (eCallN m__law_digits_text (aCons (eOp oIx (eV 1) (eC (.int 1))) (aNil))))) (cOr (cE (eOp oLt (eFn fInt (aCons (eOp oIx (eV 1) (eC (.int 1))) (aNil))) (eC (.int 2)))) (cE (eOp oNe (eCallN m__law_gcd (aCons (eFn fInt (aCons (eOp oIx (eV 1) (eC (.int 0))) (aNil))) (aCons (eFn fInt (aCons (eOp oIx (eV 1) (eC (.int 1))) (aNil))) (aNil)))) (eC (.int 1)))))) (sRet (eC .non)) (sNx))
    (sRet (eFn oTup (aCons (eFn fInt (aCons (eOp oIx (eV 1) (eC (.int 0))) (aNil))) (aCons (eFn fInt (aCons (eOp oIx (eV 1) (eC (.int 1))) (aNil))) (aNil))))))))))))
def m__law_asked : List D → Res D := runB 1 2 (sTry true (eFn oLst (aCons (eC (.str ("told" : Str))) (aCons (eCall m_read_ratio (aCons (eV 0) (aNil))) (aNil)))) 1 cm_BadWord (fun c fs => sRet (eFn oLst (aCons (eC (.str ("bad" : Str))) (aCons (eXf xf_word c fs "word") (aCons (eXi is_CalmError c) (aNil)))))))
def m__law_point_asked : List D → Res D := runB 1 2 (sTry true (eFn oLst (aCons (eC (.str ("told" : Str))) (aCons (eCall m_read_point (aCons (eV 0) (aNil))) (aNil)))) 1 cm_BadWord (fun c fs => sRet (eFn oLst (aCons (eC (.str ("bad" : Str))) (aCons (eXf xf_word c fs "word") (aCons (eXi is_CalmError c) (aNil)))))))
def m__law_point_due : List D → Res D := runB 1 7 (sSeq (sAsg (eMs gSplit (eV 0) (aCons (eC (.str (" " : Str))) aNil)) (gN 1))
    (sSeq (sAsg (eLc (iSq (eV 1)) [6] (gN 6) (cYes) (eCallN m__law_read (aCons (eV 6) (aNil)))) (gN 2))
    (sSeq (sFor (iR1 (aCons (eFn fLen (aCons (eV 1) (aNil))) (aNil))) (gN 3) (sIf (cE (eOp oIs (eOp oIx (eV 2) (eV 3)) (eC .non))) (sRet (eFn oLst (aCons (eC (.str ("bad" : Str))) (aCons (eOp oIx (eV 1) (eV 3)) (aCons (eC (.bl true)) (aNil)))))) (sNx)))
    (sSeq (sIf (cE (eOp oGt (eFn fLen (aCons (eV 1) (aNil))) (eC (.int 3)))) (sRet (eFn oLst (aCons (eC (.str ("bad" : Str))) (aCons (eV 0) (aCons (eC (.bl true)) (aNil)))))) (sNx))
    (sSeq (sAsg (eC (.int 1)) (gN 4))
    (sSeq (sFor (iSq (eV 2)) (gN 5) (sAsg (eOp oFdiv (eOp oMul (eV 4) (eOp oIx (eV 5) (eC (.int 1)))) (eCallN m__law_gcd (aCons (eV 4) (aCons (eOp oIx (eV 5) (eC (.int 1))) (aNil))))) (gN 4)))
    (sRet (eFn oLst (aCons (eC (.str ("told" : Str))) (aCons (eCallN m__law_reduced (aCons (eLc (iSq (eV 2)) [5] (gN 5) (cYes) (eOp oMul (eOp oIx (eV 5) (eC (.int 0))) (eOp oFdiv (eV 4) (eOp oIx (eV 5) (eC (.int 1)))))) (aCons (eV 4) (aNil)))) (aNil)))))))))))
def m__law_spoilt : List D → Res D := runB 2 4 (sSeq (sAsg (eOp oMod (eFn fInt (aCons (eOp oIx (eV 1) (eC (.int 0))) (aNil))) (eOp oAdd (eFn fLen (aCons (eV 0) (aNil))) (eC (.int 1)))) (gN 2))
    (sSeq (sAsg (eFn oLst (aCons (eOp oAdd (eC (.str ("0" : Str))) (eV 0)) (aCons (eOp oAdd (eC (.str ("+" : Str))) (eV 0)) (aCons (eOp oAdd (eC (.str ("-" : Str))) (eV 0)) (aCons (eOp oAdd (eV 0) (eC (.str ("/1" : Str)))) (aCons (eOp oAdd (eV 0) (eC (.str ("/0" : Str)))) (aCons (eOp oAdd (eV 0) (eC (.str ("/" : Str)))) (aCons (eOp oAdd (eC (.str ("/" : Str))) (eV 0)) (aCons (eOp oAdd (eV 0) (eC (.str (" " : Str)))) (aCons (eOp oAdd (eC (.str (" " : Str))) (eV 0)) (aNil))))))))))) (gN 3))
    (sSeq (sAsg (eOp oAdd (eV 3) (eFn oLst (aCons (eOp oAdd (eV 0) (eC (.str ("\n" : Str)))) (aCons (eOp oAdd (eV 0) (eC (.str ("a" : Str)))) (aCons (eOp oAdd (eOp oAdd (eCut (eV 0) (pNo) (pE (eV 2))) (eC (.str ("0" : Str)))) (eCut (eV 0) (pE (eV 2)) (pNo))) (aCons (eOp oAdd (eCut (eV 0) (pNo) (pE (eV 2))) (eCut (eV 0) (pE (eOp oAdd (eV 2) (eC (.int 1)))) (pNo))) (aCons (eC (.str ("" : Str))) (aCons (eC (.str ("-0" : Str))) (aCons (eC (.str ("-" : Str))) (aCons (eC (.str ("00" : Str))) (aNil))))))))))) (gN 3))
    (sSeq (sAsg (eOp oAdd (eV 3) (eFn oLst (aCons (eOp oAdd (eOp oAdd (eCut (eV 0) (pNo) (pE (eV 2))) (eC (.str ("/" : Str)))) (eCut (eV 0) (pE (eV 2)) (pNo))) (aCons (eC (.str ("2/4" : Str))) (aCons (eC (.str ("0/5" : Str))) (aCons (eC (.str ("-3/6" : Str))) (aCons (eOp oMul (eC (.str ("1" : Str))) (eC (.int 61))) (aCons (eOp oMul (eC (.str ("1" : Str))) (eC (.int 60))) (aCons (eOp oAdd (eC (.str ("-" : Str))) (eOp oMul (eC (.str ("9" : Str))) (eC (.int 60)))) (aCons (eOp oAdd (eC (.str ("-" : Str))) (eOp oMul (eC (.str ("9" : Str))) (eC (.int 61)))) (aNil))))))))))) (gN 3))
    (sRet (eOp oAdd (eV 3) (eFn oLst (aCons (eOp oAdd (eC (.str ("1/" : Str))) (eOp oMul (eC (.str ("3" : Str))) (eC (.int 60)))) (aCons (eOp oAdd (eC (.str ("1/" : Str))) (eOp oMul (eC (.str ("3" : Str))) (eC (.int 61)))) (aCons (eMs gUpper (eV 0) aNil) (aCons (eC (.str ("7_0" : Str))) (aCons (eC (.str ("1.0" : Str))) (aCons (eOp oAdd (eOp oAdd (eV 0) (eC (.str ("/" : Str)))) (eV 0)) (aNil))))))))))))))
def m__law_is_name : List D → Res D := runB 1 4 (sSeq (sAsg (eFn oLst (aCons (eC (.str ("half" : Str))) (aCons (eC (.str ("quota" : Str))) (aCons (eC (.str ("lots" : Str))) (aCons (eC (.str ("veto" : Str))) (aCons (eC (.str ("both" : Str))) (aCons (eC (.str ("either" : Str))) (aCons (eC (.str ("opposite" : Str))) (aCons (eC (.str ("with" : Str))) (aCons (eC (.str ("along" : Str))) (aCons (eC (.str ("times" : Str))) (aNil)))))))))))) (gN 1))
    (sSeq (sAsg (eC (.str ("abcdefghijklmnopqrstuvwxyz" : Str))) (gN 2))
    (sSeq (sIf (cOr (cE (eOp oLt (eFn fLen (aCons (eV 0) (aNil))) (eC (.int 1)))) (cOr (cE (eOp oGt (eFn fLen (aCons (eV 0) (aNil))) (eC (.int 8)))) (cOr (cE (eOp oIn (eV 0) (eV 1))) (cE (eOp oNotIn (eOp oIx (eV 0) (eC (.int 0))) (eV 2)))))) (sRet (eC (.bl false))) (sNx))
    (sRet (eNot (eFn fAny (aCons (eLc (iSq (eV 0)) [3] (gN 3) (cYes) (eOp oNotIn (eV 3) (eOp oAdd (eV 2) (eC (.str ("0123456789" : Str)))))) (aNil))))))))
def m__law_names_right : List D → Res D := runB 1 3 (sSeq (sAsg (eFn oLst (aCons (eCallN m__law_name (aCons (eOp oIx (eV 0) (eC (.int 0))) (aNil))) (aCons (eOp oAdd (eCallN m__law_name (aCons (eOp oIx (eV 0) (eC (.int 1))) (aNil))) (eCallN m__law_name (aCons (eOp oIx (eV 0) (eC (.int 2))) (aNil)))) (aCons (eMs gUpper (eCallN m__law_name (aCons (eOp oIx (eV 0) (eC (.int 0))) (aNil))) aNil) (aCons (eC (.str ("" : Str))) (aCons (eC (.str ("a b" : Str))) (aCons (eC (.str ("ann\n" : Str))) (aCons (eC (.str ("a-b" : Str))) (aNil))))))))) (gN 1))
    (sSeq (sAsg (eOp oAdd (eV 1) (eFn oLst (aCons (eC (.str ("half" : Str))) (aCons (eC (.str ("quota" : Str))) (aCons (eC (.str ("lots" : Str))) (aCons (eC (.str ("veto" : Str))) (aCons (eC (.str ("both" : Str))) (aCons (eC (.str ("either" : Str))) (aCons (eC (.str ("opposite" : Str))) (aCons (eC (.str ("with" : Str))) (aCons (eC (.str ("along" : Str))) (aCons (eC (.str ("times" : Str))) (aCons (eC (.str ("halfs" : Str))) (aNil)))))))))))))) (gN 1))
    (sSeq (sAsg (eOp oAdd (eV 1) (eFn oLst (aCons (eC (.str ("council" : Str))) (aCons (eC (.str ("abcdefgh" : Str))) (aCons (eC (.str ("abcdefghi" : Str))) (aCons (eC (.str ("9a" : Str))) (aCons (eC (.str ("a9" : Str))) (aCons (eOp oMul (eC (.str ("z" : Str))) (eC (.int 8))) (aCons (eOp oMul (eC (.str ("z" : Str))) (eC (.int 9))) (aCons (eC (.str ("_a" : Str))) (aCons (eC (.str ("a_" : Str))) (aNil)))))))))))) (gN 1))
    (sRet (eFn fAll (aCons (eLc (iSq (eV 1)) [2] (gN 2) (cYes) (eCallN m__law_truth (aCons (eCallN m_is_name (aCons (eV 2) (aNil))) (aCons (eCallN m__law_is_name (aCons (eV 2) (aNil))) (aNil))))) (aNil)))))))
def m_law : List D → Res D := runB 1 12 (sSeq (sAsg (eCallN m__law_digits (aCons (eCallN m__law_cell (aCons (eV 0) (aCons (eC (.int 0)) (aNil)))) (aCons (eOp oAdd (eOp oAdd (eOp oAdd (eOp oAdd (eFn oLst (aCons (eC (.int 96)) (aNil))) (eOp oMul (eFn oLst (aCons (eOp oPowD (eC (.int 10)) (eC (.int 9))) (aNil))) (eC (.int 3)))) (eFn oLst (aCons (eC (.int 96)) (aNil)))) (eOp oMul (eFn oLst (aCons (eOp oPowD (eC (.int 10)) (eC (.int 9))) (aNil))) (eC (.int 3)))) (eFn oLst (aCons (eC (.int 3)) (aNil)))) (aNil)))) (gN 1))
    (sSeq (sNewL 2 (aCons (eCallN m__law_fraction (aCons (eCallN m__law_big (aCons (eCut (eV 1) (pNo) (pE (eC (.int 4)))) (aNil))) (aCons (eOp oAdd (eFn fAbs (aCons (eCallN m__law_big (aCons (eCut (eV 1) (pE (eC (.int 4))) (pE (eC (.int 8)))) (aNil))) (aNil))) (eC (.int 1))) (aNil)))) (aNil)))
    (sSeq (sAsg (eCallN m__law_digits (aCons (eCallN m__law_cell (aCons (eV 0) (aCons (eC (.int 1)) (aNil)))) (aCons (eFn oLst (aCons (eC (.int 199)) (aCons (eC (.int 30)) (aCons (eC (.int 199)) (aCons (eC (.int 30)) (aNil)))))) (aNil)))) (gN 3))
    (sSeq (sApp 2 (eCallN m__law_fraction (aCons (eOp oSub (eFn fInt (aCons (eOp oIx (eV 3) (eC (.int 0))) (aNil))) (eC (.int 99))) (aCons (eOp oAdd (eC (.int 1)) (eFn fInt (aCons (eOp oIx (eV 3) (eC (.int 1))) (aNil)))) (aNil)))))
    (sSeq (sApp 2 (eCallN m__law_fraction (aCons (eOp oSub (eFn fInt (aCons (eOp oIx (eV 3) (eC (.int 2))) (aNil))) (eC (.int 99))) (aCons (eC (.int 1)) (aNil)))))
    (sFrz 2 (sSeq (sFor (iSq (eV 2)) (gN 4) (sSeq (sAsg (eCallN m__law_ratio_text (aCons (eOp oIx (eV 4) (eC (.int 0))) (aCons (eOp oIx (eV 4) (eC (.int 1))) (aNil)))) (gN 10))
    (sSeq (sIf (cOr (cE (eOp oNe (eCallN m_write_ratio (aCons (eV 4) (aNil))) (eV 10))) (cE (eOp oNe (eCallN m__law_asked (aCons (eV 10) (aNil))) (eFn oLst (aCons (eC (.str ("told" : Str))) (aCons (eV 4) (aNil))))))) (sRet (eC (.bl false))) (sNx))
    (sFor (iSq (eCallN m__law_spoilt (aCons (eV 10) (aCons (eCallN m__law_digits (aCons (eCallN m__law_cell (aCons (eV 0) (aCons (eC (.int 2)) (aNil)))) (aCons (eFn oLst (aCons (eC (.int 997)) (aNil))) (aNil)))) (aNil))))) (gN 8) (sSeq (sAsg (eCallN m__law_read (aCons (eV 8) (aNil))) (gN 11))
    (sSeq (sIf (cAnd (cE (eOp oIs (eV 11) (eC .non))) (cE (eOp oNe (eCallN m__law_asked (aCons (eV 8) (aNil))) (eFn oLst (aCons (eC (.str ("bad" : Str))) (aCons (eV 8) (aCons (eC (.bl true)) (aNil)))))))) (sRet (eC (.bl false))) (sNx))
    (sIf (cAnd (cE (eOp oIsNot (eV 11) (eC .non))) (cE (eOp oNe (eCallN m__law_asked (aCons (eV 8) (aNil))) (eFn oLst (aCons (eC (.str ("told" : Str))) (aCons (eV 11) (aNil))))))) (sRet (eC (.bl false))) (sNx))))))))
    (sSeq (sAsg (eOp oAdd (eC (.int 1)) (eFn fInt (aCons (eOp oIx (eV 1) (eC (.int 8))) (aNil)))) (gN 5))
    (sSeq (sAsg (eCallN m__law_motion (aCons (eCallN m__law_digits (aCons (eCallN m__law_cell (aCons (eV 0) (aCons (eC (.int 3)) (aNil)))) (aCons (eOp oAdd (eFn oLst (aCons (eC (.int 12)) (aNil))) (eOp oMul (eFn oLst (aCons (eC (.int 4001)) (aNil))) (eC (.int 3)))) (aNil)))) (aCons (eV 5) (aCons (eC (.int 40)) (aNil))))) (gN 6))
    (sSeq (sAsg (eCallN m__law_place_text (aCons (eV 6) (aNil))) (gN 7))
    (sSeq (sIf (cOr (cE (eOp oNe (eCallN m_write_point (aCons (eV 6) (aNil))) (eV 7))) (cE (eOp oNe (eCallN m__law_point_asked (aCons (eV 7) (aNil))) (eFn oLst (aCons (eC (.str ("told" : Str))) (aCons (eV 6) (aNil))))))) (sRet (eC (.bl false))) (sNx))
    (sSeq (sFor (iSq (eCallN m__law_spoilt (aCons (eV 7) (aCons (eCallN m__law_digits (aCons (eCallN m__law_cell (aCons (eV 0) (aCons (eC (.int 4)) (aNil)))) (aCons (eFn oLst (aCons (eC (.int 997)) (aNil))) (aNil)))) (aNil))))) (gN 8) (sIf (cE (eOp oNe (eCallN m__law_point_asked (aCons (eV 8) (aNil))) (eCallN m__law_point_due (aCons (eV 8) (aNil))))) (sRet (eC (.bl false))) (sNx)))
    (sSeq (sAsg (eOp oAdd (eV 7) (eC (.str (" 1 2 3" : Str)))) (gN 9))
    (sSeq (sIf (cOr (cE (eOp oNe (eCallN m__law_point_asked (aCons (eV 9) (aNil))) (eFn oLst (aCons (eC (.str ("bad" : Str))) (aCons (eV 9) (aCons (eC (.bl true)) (aNil))))))) (cE (eOp oNe (eCallN m__law_point_asked (aCons (eC (.str ("1 x y" : Str))) (aNil))) (eFn oLst (aCons (eC (.str ("bad" : Str))) (aCons (eC (.str ("x" : Str))) (aCons (eC (.bl true)) (aNil)))))))) (sRet (eC (.bl false))) (sNx))
    (sRet (eCallN m__law_names_right (aCons (eCallN m__law_digits (aCons (eCallN m__law_cell (aCons (eV 0) (aCons (eC (.int 5)) (aNil)))) (aCons (eOp oMul (eFn oLst (aCons (eC (.int 200000)) (aNil))) (eC (.int 3))) (aNil)))) (aNil))))))))))))))))))
end L2.DL.K71
namespace L2.DL.K71
open PySem PyProof.Rows PySem.Spec
def top (i : Nat) : Stmt := PySem.Challenge.pw_calmspot_k71_signs.main.body.getD i (.Pass ⟨0, 0, 0, 0⟩)
def bodyOf_ : Stmt → List Stmt
  | .ClassDef
        (body := b) .. => b
  | _ => []
def clsTop (i k : Nat) : Stmt := (bodyOf_ (top i)).getD k (.Pass ⟨0, 0, 0, 0⟩)
structure Txt (P : Program) (w : World) (K : PySem.W.Frag) (mg : Str → Option Value) (base : Heap) (cls : Nat → Addr) : Prop where
  f_abs : mg "abs" = none
  f_tuple : mg "tuple" = none
  f_len : mg "len" = none
  f_int : mg "int" = none
  f_str : mg "str" = none
  f_range : mg "range" = none
  f_any : mg "any" = none
  f_isinstance : mg "isinstance" = none
  f_all : mg "all" = none
  g_gcd : mg "gcd" = some (.builtin "math.gcd")
  g_TAKEN : mg "TAKEN" = some (.ref (cls 1001))
  r_TAKEN : ∀ S, Rep ⟨K, cls⟩ S (.ref (cls 1001)) c_TAKEN
  g_LETTERS : ∃ t, mg "LETTERS" = some (.str "abcdefghijklmnopqrstuvwxyz" t)
  g_DIGITS : ∃ t, mg "DIGITS" = some (.str "0123456789" t)
  g_FIGURES : ∃ t, mg "FIGURES" = some (.int 60 t)
  g_BadWord : mg "BadWord" = some (.ref (cls 2))
  g_CalmError : mg "CalmError" = some (.ref (cls 0))
  e_BadWord : ExF P w K mg base (cls 2) "BadWord" ["word"]
  cm_BadWord : ∀ c b, K71.cm_BadWord c = some b → PySem.W.exmOne K (.ref (cls c)) (.ref (cls 2)) = some b
  xf_word : ∀ c ∈ K71.xf_word, XfC K (cls c) ∧ PySem.W.findIn K (.ref (cls c)) "word" = some none
  is_CalmError : ∀ c b, K71.is_CalmError c = some b → ExcC K (cls c) ∧ PySem.W.kitOne K (.ref (cls c)) (.ref (cls 0)) = some b
section
variable {P : Program} {w : World} {K : PySem.W.Frag} {mg : Str → Option Value} {base : Heap} {cls : Nat → Addr}
abbrev s_ratio : Stmt := top 6
theorem sc_ratio : FnScope ["top", "bottom", "common"] ["top", "bottom"] (defScope s_ratio) := ⟨rfl, rfl, rfl, by decide +kernel, rfl, by decide +kernel, by decide +kernel⟩
theorem ok_ratio {f : Addr} {fd : FuncData} (T : Txt P w K mg base cls) (F : FunD K "ratio" "ratio" (defArgs s_ratio) (defBody s_ratio) (defScope s_ratio) [] [] f fd) (hm : mg "ratio" = some (.ref f)) : Cal P w K mg base cls 1 "ratio" m_ratio :=
  ⟨f, fd, ["top", "bottom"], fnC_of F sc_ratio (fun _ _ _ _ _ _ us hl => match us, hl with | [_, _], _ => rfl) (by decide) (fun cdv A outer s H E H0 S0 hr => by
    have nd := sc_ratio.nd
    exact PSs.nox (dss_cons (ds_if (dt_cmp (os_eq hr.units) (dv 1) (de_int)) (dss_one (ds_never)) (dss_nil))
    (dss_cons (ds_set (i := 2) nd rfl (by first | exact Or.inl rfl | exact Or.inr rfl) (de_fnM cs_gcd rfl T.g_gcd (da_cons (dv 0) (da_cons (dv 1) (da_nil)))))
    (dss_cons (ds_if (dt_cmp (os_lt hr.units0) (dv 1) (de_int)) (dss_one (ds_set (i := 2) nd rfl (by first | exact Or.inl rfl | exact Or.inr rfl) (de_un os_neg (dv 2)))) (dss_nil))
    (dss_one (ds_ret (de_tup (da_cons (de_op os_fdiv (dv 0) (dv 2)) (da_cons (de_op os_fdiv (dv 1) (dv 2)) (da_nil)))))))))), hm⟩

abbrev s_point : Stmt := top 8
theorem sc_point : FnScope ["numbers", "bottom", "common", "number"] ["numbers", "bottom"] (defScope s_point) := ⟨rfl, rfl, rfl, by decide +kernel, rfl, by decide +kernel, by decide +kernel⟩
theorem ok_point {f : Addr} {fd : FuncData} (T : Txt P w K mg base cls) (F : FunD K "point" "point" (defArgs s_point) (defBody s_point) (defScope s_point) [] [] f fd) (hm : mg "point" = some (.ref f)) : Cal P w K mg base cls 1 "point" m_point :=
  ⟨f, fd, ["numbers", "bottom"], fnC_of F sc_point (fun _ _ _ _ _ _ us hl => match us, hl with | [_, _], _ => rfl) (by decide) (fun cdv A outer s H E H0 S0 hr => by
    have nd := sc_point.nd
    exact PSs.nox (dss_cons (ds_if (dt_cmp (os_eq hr.units) (dv 1) (de_int)) (dss_one (ds_never)) (dss_nil))
    (dss_cons (ds_set (i := 2) nd rfl (by first | exact Or.inl rfl | exact Or.inr rfl) (dv 1))
    (dss_cons (ds_for (vs := [3]) PassesOwn.never rfl (di_seq (dv 0)) (dg_name (i := 3) nd rfl (by first | exact Or.inl rfl | exact Or.inr rfl) (hv := (by decide))) (dss_one (ds_set (i := 2) nd rfl (by first | exact Or.inl rfl | exact Or.inr rfl) (de_fnM cs_gcd rfl T.g_gcd (da_cons (dv 2) (da_cons (dv 3) (da_nil)))))))
    (dss_cons (ds_set (i := 2) nd rfl (by first | exact Or.inl rfl | exact Or.inr rfl) (de_fnB cs_abs rfl T.f_abs (by decide +kernel) (da_cons (dv 2) (da_nil))))
    (dss_cons (ds_if (dt_cmp (os_lt hr.units0) (dv 1) (de_int)) (dss_one (ds_set (i := 2) nd rfl (by first | exact Or.inl rfl | exact Or.inr rfl) (de_un os_neg (dv 2)))) (dss_nil))
    (dss_one (ds_ret (de_op os_add (de_fnT cs_tup rfl T.f_tuple (by decide +kernel) (da_cons (de_lc (own := [("number", 3)]) rfl nd (di_seq (dv 0)) (blkOk_by (N := ["numbers", "bottom", "common", "number"]) (sc := defScope s_point) (by decide +kernel)) (fun _ _ _ _ _ => dg_name (i := 3) nd rfl (by first | exact Or.inl rfl | exact Or.inr rfl) (hv := (by decide))) (fun _ _ _ _ _ => dts_nil) (fun _ _ _ _ _ => de_op os_fdiv (dv 3) (dv 2))) (da_nil))) (de_tup (da_cons (de_op os_fdiv (dv 1) (dv 2)) (da_nil)))))))))))), hm⟩

abbrev s_all_in : Stmt := top 14
theorem sc_all_in : FnScope ["word", "signs", "sign"] ["word", "signs"] (defScope s_all_in) := ⟨rfl, rfl, rfl, by decide +kernel, rfl, by decide +kernel, by decide +kernel⟩
theorem ok_all_in {f : Addr} {fd : FuncData} (T : Txt P w K mg base cls) (F : FunD K "all_in" "all_in" (defArgs s_all_in) (defBody s_all_in) (defScope s_all_in) [] [] f fd) (hm : mg "all_in" = some (.ref f)) : Cal P w K mg base cls 1 "all_in" m_all_in :=
  ⟨f, fd, ["word", "signs"], fnC_of F sc_all_in (fun _ _ _ _ _ _ us hl => match us, hl with | [_, _], _ => rfl) (by decide) (fun cdv A outer s H E H0 S0 hr => by
    have nd := sc_all_in.nd
    exact PSs.nox (dss_cons (ds_for (vs := [2]) PassesOwn.never rfl (di_seq (dv 0)) (dg_name (i := 2) nd rfl (by first | exact Or.inl rfl | exact Or.inr rfl) (hv := (by decide))) (dss_one (ds_if (dt_cmp (os_notin hr.units) (dv 2) (dv 1)) (dss_one (ds_ret (de_bl))) (dss_nil))))
    (dss_one (ds_ret (de_bl))))), hm⟩

abbrev s_is_name : Stmt := top 15
theorem sc_is_name : FnScope ["word"] ["word"] (defScope s_is_name) := ⟨rfl, rfl, rfl, by decide +kernel, rfl, by decide +kernel, by decide +kernel⟩
theorem ok_is_name {f : Addr} {fd : FuncData} (T : Txt P w K mg base cls) (F : FunD K "is_name" "is_name" (defArgs s_is_name) (defBody s_is_name) (defScope s_is_name) [] [] f fd) (hm : mg "is_name" = some (.ref f)) (C_all_in : Cal P w K mg base cls 1 "all_in" m_all_in) : Cal P w K mg base cls 2 "is_name" m_is_name :=
  ⟨f, fd, ["word"], fnC_of F sc_is_name (fun _ _ _ _ _ _ us hl => match us, hl with | [_], _ => rfl) (by decide) (fun cdv A outer s H E H0 S0 hr => by
    have nd := sc_is_name.nd
    exact PSs.nox (dss_cons (ds_if (dt_pw (dw_or (dt_cmp (os_lt hr.units0) (de_fnB cs_len rfl T.f_len (by decide +kernel) (da_cons (dv 0) (da_nil))) (de_int)) (dw_or (dt_cmp os_gt (de_fnB cs_len rfl T.f_len (by decide +kernel) (da_cons (dv 0) (da_nil))) (de_int)) (dw_or1 (dt_cmp (os_in hr.units) (dv 0) (de_globR rfl T.g_TAKEN (T.r_TAKEN))))))) (dss_one (ds_ret (de_bl))) (dss_nil))
    (dss_one (ds_ret (de_and (de_cmp (os_in hr.units) (de_ix xs_ix (dv 0) (de_int)) (de_globS rfl T.g_LETTERS)) (de_one (de_call C_all_in (hr.mono (by decide)) rfl (da_cons (dv 0) (da_cons (de_op os_add (de_globS rfl T.g_LETTERS) (de_globS rfl T.g_DIGITS)) (da_nil)))))))))), hm⟩

abbrev s_is_digits : Stmt := top 16
theorem sc_is_digits : FnScope ["word"] ["word"] (defScope s_is_digits) := ⟨rfl, rfl, rfl, by decide +kernel, rfl, by decide +kernel, by decide +kernel⟩
theorem ok_is_digits {f : Addr} {fd : FuncData} (T : Txt P w K mg base cls) (F : FunD K "is_digits" "is_digits" (defArgs s_is_digits) (defBody s_is_digits) (defScope s_is_digits) [] [] f fd) (hm : mg "is_digits" = some (.ref f)) (C_all_in : Cal P w K mg base cls 1 "all_in" m_all_in) : Cal P w K mg base cls 2 "is_digits" m_is_digits :=
  ⟨f, fd, ["word"], fnC_of F sc_is_digits (fun _ _ _ _ _ _ us hl => match us, hl with | [_], _ => rfl) (by decide) (fun cdv A outer s H E H0 S0 hr => by
    have nd := sc_is_digits.nd
    exact PSs.nox (dss_cons (ds_if (dt_pw (dw_or (dt_cmp (os_lt hr.units0) (de_fnB cs_len rfl T.f_len (by decide +kernel) (da_cons (dv 0) (da_nil))) (de_int)) (dw_or (dt_cmp os_gt (de_fnB cs_len rfl T.f_len (by decide +kernel) (da_cons (dv 0) (da_nil))) (de_globI rfl T.g_FIGURES)) (dw_or1 (dt_not (dt_val (de_call C_all_in (hr.mono (by decide)) rfl (da_cons (dv 0) (da_cons (de_globS rfl T.g_DIGITS) (da_nil)))))))))) (dss_one (ds_ret (de_bl))) (dss_nil))
    (dss_one (ds_ret (de_or (de_cmp (os_eq hr.units) (de_fnB cs_len rfl T.f_len (by decide +kernel) (da_cons (dv 0) (da_nil))) (de_int)) (de_one (de_cmp (os_ne hr.units) (de_ix xs_ix (dv 0) (de_int)) (de_str)))))))), hm⟩

abbrev s_is_whole : Stmt := top 17
theorem sc_is_whole : FnScope ["word"] ["word"] (defScope s_is_whole) := ⟨rfl, rfl, rfl, by decide +kernel, rfl, by decide +kernel, by decide +kernel⟩
theorem ok_is_whole {f : Addr} {fd : FuncData} (T : Txt P w K mg base cls) (F : FunD K "is_whole" "is_whole" (defArgs s_is_whole) (defBody s_is_whole) (defScope s_is_whole) [] [] f fd) (hm : mg "is_whole" = some (.ref f)) (C_is_digits : Cal P w K mg base cls 2 "is_digits" m_is_digits) : Cal P w K mg base cls 3 "is_whole" m_is_whole :=
  ⟨f, fd, ["word"], fnC_of F sc_is_whole (fun _ _ _ _ _ _ us hl => match us, hl with | [_], _ => rfl) (by decide) (fun cdv A outer s H E H0 S0 hr => by
    have nd := sc_is_whole.nd
    exact PSs.nox (dss_cons (ds_if (dt_cmp (os_eq hr.units) (de_cut (dv 0) dp_no (dp_e (de_int))) (de_str)) (dss_one (ds_ret (de_and (de_call C_is_digits (hr.mono (by decide)) rfl (da_cons (de_cut (dv 0) (dp_e (de_int)) dp_no) (da_nil))) (de_one (de_cmp (os_ne hr.units) (dv 0) (de_str)))))) (dss_nil))
    (dss_one (ds_ret (de_call C_is_digits (hr.mono (by decide)) rfl (da_cons (dv 0) (da_nil))))))), hm⟩

abbrev s_is_ratio_word : Stmt := top 18
theorem sc_is_ratio_word : FnScope ["word", "top", "slash", "bottom"] ["word"] (defScope s_is_ratio_word) := ⟨rfl, rfl, rfl, by decide +kernel, rfl, by decide +kernel, by decide +kernel⟩
theorem ok_is_ratio_word {f : Addr} {fd : FuncData} (T : Txt P w K mg base cls) (F : FunD K "is_ratio_word" "is_ratio_word" (defArgs s_is_ratio_word) (defBody s_is_ratio_word) (defScope s_is_ratio_word) [] [] f fd) (hm : mg "is_ratio_word" = some (.ref f)) (C_is_whole : Cal P w K mg base cls 3 "is_whole" m_is_whole) (C_is_digits : Cal P w K mg base cls 2 "is_digits" m_is_digits) (C_ratio : Cal P w K mg base cls 1 "ratio" m_ratio) : Cal P w K mg base cls 4 "is_ratio_word" m_is_ratio_word :=
  ⟨f, fd, ["word"], fnC_of F sc_is_ratio_word (fun _ _ _ _ _ _ us hl => match us, hl with | [_], _ => rfl) (by decide) (fun cdv A outer s H E H0 S0 hr => by
    have nd := sc_is_ratio_word.nd
    exact PSs.nox (dss_cons (ds_asg (vs := [1, 2, 3]) (de_m1 PySem.F.slot_str_partition PySem.F.type_str_partition ms_part (dv 0) (de_str)) (dg_tup rfl (dgs_cons (dg_name (i := 1) nd rfl (by first | exact Or.inl rfl | exact Or.inr rfl) (hv := (by decide))) (dgs_cons (dg_name (i := 2) nd rfl (by first | exact Or.inl rfl | exact Or.inr rfl) (hv := (by decide))) (dgs_cons (dg_name (i := 3) nd rfl (by first | exact Or.inl rfl | exact Or.inr rfl) (hv := (by decide))) (dgs_nil))))))
    (dss_cons (ds_if (dt_cmp (os_eq hr.units) (dv 2) (de_str)) (dss_one (ds_ret (de_call C_is_whole (hr.mono (by decide)) rfl (da_cons (dv 0) (da_nil))))) (dss_nil))
    (dss_cons (ds_if (dt_pw (dw_or (dt_not (dt_val (de_call C_is_whole (hr.mono (by decide)) rfl (da_cons (dv 1) (da_nil))))) (dw_or (dt_not (dt_val (de_call C_is_digits (hr.mono (by decide)) rfl (da_cons (dv 3) (da_nil))))) (dw_or1 (dt_cmp (os_in hr.units) (dv 3) (de_tup (da_cons (de_str) (da_cons (de_str) (da_nil))))))))) (dss_one (ds_ret (de_bl))) (dss_nil))
    (dss_one (ds_ret (de_cmp (os_eq hr.units) (de_call C_ratio (hr.mono (by decide)) rfl (da_cons (de_fnT cs_int rfl T.f_int (by decide +kernel) (da_cons (dv 1) (da_nil))) (da_cons (de_fnT cs_int rfl T.f_int (by decide +kernel) (da_cons (dv 3) (da_nil))) (da_nil)))) (de_tup (da_cons (de_fnT cs_int rfl T.f_int (by decide +kernel) (da_cons (dv 1) (da_nil))) (da_cons (de_fnT cs_int rfl T.f_int (by decide +kernel) (da_cons (dv 3) (da_nil))) (da_nil))))))))))), hm⟩

abbrev s_write_ratio : Stmt := top 19
theorem sc_write_ratio : FnScope ["one"] ["one"] (defScope s_write_ratio) := ⟨rfl, rfl, rfl, by decide +kernel, rfl, by decide +kernel, by decide +kernel⟩
theorem ok_write_ratio {f : Addr} {fd : FuncData} (T : Txt P w K mg base cls) (F : FunD K "write_ratio" "write_ratio" (defArgs s_write_ratio) (defBody s_write_ratio) (defScope s_write_ratio) [] [] f fd) (hm : mg "write_ratio" = some (.ref f)) : Cal P w K mg base cls 1 "write_ratio" m_write_ratio :=
  ⟨f, fd, ["one"], fnC_of F sc_write_ratio (fun _ _ _ _ _ _ us hl => match us, hl with | [_], _ => rfl) (by decide) (fun cdv A outer s H E H0 S0 hr => by
    have nd := sc_write_ratio.nd
    exact PSs.nox (dss_cons (ds_if (dt_cmp (os_eq hr.units) (de_ix xs_ix (dv 0) (de_int)) (de_int)) (dss_one (ds_ret (de_fnT cs_str rfl T.f_str (by decide +kernel) (da_cons (de_ix xs_ix (dv 0) (de_int)) (da_nil))))) (dss_nil))
    (dss_one (ds_ret (de_op os_add (de_op os_add (de_fnT cs_str rfl T.f_str (by decide +kernel) (da_cons (de_ix xs_ix (dv 0) (de_int)) (da_nil))) (de_str)) (de_fnT cs_str rfl T.f_str (by decide +kernel) (da_cons (de_ix xs_ix (dv 0) (de_int)) (da_nil)))))))), hm⟩

abbrev s_read_ratio : Stmt := top 20
theorem sc_read_ratio : FnScope ["word", "top", "slash", "bottom"] ["word"] (defScope s_read_ratio) := ⟨rfl, rfl, rfl, by decide +kernel, rfl, by decide +kernel, by decide +kernel⟩
theorem ok_read_ratio {f : Addr} {fd : FuncData} (T : Txt P w K mg base cls) (F : FunD K "read_ratio" "read_ratio" (defArgs s_read_ratio) (defBody s_read_ratio) (defScope s_read_ratio) [] [] f fd) (hm : mg "read_ratio" = some (.ref f)) (C_is_ratio_word : Cal P w K mg base cls 4 "is_ratio_word" m_is_ratio_word) : Cal P w K mg base cls 5 "read_ratio" m_read_ratio :=
  ⟨f, fd, ["word"], fnC_of F sc_read_ratio (fun _ _ _ _ _ _ us hl => match us, hl with | [_], _ => rfl) (by decide) (fun cdv A outer s H E H0 S0 hr => by
    have nd := sc_read_ratio.nd
    exact (dss_cons (ds_if (dt_not (dt_val (de_call C_is_ratio_word (hr.mono (by decide)) rfl (da_cons (dv 0) (da_nil))))) (dss_one (ds_raise T.e_BadWord (hr.mono (by decide)) (takes_of rfl rfl rfl rfl) rfl (da_cons (dv 0) (da_nil)))) (dss_nil))
    (dss_cons (ds_asg (vs := [1, 2, 3]) (de_m1 PySem.F.slot_str_partition PySem.F.type_str_partition ms_part (dv 0) (de_str)) (dg_tup rfl (dgs_cons (dg_name (i := 1) nd rfl (by first | exact Or.inl rfl | exact Or.inr rfl) (hv := (by decide))) (dgs_cons (dg_name (i := 2) nd rfl (by first | exact Or.inl rfl | exact Or.inr rfl) (hv := (by decide))) (dgs_cons (dg_name (i := 3) nd rfl (by first | exact Or.inl rfl | exact Or.inr rfl) (hv := (by decide))) (dgs_nil))))))
    (dss_cons (ds_if (dt_cmp (os_eq hr.units) (dv 2) (de_str)) (dss_one (ds_ret (de_tup (da_cons (de_fnT cs_int rfl T.f_int (by decide +kernel) (da_cons (dv 1) (da_nil))) (da_cons (de_int) (da_nil)))))) (dss_nil))
    (dss_one (ds_ret (de_tup (da_cons (de_fnT cs_int rfl T.f_int (by decide +kernel) (da_cons (dv 1) (da_nil))) (da_cons (de_fnT cs_int rfl T.f_int (by decide +kernel) (da_cons (dv 3) (da_nil))) (da_nil)))))))))), hm⟩

abbrev s_write_point : Stmt := top 21
theorem sc_write_point : FnScope ["place", "number"] ["place"] (defScope s_write_point) := ⟨rfl, rfl, rfl, by decide +kernel, rfl, by decide +kernel, by decide +kernel⟩
theorem ok_write_point {f : Addr} {fd : FuncData} (T : Txt P w K mg base cls) (F : FunD K "write_point" "write_point" (defArgs s_write_point) (defBody s_write_point) (defScope s_write_point) [] [] f fd) (hm : mg "write_point" = some (.ref f)) (C_ratio : Cal P w K mg base cls 1 "ratio" m_ratio) (C_write_ratio : Cal P w K mg base cls 1 "write_ratio" m_write_ratio) : Cal P w K mg base cls 2 "write_point" m_write_point :=
  ⟨f, fd, ["place"], fnC_of F sc_write_point (fun _ _ _ _ _ _ us hl => match us, hl with | [_], _ => rfl) (by decide) (fun cdv A outer s H E H0 S0 hr => by
    have nd := sc_write_point.nd
    exact PSs.nox (dss_one (ds_ret (de_m1 PySem.F.slot_str_join PySem.F.type_str_join ms_join (de_str) (de_lc (own := [("number", 1)]) rfl nd (di_seq (de_cut (dv 0) dp_no (dp_e (de_un os_neg (de_int))))) (blkOk_by (N := ["place", "number"]) (sc := defScope s_write_point) (by decide +kernel)) (fun _ _ _ _ _ => dg_name (i := 1) nd rfl (by first | exact Or.inl rfl | exact Or.inr rfl) (hv := (by decide))) (fun _ _ _ _ _ => dts_nil) (fun _ _ _ _ _ => de_call C_write_ratio (hr.mono (by decide)) rfl (da_cons (de_call C_ratio (hr.mono (by decide)) rfl (da_cons (dv 1) (da_cons (de_ix xs_ix (dv 0) (de_un os_neg (de_int))) (da_nil)))) (da_nil)))))))), hm⟩

abbrev s_point_from : Stmt := top 22
theorem sc_point_from : FnScope ["numbers", "bottom", "number"] ["numbers"] (defScope s_point_from) := ⟨rfl, rfl, rfl, by decide +kernel, rfl, by decide +kernel, by decide +kernel⟩
theorem ok_point_from {f : Addr} {fd : FuncData} (T : Txt P w K mg base cls) (F : FunD K "point_from" "point_from" (defArgs s_point_from) (defBody s_point_from) (defScope s_point_from) [] [] f fd) (hm : mg "point_from" = some (.ref f)) (C_point : Cal P w K mg base cls 1 "point" m_point) : Cal P w K mg base cls 2 "point_from" m_point_from :=
  ⟨f, fd, ["numbers"], fnC_of F sc_point_from (fun _ _ _ _ _ _ us hl => match us, hl with | [_], _ => rfl) (by decide) (fun cdv A outer s H E H0 S0 hr => by
    have nd := sc_point_from.nd
    exact PSs.nox (dss_cons (ds_set (i := 1) nd rfl (by first | exact Or.inl rfl | exact Or.inr rfl) (de_int))
    (dss_cons (ds_for (vs := [2]) PassesOwn.never rfl (di_seq (dv 0)) (dg_name (i := 2) nd rfl (by first | exact Or.inl rfl | exact Or.inr rfl) (hv := (by decide))) (dss_one (ds_set (i := 1) nd rfl (by first | exact Or.inl rfl | exact Or.inr rfl) (de_op os_mul (dv 1) (de_ix xs_ix (dv 2) (de_int))))))
    (dss_one (ds_ret (de_call C_point (hr.mono (by decide)) rfl (da_cons (de_lc (own := [("number", 2)]) rfl nd (di_seq (dv 0)) (blkOk_by (N := ["numbers", "bottom", "number"]) (sc := defScope s_point_from) (by decide +kernel)) (fun _ _ _ _ _ => dg_name (i := 2) nd rfl (by first | exact Or.inl rfl | exact Or.inr rfl) (hv := (by decide))) (fun _ _ _ _ _ => dts_nil) (fun _ _ _ _ _ => de_op os_mul (de_ix xs_ix (dv 2) (de_int)) (de_op os_fdiv (dv 1) (de_ix xs_ix (dv 2) (de_int))))) (da_cons (dv 1) (da_nil))))))))), hm⟩

abbrev s_read_point : Stmt := top 23
theorem sc_read_point : FnScope ["text", "numbers", "word"] ["text"] (defScope s_read_point) := ⟨rfl, rfl, rfl, by decide +kernel, rfl, by decide +kernel, by decide +kernel⟩
theorem ok_read_point {f : Addr} {fd : FuncData} (T : Txt P w K mg base cls) (F : FunD K "read_point" "read_point" (defArgs s_read_point) (defBody s_read_point) (defScope s_read_point) [] [] f fd) (hm : mg "read_point" = some (.ref f)) (C_read_ratio : Cal P w K mg base cls 5 "read_ratio" m_read_ratio) (C_point_from : Cal P w K mg base cls 2 "point_from" m_point_from) : Cal P w K mg base cls 6 "read_point" m_read_point :=
  ⟨f, fd, ["text"], fnC_of F sc_read_point (fun _ _ _ _ _ _ us hl => match us, hl with | [_], _ => rfl) (by decide) (fun cdv A outer s H E H0 S0 hr => by
    have nd := sc_read_point.nd
    exact (dss_cons (ds_setLcX (i := 1) (own := [("word", 2)]) rfl rfl (takes_of rfl rfl rfl rfl) rfl nd rfl rfl (sw_true rfl rfl rfl (by decide +kernel)) (di_seq (de_m1 PySem.F.slot_str_split PySem.F.type_str_split ms_split (dv 0) (de_str))) (blkOk_by (N := ["text", "numbers", "word"]) (sc := defScope s_read_point) (by decide +kernel)) (fun _ _ _ _ _ => dg_name (i := 2) nd rfl (by first | exact Or.inl rfl | exact Or.inr rfl) (hv := (by decide))) (fun _ _ _ _ _ xe E2 pa => de_callB C_read_ratio (hr.mono (by decide)) rfl pa (da_cons (dv 2) (da_nil))))
    (dss_cons (ds_if (dt_cmp os_gt (de_fnB cs_len rfl T.f_len (by decide +kernel) (da_cons (dv 1) (da_nil))) (de_int)) (dss_one (ds_raise T.e_BadWord (hr.mono (by decide)) (takes_of rfl rfl rfl rfl) rfl (da_cons (dv 0) (da_nil)))) (dss_nil))
    (dss_one (ds_ret (de_call C_point_from (hr.mono (by decide)) rfl (da_cons (dv 1) (da_nil)))))))), hm⟩

abbrev s__law_cell : Stmt := top 25
theorem sc__law_cell : FnScope ["script", "k", "seed", "cell"] ["script", "k"] (defScope s__law_cell) := ⟨rfl, rfl, rfl, by decide +kernel, rfl, by decide +kernel, by decide +kernel⟩
theorem ok__law_cell {f : Addr} {fd : FuncData} (T : Txt P w K mg base cls) (F : FunD K "_law_cell" "_law_cell" (defArgs s__law_cell) (defBody s__law_cell) (defScope s__law_cell) [] [] f fd) (hm : mg "_law_cell" = some (.ref f)) : Cal P w K mg base cls 1 "_law_cell" m__law_cell :=
  ⟨f, fd, ["script", "k"], fnC_of F sc__law_cell (fun _ _ _ _ _ _ us hl => match us, hl with | [_, _], _ => rfl) (by decide) (fun cdv A outer s H E H0 S0 hr => by
    have nd := sc__law_cell.nd
    exact PSs.nox (dss_cons (ds_if (dt_cmp (os_lt hr.units0) (dv 1) (de_fnB cs_len rfl T.f_len (by decide +kernel) (da_cons (dv 0) (da_nil)))) (dss_one (ds_ret (de_ix xs_ix (dv 0) (dv 1)))) (dss_nil))
    (dss_cons (ds_set (i := 2) nd rfl (by first | exact Or.inl rfl | exact Or.inr rfl) (de_int))
    (dss_cons (ds_for (vs := [3]) PassesOwn.never rfl (di_seq (dv 0)) (dg_name (i := 3) nd rfl (by first | exact Or.inl rfl | exact Or.inr rfl) (hv := (by decide))) (dss_one (ds_set (i := 2) nd rfl (by first | exact Or.inl rfl | exact Or.inr rfl) (de_op os_mod (de_fnT cs_int rfl T.f_int (by decide +kernel) (da_cons (de_op os_add (de_op os_mul (dv 2) (de_int)) (de_op os_mod (de_fnT cs_int rfl T.f_int (by decide +kernel) (da_cons (dv 3) (da_nil))) (de_int))) (da_nil))) (de_int)))))
    (dss_one (ds_ret (de_op os_mod (de_fnT cs_int rfl T.f_int (by decide +kernel) (da_cons (de_op os_mul (de_op os_mul (de_op os_add (dv 2) (de_int)) (de_op os_add (dv 1) (de_int))) (de_int)) (da_nil))) (de_int)))))))), hm⟩

abbrev s__law_digits : Stmt := top 26
theorem sc__law_digits : FnScope ["cell", "sizes", "row", "rest", "seed", "k", "size", "twice"] ["cell", "sizes"] (defScope s__law_digits) := ⟨rfl, rfl, rfl, by decide +kernel, rfl, by decide +kernel, by decide +kernel⟩
theorem ok__law_digits {f : Addr} {fd : FuncData} (T : Txt P w K mg base cls) (F : FunD K "_law_digits" "_law_digits" (defArgs s__law_digits) (defBody s__law_digits) (defScope s__law_digits) [] [] f fd) (hm : mg "_law_digits" = some (.ref f)) : Cal P w K mg base cls 1 "_law_digits" m__law_digits :=
  ⟨f, fd, ["cell", "sizes"], fnC_of F sc__law_digits (fun _ _ _ _ _ _ us hl => match us, hl with | [_, _], _ => rfl) (by decide) (fun cdv A outer s H E H0 S0 hr => by
    have nd := sc__law_digits.nd
    exact PSs.nox (dss_cons (ds_newL (i := 2) nd rfl (by first | exact Or.inl rfl | exact Or.inr rfl) (da_nil))
    (dss_cons (ds_set (i := 3) nd rfl (by first | exact Or.inl rfl | exact Or.inr rfl) (de_fnT cs_int rfl T.f_int (by decide +kernel) (da_cons (dv 0) (da_nil))))
    (dss_cons (ds_if (dt_cmp os_ge (dv 3) (de_op os_pow (de_int) (de_int))) (dss_cons (ds_set (i := 3) nd rfl (by first | exact Or.inl rfl | exact Or.inr rfl) (de_op os_sub (dv 3) (de_op os_pow (de_int) (de_int))))
    (dss_cons (ds_for (vs := [6]) PassesOwn.never rfl (di_seq (dv 1)) (dg_name (i := 6) nd rfl (by first | exact Or.inl rfl | exact Or.inr rfl) (hv := (by decide))) (dss_cons (ds_app (i := 2) (de_op os_mod (de_fnT cs_int rfl T.f_int (by decide +kernel) (da_cons (dv 3) (da_nil))) (dv 6)))
    (dss_one (ds_set (i := 3) nd rfl (by first | exact Or.inl rfl | exact Or.inr rfl) (de_op os_fdiv (de_fnT cs_int rfl T.f_int (by decide +kernel) (da_cons (dv 3) (da_nil))) (dv 6))))))
    (dss_frz 2 (dss_one (ds_ret (dv 2)))))) (dss_nil))
    (dss_cons (ds_set (i := 4) nd rfl (by first | exact Or.inl rfl | exact Or.inr rfl) (de_op os_mod (de_fnT cs_int rfl T.f_int (by decide +kernel) (da_cons (dv 3) (da_nil))) (de_int)))
    (dss_cons (ds_for (vs := [5]) PassesOwn.never rfl (di_range1 rfl T.f_range (da_cons (de_fnB cs_len rfl T.f_len (by decide +kernel) (da_cons (dv 1) (da_nil))) (da_nil))) (dg_name (i := 5) nd rfl (by first | exact Or.inl rfl | exact Or.inr rfl) (hv := (by decide))) (dss_cons (ds_set (i := 4) nd rfl (by first | exact Or.inl rfl | exact Or.inr rfl) (de_op os_mod (de_fnT cs_int rfl T.f_int (by decide +kernel) (da_cons (de_op os_add (de_op os_add (de_op os_mul (dv 4) (de_int)) (de_op os_mul (de_int) (dv 5))) (de_int)) (da_nil))) (de_int)))
    (dss_cons (ds_set (i := 7) nd rfl (by first | exact Or.inl rfl | exact Or.inr rfl) (de_op os_mod (de_fnT cs_int rfl T.f_int (by decide +kernel) (da_cons (de_op os_mul (dv 4) (de_op os_add (de_op os_fdiv (dv 4) (de_int)) (de_int))) (da_nil))) (de_int)))
    (dss_one (ds_app (i := 2) (de_op os_mod (de_op os_fdiv (dv 7) (de_int)) (de_ix xs_ix (dv 1) (dv 5))))))))
    (dss_frz 2 (dss_one (ds_ret (dv 2)))))))))), hm⟩

abbrev s__law_gcd : Stmt := top 27
theorem sc__law_gcd : FnScope ["one", "other", "rest"] ["one", "other"] (defScope s__law_gcd) := ⟨rfl, rfl, rfl, by decide +kernel, rfl, by decide +kernel, by decide +kernel⟩
theorem ok__law_gcd {f : Addr} {fd : FuncData} (T : Txt P w K mg base cls) (F : FunD K "_law_gcd" "_law_gcd" (defArgs s__law_gcd) (defBody s__law_gcd) (defScope s__law_gcd) [] [] f fd) (hm : mg "_law_gcd" = some (.ref f)) : Cal P w K mg base cls 1 "_law_gcd" m__law_gcd :=
  ⟨f, fd, ["one", "other"], fnC_of F sc__law_gcd (fun _ _ _ _ _ _ us hl => match us, hl with | [_, _], _ => rfl) (by decide) (fun cdv A outer s H E H0 S0 hr => by
    have nd := sc__law_gcd.nd
    exact PSs.nox (dss_cons (ds_set (i := 0) nd rfl (by first | exact Or.inl rfl | exact Or.inr rfl) (de_fnB cs_abs rfl T.f_abs (by decide +kernel) (da_cons (dv 0) (da_nil))))
    (dss_cons (ds_set (i := 1) nd rfl (by first | exact Or.inl rfl | exact Or.inr rfl) (de_fnB cs_abs rfl T.f_abs (by decide +kernel) (da_cons (dv 1) (da_nil))))
    (dss_cons (ds_while PassesOwn.never (dt_cmp (os_ne hr.units) (dv 1) (de_int)) (dss_cons (ds_set (i := 2) nd rfl (by first | exact Or.inl rfl | exact Or.inr rfl) (de_op os_mod (de_fnT cs_int rfl T.f_int (by decide +kernel) (da_cons (dv 0) (da_nil))) (dv 1)))
    (dss_cons (ds_set (i := 0) nd rfl (by first | exact Or.inl rfl | exact Or.inr rfl) (dv 1))
    (dss_one (ds_set (i := 1) nd rfl (by first | exact Or.inl rfl | exact Or.inr rfl) (dv 2))))))
    (dss_one (ds_ret (dv 0))))))), hm⟩

abbrev s__law_reduced : Stmt := top 28
theorem sc__law_reduced : FnScope ["numbers", "bottom", "common", "number"] ["numbers", "bottom"] (defScope s__law_reduced) := ⟨rfl, rfl, rfl, by decide +kernel, rfl, by decide +kernel, by decide +kernel⟩
theorem ok__law_reduced {f : Addr} {fd : FuncData} (T : Txt P w K mg base cls) (F : FunD K "_law_reduced" "_law_reduced" (defArgs s__law_reduced) (defBody s__law_reduced) (defScope s__law_reduced) [] [] f fd) (hm : mg "_law_reduced" = some (.ref f)) (C__law_gcd : Cal P w K mg base cls 1 "_law_gcd" m__law_gcd) : Cal P w K mg base cls 2 "_law_reduced" m__law_reduced :=
  ⟨f, fd, ["numbers", "bottom"], fnC_of F sc__law_reduced (fun _ _ _ _ _ _ us hl => match us, hl with | [_, _], _ => rfl) (by decide) (fun cdv A outer s H E H0 S0 hr => by
    have nd := sc__law_reduced.nd
    exact PSs.nox (dss_cons (ds_set (i := 2) nd rfl (by first | exact Or.inl rfl | exact Or.inr rfl) (dv 1))
    (dss_cons (ds_for (vs := [3]) PassesOwn.never rfl (di_seq (dv 0)) (dg_name (i := 3) nd rfl (by first | exact Or.inl rfl | exact Or.inr rfl) (hv := (by decide))) (dss_one (ds_set (i := 2) nd rfl (by first | exact Or.inl rfl | exact Or.inr rfl) (de_call C__law_gcd (hr.mono (by decide)) rfl (da_cons (dv 2) (da_cons (dv 3) (da_nil)))))))
    (dss_one (ds_ret (de_op os_add (de_fnT cs_tup rfl T.f_tuple (by decide +kernel) (da_cons (de_lc (own := [("number", 3)]) rfl nd (di_seq (dv 0)) (blkOk_by (N := ["numbers", "bottom", "common", "number"]) (sc := defScope s__law_reduced) (by decide +kernel)) (fun _ _ _ _ _ => dg_name (i := 3) nd rfl (by first | exact Or.inl rfl | exact Or.inr rfl) (hv := (by decide))) (fun _ _ _ _ _ => dts_nil) (fun _ _ _ _ _ => de_op os_fdiv (dv 3) (dv 2))) (da_nil))) (de_tup (da_cons (de_op os_fdiv (dv 1) (dv 2)) (da_nil))))))))), hm⟩

abbrev s__law_fraction : Stmt := top 29
theorem sc__law_fraction : FnScope ["over_line", "under_line", "common"] ["over_line", "under_line"] (defScope s__law_fraction) := ⟨rfl, rfl, rfl, by decide +kernel, rfl, by decide +kernel, by decide +kernel⟩
theorem ok__law_fraction {f : Addr} {fd : FuncData} (T : Txt P w K mg base cls) (F : FunD K "_law_fraction" "_law_fraction" (defArgs s__law_fraction) (defBody s__law_fraction) (defScope s__law_fraction) [] [] f fd) (hm : mg "_law_fraction" = some (.ref f)) (C__law_gcd : Cal P w K mg base cls 1 "_law_gcd" m__law_gcd) : Cal P w K mg base cls 2 "_law_fraction" m__law_fraction :=
  ⟨f, fd, ["over_line", "under_line"], fnC_of F sc__law_fraction (fun _ _ _ _ _ _ us hl => match us, hl with | [_, _], _ => rfl) (by decide) (fun cdv A outer s H E H0 S0 hr => by
    have nd := sc__law_fraction.nd
    exact PSs.nox (dss_cons (ds_set (i := 2) nd rfl (by first | exact Or.inl rfl | exact Or.inr rfl) (de_call C__law_gcd (hr.mono (by decide)) rfl (da_cons (dv 0) (da_cons (dv 1) (da_nil)))))
    (dss_cons (ds_if (dt_cmp (os_lt hr.units0) (dv 1) (de_int)) (dss_one (ds_set (i := 2) nd rfl (by first | exact Or.inl rfl | exact Or.inr rfl) (de_un os_neg (dv 2)))) (dss_nil))
    (dss_one (ds_ret (de_tup (da_cons (de_op os_fdiv (dv 0) (dv 2)) (da_cons (de_op os_fdiv (dv 1) (dv 2)) (da_nil))))))))), hm⟩

abbrev s__law_motion : Stmt := top 30
theorem sc__law_motion : FnScope ["row", "size", "room", "bottom", "wide", "j"] ["row", "size", "room"] (defScope s__law_motion) := ⟨rfl, rfl, rfl, by decide +kernel, rfl, by decide +kernel, by decide +kernel⟩
theorem ok__law_motion {f : Addr} {fd : FuncData} (T : Txt P w K mg base cls) (F : FunD K "_law_motion" "_law_motion" (defArgs s__law_motion) (defBody s__law_motion) (defScope s__law_motion) [] [] f fd) (hm : mg "_law_motion" = some (.ref f)) (C__law_reduced : Cal P w K mg base cls 2 "_law_reduced" m__law_reduced) : Cal P w K mg base cls 3 "_law_motion" m__law_motion :=
  ⟨f, fd, ["row", "size", "room"], fnC_of F sc__law_motion (fun _ _ _ _ _ _ us hl => match us, hl with | [_, _, _], _ => rfl) (by decide) (fun cdv A outer s H E H0 S0 hr => by
    have nd := sc__law_motion.nd
    exact PSs.nox (dss_cons (ds_set (i := 3) nd rfl (by first | exact Or.inl rfl | exact Or.inr rfl) (de_ix xs_ix (de_lst (da_cons (de_int) (da_cons (de_int) (da_cons (de_int) (da_cons (de_int) (da_cons (de_int) (da_cons (de_int) (da_cons (de_int) (da_cons (de_int) (da_cons (de_int) (da_cons (de_int) (da_cons (de_int) (da_cons (de_int) (da_nil)))))))))))))) (de_ix xs_ix (dv 0) (de_int))))
    (dss_cons (ds_set (i := 4) nd rfl (by first | exact Or.inl rfl | exact Or.inr rfl) (de_op os_add (de_op os_mul (de_op os_mul (de_int) (dv 2)) (dv 3)) (de_int)))
    (dss_one (ds_ret (de_call C__law_reduced (hr.mono (by decide)) rfl (da_cons (de_lc (own := [("j", 5)]) rfl nd (di_range1 rfl T.f_range (da_cons (dv 1) (da_nil))) (blkOk_by (N := ["row", "size", "room", "bottom", "wide", "j"]) (sc := defScope s__law_motion) (by decide +kernel)) (fun _ _ _ _ _ => dg_name (i := 5) nd rfl (by first | exact Or.inl rfl | exact Or.inr rfl) (hv := (by decide))) (fun _ _ _ _ _ => dts_nil) (fun _ _ _ _ _ => de_op os_sub (de_op os_mod (de_fnT cs_int rfl T.f_int (by decide +kernel) (da_cons (de_ix xs_ix (dv 0) (de_op os_add (de_int) (dv 5))) (da_nil))) (dv 4)) (de_op os_mul (dv 2) (dv 3)))) (da_cons (dv 3) (da_nil))))))))), hm⟩

abbrev s__law_truth : Stmt := top 31
theorem sc__law_truth : FnScope ["value", "due"] ["value", "due"] (defScope s__law_truth) := ⟨rfl, rfl, rfl, by decide +kernel, rfl, by decide +kernel, by decide +kernel⟩
theorem ok__law_truth {f : Addr} {fd : FuncData} (T : Txt P w K mg base cls) (F : FunD K "_law_truth" "_law_truth" (defArgs s__law_truth) (defBody s__law_truth) (defScope s__law_truth) [] [] f fd) (hm : mg "_law_truth" = some (.ref f)) : Cal P w K mg base cls 1 "_law_truth" m__law_truth :=
  ⟨f, fd, ["value", "due"], fnC_of F sc__law_truth (fun _ _ _ _ _ _ us hl => match us, hl with | [_, _], _ => rfl) (by decide) (fun cdv A outer s H E H0 S0 hr => by
    have nd := sc__law_truth.nd
    exact PSs.nox (dss_cons (ds_if (dt_val (dv 1)) (dss_one (ds_ret (de_cmp os_is (dv 0) (de_bl)))) (dss_nil))
    (dss_one (ds_ret (de_cmp os_is (dv 0) (de_bl)))))), hm⟩

abbrev s__law_big : Stmt := top 32
theorem sc__law_big : FnScope ["row", "told"] ["row"] (defScope s__law_big) := ⟨rfl, rfl, rfl, by decide +kernel, rfl, by decide +kernel, by decide +kernel⟩
theorem ok__law_big {f : Addr} {fd : FuncData} (T : Txt P w K mg base cls) (F : FunD K "_law_big" "_law_big" (defArgs s__law_big) (defBody s__law_big) (defScope s__law_big) [] [] f fd) (hm : mg "_law_big" = some (.ref f)) : Cal P w K mg base cls 1 "_law_big" m__law_big :=
  ⟨f, fd, ["row"], fnC_of F sc__law_big (fun _ _ _ _ _ _ us hl => match us, hl with | [_], _ => rfl) (by decide) (fun cdv A outer s H E H0 S0 hr => by
    have nd := sc__law_big.nd
    exact PSs.nox (dss_cons (ds_set (i := 1) nd rfl (by first | exact Or.inl rfl | exact Or.inr rfl) (de_ix xs_ix (de_lst (da_cons (de_op os_mod (de_fnT cs_int rfl T.f_int (by decide +kernel) (da_cons (de_ix xs_ix (dv 0) (de_int)) (da_nil))) (de_int)) (da_cons (de_op os_mod (de_fnT cs_int rfl T.f_int (by decide +kernel) (da_cons (de_ix xs_ix (dv 0) (de_int)) (da_nil))) (de_int)) (da_cons (de_fnT cs_int rfl T.f_int (by decide +kernel) (da_cons (de_ix xs_ix (dv 0) (de_int)) (da_nil))) (da_cons (de_op os_add (de_op os_mul (de_fnT cs_int rfl T.f_int (by decide +kernel) (da_cons (de_ix xs_ix (dv 0) (de_int)) (da_nil))) (de_op os_pow (de_int) (de_int))) (de_fnT cs_int rfl T.f_int (by decide +kernel) (da_cons (de_ix xs_ix (dv 0) (de_int)) (da_nil)))) (da_nil)))))) (de_op os_mod (de_fnT cs_int rfl T.f_int (by decide +kernel) (da_cons (de_ix xs_ix (dv 0) (de_int)) (da_nil))) (de_int))))
    (dss_cons (ds_if (dt_cmp (os_eq hr.units) (de_op os_mod (de_op os_fdiv (de_fnT cs_int rfl T.f_int (by decide +kernel) (da_cons (de_ix xs_ix (dv 0) (de_int)) (da_nil))) (de_int)) (de_int)) (de_int)) (dss_one (ds_set (i := 1) nd rfl (by first | exact Or.inl rfl | exact Or.inr rfl) (de_op os_add (de_op os_add (de_op os_mul (de_fnT cs_int rfl T.f_int (by decide +kernel) (da_cons (de_ix xs_ix (dv 0) (de_int)) (da_nil))) (de_op os_pow (de_int) (de_int))) (de_op os_mul (de_fnT cs_int rfl T.f_int (by decide +kernel) (da_cons (de_ix xs_ix (dv 0) (de_int)) (da_nil))) (de_op os_pow (de_int) (de_int)))) (de_fnT cs_int rfl T.f_int (by decide +kernel) (da_cons (de_ix xs_ix (dv 0) (de_int)) (da_nil)))))) (dss_nil))
    (dss_cons (ds_if (dt_cmp (os_eq hr.units) (de_op os_mod (de_op os_fdiv (de_fnT cs_int rfl T.f_int (by decide +kernel) (da_cons (de_ix xs_ix (dv 0) (de_int)) (da_nil))) (de_int)) (de_int)) (de_int)) (dss_one (ds_ret (de_un os_neg (dv 1)))) (dss_nil))
    (dss_one (ds_ret (dv 1))))))), hm⟩

abbrev s__law_ratio_text : Stmt := top 33
theorem sc__law_ratio_text : FnScope ["over_line", "under_line", "common"] ["over_line", "under_line"] (defScope s__law_ratio_text) := ⟨rfl, rfl, rfl, by decide +kernel, rfl, by decide +kernel, by decide +kernel⟩
theorem ok__law_ratio_text {f : Addr} {fd : FuncData} (T : Txt P w K mg base cls) (F : FunD K "_law_ratio_text" "_law_ratio_text" (defArgs s__law_ratio_text) (defBody s__law_ratio_text) (defScope s__law_ratio_text) [] [] f fd) (hm : mg "_law_ratio_text" = some (.ref f)) (C__law_gcd : Cal P w K mg base cls 1 "_law_gcd" m__law_gcd) : Cal P w K mg base cls 2 "_law_ratio_text" m__law_ratio_text :=
  ⟨f, fd, ["over_line", "under_line"], fnC_of F sc__law_ratio_text (fun _ _ _ _ _ _ us hl => match us, hl with | [_, _], _ => rfl) (by decide) (fun cdv A outer s H E H0 S0 hr => by
    have nd := sc__law_ratio_text.nd
    exact PSs.nox (dss_cons (ds_set (i := 2) nd rfl (by first | exact Or.inl rfl | exact Or.inr rfl) (de_call C__law_gcd (hr.mono (by decide)) rfl (da_cons (dv 0) (da_cons (dv 1) (da_nil)))))
    (dss_cons (ds_if (dt_cmp (os_eq hr.units) (de_op os_fdiv (dv 1) (dv 2)) (de_int)) (dss_one (ds_ret (de_fnT cs_str rfl T.f_str (by decide +kernel) (da_cons (de_op os_fdiv (dv 0) (dv 2)) (da_nil))))) (dss_nil))
    (dss_one (ds_ret (de_op os_add (de_op os_add (de_fnT cs_str rfl T.f_str (by decide +kernel) (da_cons (de_op os_fdiv (dv 0) (dv 2)) (da_nil))) (de_str)) (de_fnT cs_str rfl T.f_str (by decide +kernel) (da_cons (de_op os_fdiv (dv 1) (dv 2)) (da_nil))))))))), hm⟩

abbrev s__law_place_text : Stmt := top 34
theorem sc__law_place_text : FnScope ["place", "size", "k"] ["place"] (defScope s__law_place_text) := ⟨rfl, rfl, rfl, by decide +kernel, rfl, by decide +kernel, by decide +kernel⟩
theorem ok__law_place_text {f : Addr} {fd : FuncData} (T : Txt P w K mg base cls) (F : FunD K "_law_place_text" "_law_place_text" (defArgs s__law_place_text) (defBody s__law_place_text) (defScope s__law_place_text) [] [] f fd) (hm : mg "_law_place_text" = some (.ref f)) (C__law_ratio_text : Cal P w K mg base cls 2 "_law_ratio_text" m__law_ratio_text) : Cal P w K mg base cls 3 "_law_place_text" m__law_place_text :=
  ⟨f, fd, ["place"], fnC_of F sc__law_place_text (fun _ _ _ _ _ _ us hl => match us, hl with | [_], _ => rfl) (by decide) (fun cdv A outer s H E H0 S0 hr => by
    have nd := sc__law_place_text.nd
    exact PSs.nox (dss_cons (ds_set (i := 1) nd rfl (by first | exact Or.inl rfl | exact Or.inr rfl) (de_op os_sub (de_fnB cs_len rfl T.f_len (by decide +kernel) (da_cons (dv 0) (da_nil))) (de_int)))
    (dss_one (ds_ret (de_m1 PySem.F.slot_str_join PySem.F.type_str_join ms_join (de_str) (de_lc (own := [("k", 2)]) rfl nd (di_range1 rfl T.f_range (da_cons (dv 1) (da_nil))) (blkOk_by (N := ["place", "size", "k"]) (sc := defScope s__law_place_text) (by decide +kernel)) (fun _ _ _ _ _ => dg_name (i := 2) nd rfl (by first | exact Or.inl rfl | exact Or.inr rfl) (hv := (by decide))) (fun _ _ _ _ _ => dts_nil) (fun _ _ _ _ _ => de_call C__law_ratio_text (hr.mono (by decide)) rfl (da_cons (de_ix xs_ix (dv 0) (dv 2)) (da_cons (de_ix xs_ix (dv 0) (dv 1)) (da_nil)))))))))), hm⟩

abbrev s__law_name : Stmt := top 35
theorem sc__law_name : FnScope ["number", "letters", "told", "rest"] ["number"] (defScope s__law_name) := ⟨rfl, rfl, rfl, by decide +kernel, rfl, by decide +kernel, by decide +kernel⟩
theorem ok__law_name {f : Addr} {fd : FuncData} (T : Txt P w K mg base cls) (F : FunD K "_law_name" "_law_name" (defArgs s__law_name) (defBody s__law_name) (defScope s__law_name) [] [] f fd) (hm : mg "_law_name" = some (.ref f)) : Cal P w K mg base cls 1 "_law_name" m__law_name :=
  ⟨f, fd, ["number"], fnC_of F sc__law_name (fun _ _ _ _ _ _ us hl => match us, hl with | [_], _ => rfl) (by decide) (fun cdv A outer s H E H0 S0 hr => by
    have nd := sc__law_name.nd
    exact PSs.nox (dss_cons (ds_set (i := 1) nd rfl (by first | exact Or.inl rfl | exact Or.inr rfl) (de_str))
    (dss_cons (ds_set (i := 2) nd rfl (by first | exact Or.inl rfl | exact Or.inr rfl) (de_ix xs_ix (dv 1) (de_op os_mod (de_fnT cs_int rfl T.f_int (by decide +kernel) (da_cons (dv 0) (da_nil))) (de_int))))
    (dss_cons (ds_set (i := 3) nd rfl (by first | exact Or.inl rfl | exact Or.inr rfl) (de_op os_fdiv (de_fnT cs_int rfl T.f_int (by decide +kernel) (da_cons (dv 0) (da_nil))) (de_int)))
    (dss_cons (ds_if (dt_cmp os_gt (de_op os_mod (de_fnT cs_int rfl T.f_int (by decide +kernel) (da_cons (dv 3) (da_nil))) (de_int)) (de_int)) (dss_one (ds_set (i := 2) nd rfl (by first | exact Or.inl rfl | exact Or.inr rfl) (de_op os_add (dv 2) (de_ix xs_ix (de_str) (de_op os_mod (de_op os_fdiv (de_fnT cs_int rfl T.f_int (by decide +kernel) (da_cons (dv 3) (da_nil))) (de_int)) (de_int)))))) (dss_nil))
    (dss_cons (ds_if (dt_cmp os_gt (de_op os_mod (de_fnT cs_int rfl T.f_int (by decide +kernel) (da_cons (dv 3) (da_nil))) (de_int)) (de_int)) (dss_one (ds_set (i := 2) nd rfl (by first | exact Or.inl rfl | exact Or.inr rfl) (de_op os_add (dv 2) (de_ix xs_ix (dv 1) (de_op os_mod (de_op os_fdiv (de_fnT cs_int rfl T.f_int (by decide +kernel) (da_cons (dv 3) (da_nil))) (de_int)) (de_int)))))) (dss_nil))
    (dss_cons (ds_if (dt_cmp (os_eq hr.units) (de_op os_mod (de_fnT cs_int rfl T.f_int (by decide +kernel) (da_cons (dv 3) (da_nil))) (de_int)) (de_int)) (dss_one (ds_set (i := 2) nd rfl (by first | exact Or.inl rfl | exact Or.inr rfl) (de_op os_add (de_op os_add (dv 2) (de_ix xs_ix (dv 1) (de_op os_mod (de_op os_fdiv (de_fnT cs_int rfl T.f_int (by decide +kernel) (da_cons (dv 3) (da_nil))) (de_int)) (de_int)))) (de_str)))) (dss_nil))
    (dss_one (ds_ret (dv 2)))))))))), hm⟩

abbrev s__law_digits_text : Stmt := top 36
theorem sc__law_digits_text : FnScope ["term", "sign"] ["term"] (defScope s__law_digits_text) := ⟨rfl, rfl, rfl, by decide +kernel, rfl, by decide +kernel, by decide +kernel⟩
theorem ok__law_digits_text {f : Addr} {fd : FuncData} (T : Txt P w K mg base cls) (F : FunD K "_law_digits_text" "_law_digits_text" (defArgs s__law_digits_text) (defBody s__law_digits_text) (defScope s__law_digits_text) [] [] f fd) (hm : mg "_law_digits_text" = some (.ref f)) : Cal P w K mg base cls 1 "_law_digits_text" m__law_digits_text :=
  ⟨f, fd, ["term"], fnC_of F sc__law_digits_text (fun _ _ _ _ _ _ us hl => match us, hl with | [_], _ => rfl) (by decide) (fun cdv A outer s H E H0 S0 hr => by
    have nd := sc__law_digits_text.nd
    exact PSs.nox (dss_cons (ds_if (dt_pw (dw_or (dt_cmp (os_lt hr.units0) (de_fnB cs_len rfl T.f_len (by decide +kernel) (da_cons (dv 0) (da_nil))) (de_int)) (dw_or (dt_cmp os_gt (de_fnB cs_len rfl T.f_len (by decide +kernel) (da_cons (dv 0) (da_nil))) (de_int)) (dw_or1 (dt_val (de_fnB (cs_any rfl) rfl T.f_any (by decide +kernel) (da_cons (de_lc (own := [("sign", 1)]) rfl nd (di_seq (dv 0)) (blkOk_by (N := ["term", "sign"]) (sc := defScope s__law_digits_text) (by decide +kernel)) (fun _ _ _ _ _ => dg_name (i := 1) nd rfl (by first | exact Or.inl rfl | exact Or.inr rfl) (hv := (by decide))) (fun _ _ _ _ _ => dts_nil) (fun _ _ _ _ _ => de_cmp (os_notin hr.units) (dv 1) (de_str))) (da_nil)))))))) (dss_one (ds_ret (de_bl))) (dss_nil))
    (dss_one (ds_ret (de_or (de_cmp (os_eq hr.units) (de_fnB cs_len rfl T.f_len (by decide +kernel) (da_cons (dv 0) (da_nil))) (de_int)) (de_one (de_cmp (os_ne hr.units) (de_ix xs_ix (dv 0) (de_int)) (de_str)))))))), hm⟩

abbrev s__law_read : Stmt := top 37
theorem sc__law_read : FnScope ["term", "parts", "first"] ["term"] (defScope s__law_read) := ⟨rfl, rfl, rfl, by decide +kernel, rfl, by decide +kernel, by decide +kernel⟩
theorem ok__law_read {f : Addr} {fd : FuncData} (T : Txt P w K mg base cls) (F : FunD K "_law_read" "_law_read" (defArgs s__law_read) (defBody s__law_read) (defScope s__law_read) [] [] f fd) (hm : mg "_law_read" = some (.ref f)) (C__law_digits_text : Cal P w K mg base cls 1 "_law_digits_text" m__law_digits_text) (C__law_gcd : Cal P w K mg base cls 1 "_law_gcd" m__law_gcd) : Cal P w K mg base cls 2 "_law_read" m__law_read :=
  ⟨f, fd, ["term"], fnC_of F sc__law_read (fun _ _ _ _ _ _ us hl => match us, hl with | [_], _ => rfl) (by decide) (fun cdv A outer s H E H0 S0 hr => by
    have nd := sc__law_read.nd
    exact PSs.nox (dss_cons (ds_set (i := 1) nd rfl (by first | exact Or.inl rfl | exact Or.inr rfl) (de_m1 PySem.F.slot_str_split PySem.F.type_str_split ms_split (dv 0) (de_str)))
    (dss_cons (ds_if (dt_cmp os_gt (de_fnB cs_len rfl T.f_len (by decide +kernel) (da_cons (dv 1) (da_nil))) (de_int)) (dss_one (ds_ret (de_non))) (dss_nil))
    (dss_cons (ds_set (i := 2) nd rfl (by first | exact Or.inl rfl | exact Or.inr rfl) (de_ix xs_ix (dv 1) (de_int)))
    (dss_cons (ds_if (dt_cmp (os_eq hr.units) (de_cut (dv 2) dp_no (dp_e (de_int))) (de_str)) (dss_cons (ds_set (i := 2) nd rfl (by first | exact Or.inl rfl | exact Or.inr rfl) (de_cut (dv 2) (dp_e (de_int)) dp_no))
    (dss_one (ds_if (dt_cmp (os_eq hr.units) (dv 2) (de_str)) (dss_one (ds_ret (de_non))) (dss_nil)))) (dss_nil))
    (dss_cons (ds_if (dt_not (dt_val (de_call C__law_digits_text (hr.mono (by decide)) rfl (da_cons (dv 2) (da_nil))))) (dss_one (ds_ret (de_non))) (dss_nil))
    (dss_cons (ds_if (dt_cmp (os_eq hr.units) (de_fnB cs_len rfl T.f_len (by decide +kernel) (da_cons (dv 1) (da_nil))) (de_int)) (dss_one (ds_ret (de_tup (da_cons (de_fnT cs_int rfl T.f_int (by decide +kernel) (da_cons (de_ix xs_ix (dv 1) (de_int)) (da_nil))) (da_cons (de_int) (da_nil)))))) (dss_nil))
    (dss_cons (ds_if (dt_pw (dw_or (dt_not (dt_val (de_call C__law_digits_text (hr.mono (by decide)) rfl (da_cons (de_ix xs_ix (dv 1) (de_int)) (da_nil))))) (dw_or (dt_cmp (os_lt hr.units0) (de_fnT cs_int rfl T.f_int (by decide +kernel) (da_cons (de_ix xs_ix (dv 1) (de_int)) (da_nil))) (de_int)) (dw_or1 (dt_cmp (os_ne hr.units) (de_call C__law_gcd (hr.mono (by decide)) rfl (da_cons (de_fnT cs_int rfl T.f_int (by decide +kernel) (da_cons (de_ix xs_ix (dv 1) (de_int)) (da_nil))) (da_cons (de_fnT cs_int rfl T.f_int (by decide +kernel) (da_cons (de_ix xs_ix (dv 1) (de_int)) (da_nil))) (da_nil)))) (de_int)))))) (dss_one (ds_ret (de_non))) (dss_nil))
    (dss_one (ds_ret (de_tup (da_cons (de_fnT cs_int rfl T.f_int (by decide +kernel) (da_cons (de_ix xs_ix (dv 1) (de_int)) (da_nil))) (da_cons (de_fnT cs_int rfl T.f_int (by decide +kernel) (da_cons (de_ix xs_ix (dv 1) (de_int)) (da_nil))) (da_nil)))))))))))))), hm⟩

abbrev s__law_asked : Stmt := top 38
theorem sc__law_asked : FnScope ["term", "wrong"] ["term"] (defScope s__law_asked) := ⟨rfl, rfl, rfl, by decide +kernel, rfl, by decide +kernel, by decide +kernel⟩
theorem ok__law_asked {f : Addr} {fd : FuncData} (T : Txt P w K mg base cls) (F : FunD K "_law_asked" "_law_asked" (defArgs s__law_asked) (defBody s__law_asked) (defScope s__law_asked) [] [] f fd) (hm : mg "_law_asked" = some (.ref f)) (C_read_ratio : Cal P w K mg base cls 5 "read_ratio" m_read_ratio) : Cal P w K mg base cls 6 "_law_asked" m__law_asked :=
  ⟨f, fd, ["term"], fnC_of F sc__law_asked (fun _ _ _ _ _ _ us hl => match us, hl with | [_], _ => rfl) (by decide) (fun cdv A outer s H E H0 S0 hr => by
    have nd := sc__law_asked.nd
    exact (dss_one (ds_try_ret (i := 1) rfl rfl nd rfl rfl ⟨rfl, by decide, .inl T.g_BadWord⟩ (takes_of rfl rfl rfl rfl) T.cm_BadWord (fun W pn xe tk => de_lst (da_cons (de_str) (da_cons (de_callX C_read_ratio (hr.mono (by decide)) rfl tk (da_cons (dv 0) (da_nil))) (da_nil)))) (hsu := fun a oe dd pn c fs hz hv hb => dss_one (ds_ret (de_lst (da_cons (de_str) (da_cons (de_xf hz hv T.xf_word) (da_cons (de_xi hz hv T.is_CalmError rfl T.f_isinstance rfl T.g_CalmError) (da_nil)))))))))), hm⟩

abbrev s__law_point_asked : Stmt := top 39
theorem sc__law_point_asked : FnScope ["text", "wrong"] ["text"] (defScope s__law_point_asked) := ⟨rfl, rfl, rfl, by decide +kernel, rfl, by decide +kernel, by decide +kernel⟩
theorem ok__law_point_asked {f : Addr} {fd : FuncData} (T : Txt P w K mg base cls) (F : FunD K "_law_point_asked" "_law_point_asked" (defArgs s__law_point_asked) (defBody s__law_point_asked) (defScope s__law_point_asked) [] [] f fd) (hm : mg "_law_point_asked" = some (.ref f)) (C_read_point : Cal P w K mg base cls 6 "read_point" m_read_point) : Cal P w K mg base cls 7 "_law_point_asked" m__law_point_asked :=
  ⟨f, fd, ["text"], fnC_of F sc__law_point_asked (fun _ _ _ _ _ _ us hl => match us, hl with | [_], _ => rfl) (by decide) (fun cdv A outer s H E H0 S0 hr => by
    have nd := sc__law_point_asked.nd
    exact (dss_one (ds_try_ret (i := 1) rfl rfl nd rfl rfl ⟨rfl, by decide, .inl T.g_BadWord⟩ (takes_of rfl rfl rfl rfl) T.cm_BadWord (fun W pn xe tk => de_lst (da_cons (de_str) (da_cons (de_callX C_read_point (hr.mono (by decide)) rfl tk (da_cons (dv 0) (da_nil))) (da_nil)))) (hsu := fun a oe dd pn c fs hz hv hb => dss_one (ds_ret (de_lst (da_cons (de_str) (da_cons (de_xf hz hv T.xf_word) (da_cons (de_xi hz hv T.is_CalmError rfl T.f_isinstance rfl T.g_CalmError) (da_nil)))))))))), hm⟩

abbrev s__law_point_due : Stmt := top 40
theorem sc__law_point_due : FnScope ["text", "words", "found", "k", "bottom", "pair", "term"] ["text"] (defScope s__law_point_due) := ⟨rfl, rfl, rfl, by decide +kernel, rfl, by decide +kernel, by decide +kernel⟩
theorem ok__law_point_due {f : Addr} {fd : FuncData} (T : Txt P w K mg base cls) (F : FunD K "_law_point_due" "_law_point_due" (defArgs s__law_point_due) (defBody s__law_point_due) (defScope s__law_point_due) [] [] f fd) (hm : mg "_law_point_due" = some (.ref f)) (C__law_read : Cal P w K mg base cls 2 "_law_read" m__law_read) (C__law_gcd : Cal P w K mg base cls 1 "_law_gcd" m__law_gcd) (C__law_reduced : Cal P w K mg base cls 2 "_law_reduced" m__law_reduced) : Cal P w K mg base cls 3 "_law_point_due" m__law_point_due :=
  ⟨f, fd, ["text"], fnC_of F sc__law_point_due (fun _ _ _ _ _ _ us hl => match us, hl with | [_], _ => rfl) (by decide) (fun cdv A outer s H E H0 S0 hr => by
    have nd := sc__law_point_due.nd
    exact PSs.nox (dss_cons (ds_set (i := 1) nd rfl (by first | exact Or.inl rfl | exact Or.inr rfl) (de_m1 PySem.F.slot_str_split PySem.F.type_str_split ms_split (dv 0) (de_str)))
    (dss_cons (ds_setLc (i := 2) (own := [("term", 6)]) rfl nd rfl rfl (sw_true rfl rfl rfl (by decide +kernel)) (di_seq (dv 1)) (blkOk_by (N := ["text", "words", "found", "k", "bottom", "pair", "term"]) (sc := defScope s__law_point_due) (by decide +kernel)) (fun _ _ _ _ _ => dg_name (i := 6) nd rfl (by first | exact Or.inl rfl | exact Or.inr rfl) (hv := (by decide))) (fun _ _ _ _ _ => dts_nil) (fun _ _ _ _ _ => de_call C__law_read (hr.mono (by decide)) rfl (da_cons (dv 6) (da_nil))))
    (dss_cons (ds_for (vs := [3]) PassesOwn.never rfl (di_range1 rfl T.f_range (da_cons (de_fnB cs_len rfl T.f_len (by decide +kernel) (da_cons (dv 1) (da_nil))) (da_nil))) (dg_name (i := 3) nd rfl (by first | exact Or.inl rfl | exact Or.inr rfl) (hv := (by decide))) (dss_one (ds_if (dt_cmp os_is (de_ix xs_ix (dv 2) (dv 3)) (de_non)) (dss_one (ds_ret (de_lst (da_cons (de_str) (da_cons (de_ix xs_ix (dv 1) (dv 3)) (da_cons (de_bl) (da_nil))))))) (dss_nil))))
    (dss_cons (ds_if (dt_cmp os_gt (de_fnB cs_len rfl T.f_len (by decide +kernel) (da_cons (dv 1) (da_nil))) (de_int)) (dss_one (ds_ret (de_lst (da_cons (de_str) (da_cons (dv 0) (da_cons (de_bl) (da_nil))))))) (dss_nil))
    (dss_cons (ds_set (i := 4) nd rfl (by first | exact Or.inl rfl | exact Or.inr rfl) (de_int))
    (dss_cons (ds_for (vs := [5]) PassesOwn.never rfl (di_seq (dv 2)) (dg_name (i := 5) nd rfl (by first | exact Or.inl rfl | exact Or.inr rfl) (hv := (by decide))) (dss_one (ds_set (i := 4) nd rfl (by first | exact Or.inl rfl | exact Or.inr rfl) (de_op os_fdiv (de_op os_mul (dv 4) (de_ix xs_ix (dv 5) (de_int))) (de_call C__law_gcd (hr.mono (by decide)) rfl (da_cons (dv 4) (da_cons (de_ix xs_ix (dv 5) (de_int)) (da_nil))))))))
    (dss_one (ds_ret (de_lst (da_cons (de_str) (da_cons (de_call C__law_reduced (hr.mono (by decide)) rfl (da_cons (de_lc (own := [("pair", 5)]) rfl nd (di_seq (dv 2)) (blkOk_by (N := ["text", "words", "found", "k", "bottom", "pair", "term"]) (sc := defScope s__law_point_due) (by decide +kernel)) (fun _ _ _ _ _ => dg_name (i := 5) nd rfl (by first | exact Or.inl rfl | exact Or.inr rfl) (hv := (by decide))) (fun _ _ _ _ _ => dts_nil) (fun _ _ _ _ _ => de_op os_mul (de_ix xs_ix (dv 5) (de_int)) (de_op os_fdiv (dv 4) (de_ix xs_ix (dv 5) (de_int))))) (da_cons (dv 4) (da_nil)))) (da_nil))))))))))))), hm⟩

abbrev s__law_spoilt : Stmt := top 41
theorem sc__law_spoilt : FnScope ["term", "row", "at", "told"] ["term", "row"] (defScope s__law_spoilt) := ⟨rfl, rfl, rfl, by decide +kernel, rfl, by decide +kernel, by decide +kernel⟩
theorem ok__law_spoilt {f : Addr} {fd : FuncData} (T : Txt P w K mg base cls) (F : FunD K "_law_spoilt" "_law_spoilt" (defArgs s__law_spoilt) (defBody s__law_spoilt) (defScope s__law_spoilt) [] [] f fd) (hm : mg "_law_spoilt" = some (.ref f)) : Cal P w K mg base cls 1 "_law_spoilt" m__law_spoilt :=
  ⟨f, fd, ["term", "row"], fnC_of F sc__law_spoilt (fun _ _ _ _ _ _ us hl => match us, hl with | [_, _], _ => rfl) (by decide) (fun cdv A outer s H E H0 S0 hr => by
    have nd := sc__law_spoilt.nd
    exact PSs.nox (dss_cons (ds_set (i := 2) nd rfl (by first | exact Or.inl rfl | exact Or.inr rfl) (de_op os_mod (de_fnT cs_int rfl T.f_int (by decide +kernel) (da_cons (de_ix xs_ix (dv 1) (de_int)) (da_nil))) (de_op os_add (de_fnB cs_len rfl T.f_len (by decide +kernel) (da_cons (dv 0) (da_nil))) (de_int))))
    (dss_cons (ds_set (i := 3) nd rfl (by first | exact Or.inl rfl | exact Or.inr rfl) (de_lst (da_cons (de_op os_add (de_str) (dv 0)) (da_cons (de_op os_add (de_str) (dv 0)) (da_cons (de_op os_add (de_str) (dv 0)) (da_cons (de_op os_add (dv 0) (de_str)) (da_cons (de_op os_add (dv 0) (de_str)) (da_cons (de_op os_add (dv 0) (de_str)) (da_cons (de_op os_add (de_str) (dv 0)) (da_cons (de_op os_add (dv 0) (de_str)) (da_cons (de_op os_add (de_str) (dv 0)) (da_nil))))))))))))
    (dss_cons (ds_set (i := 3) nd rfl (by first | exact Or.inl rfl | exact Or.inr rfl) (de_op os_add (dv 3) (de_lst (da_cons (de_op os_add (dv 0) (de_str)) (da_cons (de_op os_add (dv 0) (de_str)) (da_cons (de_op os_add (de_op os_add (de_cut (dv 0) dp_no (dp_e (dv 2))) (de_str)) (de_cut (dv 0) (dp_e (dv 2)) dp_no)) (da_cons (de_op os_add (de_cut (dv 0) dp_no (dp_e (dv 2))) (de_cut (dv 0) (dp_e (de_op os_add (dv 2) (de_int))) dp_no)) (da_cons (de_str) (da_cons (de_str) (da_cons (de_str) (da_cons (de_str) (da_nil))))))))))))
    (dss_cons (ds_set (i := 3) nd rfl (by first | exact Or.inl rfl | exact Or.inr rfl) (de_op os_add (dv 3) (de_lst (da_cons (de_op os_add (de_op os_add (de_cut (dv 0) dp_no (dp_e (dv 2))) (de_str)) (de_cut (dv 0) (dp_e (dv 2)) dp_no)) (da_cons (de_str) (da_cons (de_str) (da_cons (de_str) (da_cons (de_op os_mul (de_str) (de_int)) (da_cons (de_op os_mul (de_str) (de_int)) (da_cons (de_op os_add (de_str) (de_op os_mul (de_str) (de_int))) (da_cons (de_op os_add (de_str) (de_op os_mul (de_str) (de_int))) (da_nil))))))))))))
    (dss_one (ds_ret (de_op os_add (dv 3) (de_lst (da_cons (de_op os_add (de_str) (de_op os_mul (de_str) (de_int))) (da_cons (de_op os_add (de_str) (de_op os_mul (de_str) (de_int))) (da_cons (de_m0 PySem.F.slot_str_upper PySem.F.type_str_upper ms_upper (dv 0)) (da_cons (de_str) (da_cons (de_str) (da_cons (de_op os_add (de_op os_add (dv 0) (de_str)) (dv 0)) (da_nil)))))))))))))))), hm⟩

abbrev s__law_is_name : Stmt := top 42
theorem sc__law_is_name : FnScope ["term", "taken", "letters", "sign"] ["term"] (defScope s__law_is_name) := ⟨rfl, rfl, rfl, by decide +kernel, rfl, by decide +kernel, by decide +kernel⟩
theorem ok__law_is_name {f : Addr} {fd : FuncData} (T : Txt P w K mg base cls) (F : FunD K "_law_is_name" "_law_is_name" (defArgs s__law_is_name) (defBody s__law_is_name) (defScope s__law_is_name) [] [] f fd) (hm : mg "_law_is_name" = some (.ref f)) : Cal P w K mg base cls 1 "_law_is_name" m__law_is_name :=
  ⟨f, fd, ["term"], fnC_of F sc__law_is_name (fun _ _ _ _ _ _ us hl => match us, hl with | [_], _ => rfl) (by decide) (fun cdv A outer s H E H0 S0 hr => by
    have nd := sc__law_is_name.nd
    exact PSs.nox (dss_cons (ds_set (i := 1) nd rfl (by first | exact Or.inl rfl | exact Or.inr rfl) (de_lst (da_cons (de_str) (da_cons (de_str) (da_cons (de_str) (da_cons (de_str) (da_cons (de_str) (da_cons (de_str) (da_cons (de_str) (da_cons (de_str) (da_cons (de_str) (da_cons (de_str) (da_nil)))))))))))))
    (dss_cons (ds_set (i := 2) nd rfl (by first | exact Or.inl rfl | exact Or.inr rfl) (de_str))
    (dss_cons (ds_if (dt_pw (dw_or (dt_cmp (os_lt hr.units0) (de_fnB cs_len rfl T.f_len (by decide +kernel) (da_cons (dv 0) (da_nil))) (de_int)) (dw_or (dt_cmp os_gt (de_fnB cs_len rfl T.f_len (by decide +kernel) (da_cons (dv 0) (da_nil))) (de_int)) (dw_or (dt_cmp (os_in hr.units) (dv 0) (dv 1)) (dw_or1 (dt_cmp (os_notin hr.units) (de_ix xs_ix (dv 0) (de_int)) (dv 2))))))) (dss_one (ds_ret (de_bl))) (dss_nil))
    (dss_one (ds_ret (de_not (de_fnB (cs_any rfl) rfl T.f_any (by decide +kernel) (da_cons (de_lc (own := [("sign", 3)]) rfl nd (di_seq (dv 0)) (blkOk_by (N := ["term", "taken", "letters", "sign"]) (sc := defScope s__law_is_name) (by decide +kernel)) (fun _ _ _ _ _ => dg_name (i := 3) nd rfl (by first | exact Or.inl rfl | exact Or.inr rfl) (hv := (by decide))) (fun _ _ _ _ _ => dts_nil) (fun _ _ _ _ _ => de_cmp (os_notin hr.units) (dv 3) (de_op os_add (dv 2) (de_str)))) (da_nil)))))))))), hm⟩

abbrev s__law_names_right : Stmt := top 43
theorem sc__law_names_right : FnScope ["row", "words", "term"] ["row"] (defScope s__law_names_right) := ⟨rfl, rfl, rfl, by decide +kernel, rfl, by decide +kernel, by decide +kernel⟩
theorem ok__law_names_right {f : Addr} {fd : FuncData} (T : Txt P w K mg base cls) (F : FunD K "_law_names_right" "_law_names_right" (defArgs s__law_names_right) (defBody s__law_names_right) (defScope s__law_names_right) [] [] f fd) (hm : mg "_law_names_right" = some (.ref f)) (C__law_name : Cal P w K mg base cls 1 "_law_name" m__law_name) (C__law_is_name : Cal P w K mg base cls 1 "_law_is_name" m__law_is_name) (C_is_name : Cal P w K mg base cls 2 "is_name" m_is_name) (C__law_truth : Cal P w K mg base cls 1 "_law_truth" m__law_truth) : Cal P w K mg base cls 3 "_law_names_right" m__law_names_right :=
  ⟨f, fd, ["row"], fnC_of F sc__law_names_right (fun _ _ _ _ _ _ us hl => match us, hl with | [_], _ => rfl) (by decide) (fun cdv A outer s H E H0 S0 hr => by
    have nd := sc__law_names_right.nd
    exact PSs.nox (dss_cons (ds_set (i := 1) nd rfl (by first | exact Or.inl rfl | exact Or.inr rfl) (de_lst (da_cons (de_call C__law_name (hr.mono (by decide)) rfl (da_cons (de_ix xs_ix (dv 0) (de_int)) (da_nil))) (da_cons (de_op os_add (de_call C__law_name (hr.mono (by decide)) rfl (da_cons (de_ix xs_ix (dv 0) (de_int)) (da_nil))) (de_call C__law_name (hr.mono (by decide)) rfl (da_cons (de_ix xs_ix (dv 0) (de_int)) (da_nil)))) (da_cons (de_m0 PySem.F.slot_str_upper PySem.F.type_str_upper ms_upper (de_call C__law_name (hr.mono (by decide)) rfl (da_cons (de_ix xs_ix (dv 0) (de_int)) (da_nil)))) (da_cons (de_str) (da_cons (de_str) (da_cons (de_str) (da_cons (de_str) (da_nil))))))))))
    (dss_cons (ds_set (i := 1) nd rfl (by first | exact Or.inl rfl | exact Or.inr rfl) (de_op os_add (dv 1) (de_lst (da_cons (de_str) (da_cons (de_str) (da_cons (de_str) (da_cons (de_str) (da_cons (de_str) (da_cons (de_str) (da_cons (de_str) (da_cons (de_str) (da_cons (de_str) (da_cons (de_str) (da_cons (de_str) (da_nil)))))))))))))))
    (dss_cons (ds_set (i := 1) nd rfl (by first | exact Or.inl rfl | exact Or.inr rfl) (de_op os_add (dv 1) (de_lst (da_cons (de_str) (da_cons (de_str) (da_cons (de_str) (da_cons (de_str) (da_cons (de_str) (da_cons (de_op os_mul (de_str) (de_int)) (da_cons (de_op os_mul (de_str) (de_int)) (da_cons (de_str) (da_cons (de_str) (da_nil)))))))))))))
    (dss_one (ds_ret (de_fnB (cs_all rfl) rfl T.f_all (by decide +kernel) (da_cons (de_lc (own := [("term", 2)]) rfl nd (di_seq (dv 1)) (blkOk_by (N := ["row", "words", "term"]) (sc := defScope s__law_names_right) (by decide +kernel)) (fun _ _ _ _ _ => dg_name (i := 2) nd rfl (by first | exact Or.inl rfl | exact Or.inr rfl) (hv := (by decide))) (fun _ _ _ _ _ => dts_nil) (fun _ _ _ _ _ => de_call C__law_truth (hr.mono (by decide)) rfl (da_cons (de_call C_is_name (hr.mono (by decide)) rfl (da_cons (dv 2) (da_nil))) (da_cons (de_call C__law_is_name (hr.mono (by decide)) rfl (da_cons (dv 2) (da_nil))) (da_nil))))) (da_nil))))))))), hm⟩

abbrev s_law : Stmt := top 44
theorem sc_law : FnScope ["script", "row", "pairs", "small", "pair", "size", "place", "written", "other", "more", "term", "due"] ["script"] (defScope s_law) := ⟨rfl, rfl, rfl, by decide +kernel, rfl, by decide +kernel, by decide +kernel⟩
theorem fn_law {f : Addr} {fd : FuncData} (T : Txt P w K mg base cls) (F : FunD K "law" "law" (defArgs s_law) (defBody s_law) (defScope s_law) [] [] f fd) (C__law_cell : Cal P w K mg base cls 1 "_law_cell" m__law_cell) (C__law_digits : Cal P w K mg base cls 1 "_law_digits" m__law_digits) (C__law_big : Cal P w K mg base cls 1 "_law_big" m__law_big) (C__law_fraction : Cal P w K mg base cls 2 "_law_fraction" m__law_fraction) (C__law_ratio_text : Cal P w K mg base cls 2 "_law_ratio_text" m__law_ratio_text) (C_write_ratio : Cal P w K mg base cls 1 "write_ratio" m_write_ratio) (C__law_asked : Cal P w K mg base cls 6 "_law_asked" m__law_asked) (C__law_spoilt : Cal P w K mg base cls 1 "_law_spoilt" m__law_spoilt) (C__law_read : Cal P w K mg base cls 2 "_law_read" m__law_read) (C__law_motion : Cal P w K mg base cls 3 "_law_motion" m__law_motion) (C__law_place_text : Cal P w K mg base cls 3 "_law_place_text" m__law_place_text) (C_write_point : Cal P w K mg base cls 2 "write_point" m_write_point) (C__law_point_asked : Cal P w K mg base cls 7 "_law_point_asked" m__law_point_asked) (C__law_point_due : Cal P w K mg base cls 3 "_law_point_due" m__law_point_due) (C__law_names_right : Cal P w K mg base cls 3 "_law_names_right" m__law_names_right) : FnC P w K mg base cls 8 f fd ["script"] m_law :=
  fnC_of F sc_law (fun _ _ _ _ _ _ us hl => match us, hl with | [_], _ => rfl) (by decide) (fun cdv A outer s H E H0 S0 hr => by
    have nd := sc_law.nd
    exact PSs.nox (dss_cons (ds_set (i := 1) nd rfl (by first | exact Or.inl rfl | exact Or.inr rfl) (de_call C__law_digits (hr.mono (by decide)) rfl (da_cons (de_call C__law_cell (hr.mono (by decide)) rfl (da_cons (dv 0) (da_cons (de_int) (da_nil)))) (da_cons (de_op os_add (de_op os_add (de_op os_add (de_op os_add (de_lst (da_cons (de_int) (da_nil))) (de_op os_mul (de_lst (da_cons (de_op os_pow (de_int) (de_int)) (da_nil))) (de_int))) (de_lst (da_cons (de_int) (da_nil)))) (de_op os_mul (de_lst (da_cons (de_op os_pow (de_int) (de_int)) (da_nil))) (de_int))) (de_lst (da_cons (de_int) (da_nil)))) (da_nil)))))
    (dss_cons (ds_newL (i := 2) nd rfl (by first | exact Or.inl rfl | exact Or.inr rfl) (da_cons (de_call C__law_fraction (hr.mono (by decide)) rfl (da_cons (de_call C__law_big (hr.mono (by decide)) rfl (da_cons (de_cut (dv 1) dp_no (dp_e (de_int))) (da_nil))) (da_cons (de_op os_add (de_fnB cs_abs rfl T.f_abs (by decide +kernel) (da_cons (de_call C__law_big (hr.mono (by decide)) rfl (da_cons (de_cut (dv 1) (dp_e (de_int)) (dp_e (de_int))) (da_nil))) (da_nil))) (de_int)) (da_nil)))) (da_nil)))
    (dss_cons (ds_set (i := 3) nd rfl (by first | exact Or.inl rfl | exact Or.inr rfl) (de_call C__law_digits (hr.mono (by decide)) rfl (da_cons (de_call C__law_cell (hr.mono (by decide)) rfl (da_cons (dv 0) (da_cons (de_int) (da_nil)))) (da_cons (de_lst (da_cons (de_int) (da_cons (de_int) (da_cons (de_int) (da_cons (de_int) (da_nil)))))) (da_nil)))))
    (dss_cons (ds_app (i := 2) (de_call C__law_fraction (hr.mono (by decide)) rfl (da_cons (de_op os_sub (de_fnT cs_int rfl T.f_int (by decide +kernel) (da_cons (de_ix xs_ix (dv 3) (de_int)) (da_nil))) (de_int)) (da_cons (de_op os_add (de_int) (de_fnT cs_int rfl T.f_int (by decide +kernel) (da_cons (de_ix xs_ix (dv 3) (de_int)) (da_nil)))) (da_nil)))))
    (dss_cons (ds_app (i := 2) (de_call C__law_fraction (hr.mono (by decide)) rfl (da_cons (de_op os_sub (de_fnT cs_int rfl T.f_int (by decide +kernel) (da_cons (de_ix xs_ix (dv 3) (de_int)) (da_nil))) (de_int)) (da_cons (de_int) (da_nil)))))
    (dss_frz 2 (dss_cons (ds_for (vs := [4]) PassesOwn.never rfl (di_seq (dv 2)) (dg_name (i := 4) nd rfl (by first | exact Or.inl rfl | exact Or.inr rfl) (hv := (by decide))) (dss_cons (ds_set (i := 10) nd rfl (by first | exact Or.inl rfl | exact Or.inr rfl) (de_call C__law_ratio_text (hr.mono (by decide)) rfl (da_cons (de_ix xs_ix (dv 4) (de_int)) (da_cons (de_ix xs_ix (dv 4) (de_int)) (da_nil)))))
    (dss_cons (ds_if (dt_pw (dw_or (dt_cmp (os_ne hr.units) (de_call C_write_ratio (hr.mono (by decide)) rfl (da_cons (dv 4) (da_nil))) (dv 10)) (dw_or1 (dt_cmp (os_ne hr.units) (de_call C__law_asked (hr.mono (by decide)) rfl (da_cons (dv 10) (da_nil))) (de_lst (da_cons (de_str) (da_cons (dv 4) (da_nil)))))))) (dss_one (ds_ret (de_bl))) (dss_nil))
    (dss_one (ds_for (vs := [8]) PassesOwn.never rfl (di_seq (de_call C__law_spoilt (hr.mono (by decide)) rfl (da_cons (dv 10) (da_cons (de_call C__law_digits (hr.mono (by decide)) rfl (da_cons (de_call C__law_cell (hr.mono (by decide)) rfl (da_cons (dv 0) (da_cons (de_int) (da_nil)))) (da_cons (de_lst (da_cons (de_int) (da_nil))) (da_nil)))) (da_nil))))) (dg_name (i := 8) nd rfl (by first | exact Or.inl rfl | exact Or.inr rfl) (hv := (by decide))) (dss_cons (ds_set (i := 11) nd rfl (by first | exact Or.inl rfl | exact Or.inr rfl) (de_call C__law_read (hr.mono (by decide)) rfl (da_cons (dv 8) (da_nil))))
    (dss_cons (ds_if (dt_pw (dw_and (dt_cmp os_is (dv 11) (de_non)) (dw_and1 (dt_cmp (os_ne hr.units) (de_call C__law_asked (hr.mono (by decide)) rfl (da_cons (dv 8) (da_nil))) (de_lst (da_cons (de_str) (da_cons (dv 8) (da_cons (de_bl) (da_nil))))))))) (dss_one (ds_ret (de_bl))) (dss_nil))
    (dss_one (ds_if (dt_pw (dw_and (dt_cmp os_isnot (dv 11) (de_non)) (dw_and1 (dt_cmp (os_ne hr.units) (de_call C__law_asked (hr.mono (by decide)) rfl (da_cons (dv 8) (da_nil))) (de_lst (da_cons (de_str) (da_cons (dv 11) (da_nil)))))))) (dss_one (ds_ret (de_bl))) (dss_nil))))))))))
    (dss_cons (ds_set (i := 5) nd rfl (by first | exact Or.inl rfl | exact Or.inr rfl) (de_op os_add (de_int) (de_fnT cs_int rfl T.f_int (by decide +kernel) (da_cons (de_ix xs_ix (dv 1) (de_int)) (da_nil)))))
    (dss_cons (ds_set (i := 6) nd rfl (by first | exact Or.inl rfl | exact Or.inr rfl) (de_call C__law_motion (hr.mono (by decide)) rfl (da_cons (de_call C__law_digits (hr.mono (by decide)) rfl (da_cons (de_call C__law_cell (hr.mono (by decide)) rfl (da_cons (dv 0) (da_cons (de_int) (da_nil)))) (da_cons (de_op os_add (de_lst (da_cons (de_int) (da_nil))) (de_op os_mul (de_lst (da_cons (de_int) (da_nil))) (de_int))) (da_nil)))) (da_cons (dv 5) (da_cons (de_int) (da_nil))))))
    (dss_cons (ds_set (i := 7) nd rfl (by first | exact Or.inl rfl | exact Or.inr rfl) (de_call C__law_place_text (hr.mono (by decide)) rfl (da_cons (dv 6) (da_nil))))
    (dss_cons (ds_if (dt_pw (dw_or (dt_cmp (os_ne hr.units) (de_call C_write_point (hr.mono (by decide)) rfl (da_cons (dv 6) (da_nil))) (dv 7)) (dw_or1 (dt_cmp (os_ne hr.units) (de_call C__law_point_asked (hr.mono (by decide)) rfl (da_cons (dv 7) (da_nil))) (de_lst (da_cons (de_str) (da_cons (dv 6) (da_nil)))))))) (dss_one (ds_ret (de_bl))) (dss_nil))
    (dss_cons (ds_for (vs := [8]) PassesOwn.never rfl (di_seq (de_call C__law_spoilt (hr.mono (by decide)) rfl (da_cons (dv 7) (da_cons (de_call C__law_digits (hr.mono (by decide)) rfl (da_cons (de_call C__law_cell (hr.mono (by decide)) rfl (da_cons (dv 0) (da_cons (de_int) (da_nil)))) (da_cons (de_lst (da_cons (de_int) (da_nil))) (da_nil)))) (da_nil))))) (dg_name (i := 8) nd rfl (by first | exact Or.inl rfl | exact Or.inr rfl) (hv := (by decide))) (dss_one (ds_if (dt_cmp (os_ne hr.units) (de_call C__law_point_asked (hr.mono (by decide)) rfl (da_cons (dv 8) (da_nil))) (de_call C__law_point_due (hr.mono (by decide)) rfl (da_cons (dv 8) (da_nil)))) (dss_one (ds_ret (de_bl))) (dss_nil))))
    (dss_cons (ds_set (i := 9) nd rfl (by first | exact Or.inl rfl | exact Or.inr rfl) (de_op os_add (dv 7) (de_str)))
    (dss_cons (ds_if (dt_pw (dw_or (dt_cmp (os_ne hr.units) (de_call C__law_point_asked (hr.mono (by decide)) rfl (da_cons (dv 9) (da_nil))) (de_lst (da_cons (de_str) (da_cons (dv 9) (da_cons (de_bl) (da_nil)))))) (dw_or1 (dt_cmp (os_ne hr.units) (de_call C__law_point_asked (hr.mono (by decide)) rfl (da_cons (de_str) (da_nil))) (de_lst (da_cons (de_str) (da_cons (de_str) (da_cons (de_bl) (da_nil))))))))) (dss_one (ds_ret (de_bl))) (dss_nil))
    (dss_one (ds_ret (de_call C__law_names_right (hr.mono (by decide)) rfl (da_cons (de_call C__law_digits (hr.mono (by decide)) rfl (da_cons (de_call C__law_cell (hr.mono (by decide)) rfl (da_cons (dv 0) (da_cons (de_int) (da_nil)))) (da_cons (de_op os_mul (de_lst (da_cons (de_int) (da_nil))) (de_int)) (da_nil)))) (da_nil))))))))))))))))))))

end
end L2.DL.K71
namespace L2.DL.K71
open PySem PyProof.Rows PySem.Spec
open He (ga ma fAd)
abbrev si_BadWord : Stmt := clsTop 4 0
theorem sci_BadWord : FnScope ["self", "word"] ["self", "word"] (defScope si_BadWord) := ⟨rfl, rfl, rfl, by decide +kernel, rfl, by decide +kernel, by decide +kernel⟩
theorem e_BadWord_of {P : Program} {w : World} {K : PySem.W.Frag} {mg : Str → Option Value} {base : Heap} {C fI : Addr} {fd : FuncData} (gC : mg "BadWord" = some (.ref C)) (T : OexC K C) (m : Meth K C "__init__" fI) (ty : PySem.W.typeIn K (.ref fI) = some (.type "function")) (F : FunD K "__init__" "BadWord.__init__" (defArgs si_BadWord) (defBody si_BadWord) (defScope si_BadWord) [] [] fI fd) (n1 : PySem.W.findIn K (.ref C) "word" = some none) : ExF P w K mg base C "BadWord" ["word"] :=
  ⟨gC, T, fI, fd, ["self", "word"], m.at_, ty, exinit1 F sci_BadWord T n1 (fun cdv A outer s H E => pss_one (ps_ost (pv 0) (pv 1))), F.bindsN fun _ _ _ _ _ _ us hl => match us, hl with | [_, _], _ => rfl, by decide, by decide⟩
abbrev dd (x : Str) (s : Stmt) : He.DefD := ⟨(x, none), x, x, defArgs s, defBody s, defScope s, [], []⟩
abbrev di_BadWord : He.DefD := ⟨("BadWord", some "__init__"), "__init__", "BadWord.__init__", defArgs si_BadWord, defBody si_BadWord, defScope si_BadWord, [], []⟩
def fn : List He.DefD := [di_BadWord,
  dd "ratio" s_ratio,
  dd "point" s_point,
  dd "all_in" s_all_in,
  dd "is_name" s_is_name,
  dd "is_digits" s_is_digits,
  dd "is_whole" s_is_whole,
  dd "is_ratio_word" s_is_ratio_word,
  dd "write_ratio" s_write_ratio,
  dd "read_ratio" s_read_ratio,
  dd "write_point" s_write_point,
  dd "point_from" s_point_from,
  dd "read_point" s_read_point,
  dd "_law_cell" s__law_cell,
  dd "_law_digits" s__law_digits,
  dd "_law_gcd" s__law_gcd,
  dd "_law_reduced" s__law_reduced,
  dd "_law_fraction" s__law_fraction,
  dd "_law_motion" s__law_motion,
  dd "_law_truth" s__law_truth,
  dd "_law_big" s__law_big,
  dd "_law_ratio_text" s__law_ratio_text,
  dd "_law_place_text" s__law_place_text,
  dd "_law_name" s__law_name,
  dd "_law_digits_text" s__law_digits_text,
  dd "_law_read" s__law_read,
  dd "_law_asked" s__law_asked,
  dd "_law_point_asked" s__law_point_asked,
  dd "_law_point_due" s__law_point_due,
  dd "_law_spoilt" s__law_spoilt,
  dd "_law_is_name" s__law_is_name,
  dd "_law_names_right" s__law_names_right,
  dd "law" s_law]
def fa : List He.Fa := [.free "abs", .free "tuple", .free "len", .free "int", .free "str", .free "range", .free "any", .free "isinstance", .free "all", .glo "TAKEN", .str "LETTERS" "abcdefghijklmnopqrstuvwxyz", .str "DIGITS" "0123456789", .int "FIGURES" 60, .glo "BadWord", .glo "CalmError", .meth "BadWord" "__init__", .exm "BadWord" "BadWord" true, .glo "ratio", .glo "point", .glo "all_in", .glo "is_name", .glo "is_digits", .glo "is_whole", .glo "is_ratio_word", .glo "write_ratio", .glo "read_ratio", .glo "write_point", .glo "point_from", .glo "read_point", .glo "_law_cell", .glo "_law_digits", .glo "_law_gcd", .glo "_law_reduced", .glo "_law_fraction", .glo "_law_motion", .glo "_law_truth", .glo "_law_big", .glo "_law_ratio_text", .glo "_law_place_text", .glo "_law_name", .glo "_law_digits_text", .glo "_law_read", .glo "_law_asked", .glo "_law_point_asked", .glo "_law_point_due", .glo "_law_spoilt", .glo "_law_is_name", .glo "_law_names_right", .glo "law"]
def ex (K : PySem.W.Frag) : Bool := gblB K "gcd" "math.gcd" && (He.tupB K "TAKEN" [.str "half", .str "quota", .str "lots", .str "veto", .str "both", .str "either", .str "opposite", .str "with", .str "along", .str "times"] && (oexB K (ga K "BadWord") && (fnB K (He.ma K (ga K "BadWord") "__init__") && (fldB K (ga K "BadWord") "word" && (xfB K (ga K "BadWord") && (excB K (ga K "BadWord") && (kitB K (ga K "BadWord") (ga K "CalmError") true
)))))))
def lo0 : List PySem.Str := ["CalmError", "ZeroBottom", "BadWord", "ratio", "point", "LETTERS", "DIGITS", "TAKEN", "FIGURES", "all_in", "is_name", "is_digits", "is_whole", "is_ratio_word", "write_ratio", "read_ratio", "write_point", "point_from", "read_point", "_law_cell", "_law_digits", "_law_gcd", "_law_reduced", "_law_fraction", "_law_motion", "_law_truth", "_law_big", "_law_ratio_text", "_law_place_text", "_law_name"]
def lo1 : List PySem.Str := ["_law_digits_text", "_law_read", "_law_asked", "_law_point_asked", "_law_point_due", "_law_spoilt", "_law_is_name", "_law_names_right"]
def lo : List PySem.Str := lo0 ++ lo1
def cl (K : PySem.W.Frag) : Nat → Addr
  | 0 => ga K "CalmError"
  | 1 => ga K "ZeroBottom"
  | 2 => ga K "BadWord"
  | 1001 => ga K "TAKEN"
  | _ => 0
abbrev R : PySem.W.OpenRow := PySem.W.OpenLaw.row PySem.Challenge.rw_calmspot_k71_signs
abbrev hk : PySem.W.Hook := He.hookX 4 fa fn [] [] ex
def ob (s : PySem.W.SharedT) : He.AlX := He.obsX 4 fa fn [] [] ex (HandSHeadRun.getT s)
theorem ob_eq (s : PySem.W.SharedT) : ob s = hk.obs s.abs := He.obsX_eq (HandSHeadRun.getT_eq s)
abbrev vw : Program := PySem.W.view R.prog [0, 44]
theorem run (w : World) : HandSHeadRun.RunEqI R vw hk ob 4000 lo w := by
  unfold HandSHeadRun.RunEqI
  kernel_rfl
theorem txtOf {P : Program} {w : World} {K : PySem.W.Frag} {h : Heap} {mg : Str → Option Value} {base : Heap} (X : K.In h) (G : h.Ns mainGlobals mg) (c : He.SaysX fa fn [] [] ex w h K) : Txt P w K mg base (cl K) := by
  have E0 : ex K = true := c.more
  unfold ex at E0
  obtain ⟨EX0, E1⟩ := He.ba E0
  obtain ⟨EX1, E2⟩ := He.ba E1
  obtain ⟨EX2, E3⟩ := He.ba E2
  obtain ⟨EX3, E4⟩ := He.ba E3
  obtain ⟨EX4, E5⟩ := He.ba E4
  obtain ⟨EX5, E6⟩ := He.ba E5
  obtain ⟨EX6, E7⟩ := He.ba E6
  have EX7 := E7
  obtain ⟨fd_BadWord, FI_BadWord⟩ := c.t.d.def_ 0 (d := di_BadWord) rfl
  exact {
    f_abs := He.free_ok X G (c.t.d.fact 0 (f := .free "abs") rfl)
    f_tuple := He.free_ok X G (c.t.d.fact 1 (f := .free "tuple") rfl)
    f_len := He.free_ok X G (c.t.d.fact 2 (f := .free "len") rfl)
    f_int := He.free_ok X G (c.t.d.fact 3 (f := .free "int") rfl)
    f_str := He.free_ok X G (c.t.d.fact 4 (f := .free "str") rfl)
    f_range := He.free_ok X G (c.t.d.fact 5 (f := .free "range") rfl)
    f_any := He.free_ok X G (c.t.d.fact 6 (f := .free "any") rfl)
    f_isinstance := He.free_ok X G (c.t.d.fact 7 (f := .free "isinstance") rfl)
    f_all := He.free_ok X G (c.t.d.fact 8 (f := .free "all") rfl)
    g_gcd := PySem.W.mg_of X G (of_decide_eq_true EX0)
    g_TAKEN := He.glo_ok X G (c.t.d.fact 9 (f := .glo "TAKEN") rfl)
    r_TAKEN := fun S => .tup (He.tupB_ok (x := "TAKEN") (vs := [.str "half", .str "quota", .str "lots", .str "veto", .str "both", .str "either", .str "opposite", .str "with", .str "along", .str "times"]) EX1 S) (.cons (.str _) (.cons (.str _) (.cons (.str _) (.cons (.str _) (.cons (.str _) (.cons (.str _) (.cons (.str _) (.cons (.str _) (.cons (.str _) (.cons (.str _) (.nil)))))))))))
    g_LETTERS := He.str_ok X G (c.t.d.fact 10 (f := .str "LETTERS" "abcdefghijklmnopqrstuvwxyz") rfl)
    g_DIGITS := He.str_ok X G (c.t.d.fact 11 (f := .str "DIGITS" "0123456789") rfl)
    g_FIGURES := He.int_ok X G (c.t.d.fact 12 (f := .int "FIGURES" 60) rfl)
    g_BadWord := He.glo_ok X G (c.t.d.fact 13 (f := .glo "BadWord") rfl)
    g_CalmError := He.glo_ok X G (c.t.d.fact 14 (f := .glo "CalmError") rfl)
    e_BadWord := e_BadWord_of (He.glo_ok X G (c.t.d.fact 13 (f := .glo "BadWord") rfl)) (oexB_ok EX2) (He.meth_ok (c.t.d.fact 15 (f := .meth "BadWord" "__init__") rfl)) (of_decide_eq_true EX3) FI_BadWord (of_decide_eq_true EX4)
    cm_BadWord := (fun c b h => by
    unfold K71.cm_BadWord at h
    split at h
    · rename_i e
      subst e
      cases h
      exact He.exm_ok (c.t.d.fact 16 (f := .exm "BadWord" "BadWord" true) rfl)
    cases h)
    xf_word := (by
    intro c hc
    unfold K71.xf_word at hc
    simp only [List.mem_cons, List.not_mem_nil, or_false] at hc
    rcases hc with rfl
    · exact ⟨xfB_ok EX5, of_decide_eq_true EX4⟩)
    is_CalmError := (fun c b h => by
    unfold K71.is_CalmError at h
    split at h
    · rename_i e
      subst e
      cases h
      exact ⟨excB_ok EX6, of_decide_eq_true EX7⟩
    cases h) }
theorem cal {P : Program} {w : World} {K : PySem.W.Frag} {h : Heap} {mg : Str → Option Value} (X : K.In h) (G : h.Ns mainGlobals mg) (c : He.SaysX fa fn [] [] ex w h K) : ∃ fd : FuncData, (∀ (s : Shared) (v : Value), BindsTo s fd ⟨[v], []⟩ [("script", v)]) ∧ ∀ base : Heap, FnOk P w K mg base (L2.CX P w) 8 (ga K "law") fd ["script"] (spD K (cl K) m_law) := by
  obtain ⟨fd_ratio, F_ratio⟩ := c.t.d.def_ 1 (d := dd "ratio" s_ratio) rfl
  obtain ⟨fd_point, F_point⟩ := c.t.d.def_ 2 (d := dd "point" s_point) rfl
  obtain ⟨fd_all_in, F_all_in⟩ := c.t.d.def_ 3 (d := dd "all_in" s_all_in) rfl
  obtain ⟨fd_is_name, F_is_name⟩ := c.t.d.def_ 4 (d := dd "is_name" s_is_name) rfl
  obtain ⟨fd_is_digits, F_is_digits⟩ := c.t.d.def_ 5 (d := dd "is_digits" s_is_digits) rfl
  obtain ⟨fd_is_whole, F_is_whole⟩ := c.t.d.def_ 6 (d := dd "is_whole" s_is_whole) rfl
  obtain ⟨fd_is_ratio_word, F_is_ratio_word⟩ := c.t.d.def_ 7 (d := dd "is_ratio_word" s_is_ratio_word) rfl
  obtain ⟨fd_write_ratio, F_write_ratio⟩ := c.t.d.def_ 8 (d := dd "write_ratio" s_write_ratio) rfl
  obtain ⟨fd_read_ratio, F_read_ratio⟩ := c.t.d.def_ 9 (d := dd "read_ratio" s_read_ratio) rfl
  obtain ⟨fd_write_point, F_write_point⟩ := c.t.d.def_ 10 (d := dd "write_point" s_write_point) rfl
  obtain ⟨fd_point_from, F_point_from⟩ := c.t.d.def_ 11 (d := dd "point_from" s_point_from) rfl
  obtain ⟨fd_read_point, F_read_point⟩ := c.t.d.def_ 12 (d := dd "read_point" s_read_point) rfl
  obtain ⟨fd__law_cell, F__law_cell⟩ := c.t.d.def_ 13 (d := dd "_law_cell" s__law_cell) rfl
  obtain ⟨fd__law_digits, F__law_digits⟩ := c.t.d.def_ 14 (d := dd "_law_digits" s__law_digits) rfl
  obtain ⟨fd__law_gcd, F__law_gcd⟩ := c.t.d.def_ 15 (d := dd "_law_gcd" s__law_gcd) rfl
  obtain ⟨fd__law_reduced, F__law_reduced⟩ := c.t.d.def_ 16 (d := dd "_law_reduced" s__law_reduced) rfl
  obtain ⟨fd__law_fraction, F__law_fraction⟩ := c.t.d.def_ 17 (d := dd "_law_fraction" s__law_fraction) rfl
  obtain ⟨fd__law_motion, F__law_motion⟩ := c.t.d.def_ 18 (d := dd "_law_motion" s__law_motion) rfl
  obtain ⟨fd__law_truth, F__law_truth⟩ := c.t.d.def_ 19 (d := dd "_law_truth" s__law_truth) rfl
  obtain ⟨fd__law_big, F__law_big⟩ := c.t.d.def_ 20 (d := dd "_law_big" s__law_big) rfl
  obtain ⟨fd__law_ratio_text, F__law_ratio_text⟩ := c.t.d.def_ 21 (d := dd "_law_ratio_text" s__law_ratio_text) rfl
  obtain ⟨fd__law_place_text, F__law_place_text⟩ := c.t.d.def_ 22 (d := dd "_law_place_text" s__law_place_text) rfl
  obtain ⟨fd__law_name, F__law_name⟩ := c.t.d.def_ 23 (d := dd "_law_name" s__law_name) rfl
  obtain ⟨fd__law_digits_text, F__law_digits_text⟩ := c.t.d.def_ 24 (d := dd "_law_digits_text" s__law_digits_text) rfl
  obtain ⟨fd__law_read, F__law_read⟩ := c.t.d.def_ 25 (d := dd "_law_read" s__law_read) rfl
  obtain ⟨fd__law_asked, F__law_asked⟩ := c.t.d.def_ 26 (d := dd "_law_asked" s__law_asked) rfl
  obtain ⟨fd__law_point_asked, F__law_point_asked⟩ := c.t.d.def_ 27 (d := dd "_law_point_asked" s__law_point_asked) rfl
  obtain ⟨fd__law_point_due, F__law_point_due⟩ := c.t.d.def_ 28 (d := dd "_law_point_due" s__law_point_due) rfl
  obtain ⟨fd__law_spoilt, F__law_spoilt⟩ := c.t.d.def_ 29 (d := dd "_law_spoilt" s__law_spoilt) rfl
  obtain ⟨fd__law_is_name, F__law_is_name⟩ := c.t.d.def_ 30 (d := dd "_law_is_name" s__law_is_name) rfl
  obtain ⟨fd__law_names_right, F__law_names_right⟩ := c.t.d.def_ 31 (d := dd "_law_names_right" s__law_names_right) rfl
  obtain ⟨fd_law, F_law⟩ := c.t.d.def_ 32 (d := dd "law" s_law) rfl
  refine ⟨fd_law, fun s v => FunD.bindsA (ps := ["script"]) F_law (fun _ _ _ _ _ _ us hl => match us, hl with | [_], _ => rfl) s [v] rfl, fun base => ?_⟩
  have T : Txt P w K mg base (cl K) := txtOf X G c
  have C_ratio := ok_ratio T F_ratio (He.glo_ok X G (c.t.d.fact 17 (f := .glo "ratio") rfl))
  have C_point := ok_point T F_point (He.glo_ok X G (c.t.d.fact 18 (f := .glo "point") rfl))
  have C_all_in := ok_all_in T F_all_in (He.glo_ok X G (c.t.d.fact 19 (f := .glo "all_in") rfl))
  have C_is_name := ok_is_name T F_is_name (He.glo_ok X G (c.t.d.fact 20 (f := .glo "is_name") rfl)) C_all_in
  have C_is_digits := ok_is_digits T F_is_digits (He.glo_ok X G (c.t.d.fact 21 (f := .glo "is_digits") rfl)) C_all_in
  have C_is_whole := ok_is_whole T F_is_whole (He.glo_ok X G (c.t.d.fact 22 (f := .glo "is_whole") rfl)) C_is_digits
  have C_is_ratio_word := ok_is_ratio_word T F_is_ratio_word (He.glo_ok X G (c.t.d.fact 23 (f := .glo "is_ratio_word") rfl)) C_is_whole C_is_digits C_ratio
  have C_write_ratio := ok_write_ratio T F_write_ratio (He.glo_ok X G (c.t.d.fact 24 (f := .glo "write_ratio") rfl))
  have C_read_ratio := ok_read_ratio T F_read_ratio (He.glo_ok X G (c.t.d.fact 25 (f := .glo "read_ratio") rfl)) C_is_ratio_word
  have C_write_point := ok_write_point T F_write_point (He.glo_ok X G (c.t.d.fact 26 (f := .glo "write_point") rfl)) C_ratio C_write_ratio
  have C_point_from := ok_point_from T F_point_from (He.glo_ok X G (c.t.d.fact 27 (f := .glo "point_from") rfl)) C_point
  have C_read_point := ok_read_point T F_read_point (He.glo_ok X G (c.t.d.fact 28 (f := .glo "read_point") rfl)) C_read_ratio C_point_from
  have C__law_cell := ok__law_cell T F__law_cell (He.glo_ok X G (c.t.d.fact 29 (f := .glo "_law_cell") rfl))
  have C__law_digits := ok__law_digits T F__law_digits (He.glo_ok X G (c.t.d.fact 30 (f := .glo "_law_digits") rfl))
  have C__law_gcd := ok__law_gcd T F__law_gcd (He.glo_ok X G (c.t.d.fact 31 (f := .glo "_law_gcd") rfl))
  have C__law_reduced := ok__law_reduced T F__law_reduced (He.glo_ok X G (c.t.d.fact 32 (f := .glo "_law_reduced") rfl)) C__law_gcd
  have C__law_fraction := ok__law_fraction T F__law_fraction (He.glo_ok X G (c.t.d.fact 33 (f := .glo "_law_fraction") rfl)) C__law_gcd
  have C__law_motion := ok__law_motion T F__law_motion (He.glo_ok X G (c.t.d.fact 34 (f := .glo "_law_motion") rfl)) C__law_reduced
  have C__law_truth := ok__law_truth T F__law_truth (He.glo_ok X G (c.t.d.fact 35 (f := .glo "_law_truth") rfl))
  have C__law_big := ok__law_big T F__law_big (He.glo_ok X G (c.t.d.fact 36 (f := .glo "_law_big") rfl))
  have C__law_ratio_text := ok__law_ratio_text T F__law_ratio_text (He.glo_ok X G (c.t.d.fact 37 (f := .glo "_law_ratio_text") rfl)) C__law_gcd
  have C__law_place_text := ok__law_place_text T F__law_place_text (He.glo_ok X G (c.t.d.fact 38 (f := .glo "_law_place_text") rfl)) C__law_ratio_text
  have C__law_name := ok__law_name T F__law_name (He.glo_ok X G (c.t.d.fact 39 (f := .glo "_law_name") rfl))
  have C__law_digits_text := ok__law_digits_text T F__law_digits_text (He.glo_ok X G (c.t.d.fact 40 (f := .glo "_law_digits_text") rfl))
  have C__law_read := ok__law_read T F__law_read (He.glo_ok X G (c.t.d.fact 41 (f := .glo "_law_read") rfl)) C__law_digits_text C__law_gcd
  have C__law_asked := ok__law_asked T F__law_asked (He.glo_ok X G (c.t.d.fact 42 (f := .glo "_law_asked") rfl)) C_read_ratio
  have C__law_point_asked := ok__law_point_asked T F__law_point_asked (He.glo_ok X G (c.t.d.fact 43 (f := .glo "_law_point_asked") rfl)) C_read_point
  have C__law_point_due := ok__law_point_due T F__law_point_due (He.glo_ok X G (c.t.d.fact 44 (f := .glo "_law_point_due") rfl)) C__law_read C__law_gcd C__law_reduced
  have C__law_spoilt := ok__law_spoilt T F__law_spoilt (He.glo_ok X G (c.t.d.fact 45 (f := .glo "_law_spoilt") rfl))
  have C__law_is_name := ok__law_is_name T F__law_is_name (He.glo_ok X G (c.t.d.fact 46 (f := .glo "_law_is_name") rfl))
  have C__law_names_right := ok__law_names_right T F__law_names_right (He.glo_ok X G (c.t.d.fact 47 (f := .glo "_law_names_right") rfl)) C__law_name C__law_is_name C_is_name C__law_truth
  exact (fn_law T F_law C__law_cell C__law_digits C__law_big C__law_fraction C__law_ratio_text C_write_ratio C__law_asked C__law_spoilt C__law_read C__law_motion C__law_place_text C_write_point C__law_point_asked C__law_point_due C__law_names_right).ok
theorem law_at {w : World} {K : PySem.W.Frag} {h : Heap} {mg : Str → Option Value} (X : K.In h) (G : h.Ns mainGlobals mg) (c : He.SaysX fa fn [] [] ex w h K) : mg "law" = some (.ref (ga K "law")) := He.glo_ok X G (c.t.d.fact 48 (f := .glo "law") rfl)
end L2.DL.K71
/-! the mirrors' own laws -/
namespace L2.DL
open PySem PyProof.Rows PySem.Spec
theorem beq_dec {α : Type} [BEq α] [LawfulBEq α] [DecidableEq α] (a b : α) : (a == b) = decide (a = b) := by
  by_cases h : a = b
  · subst h; simp
  · simp [h]
/-- range(j) -/
theorem rg_nat {n : Nat} (h : n ≤ 1000000000) : ((n : Int).natAbs < 4611686018427387904) = True := by
  rw [Int.natAbs_natCast]
  exact eq_true (by omega)
section
variable {α β : Type} {a b : ME} {as : MA} {c c2 : MT} {s s2 : MS} {ρ : List Sl} {d x y : D} {xs : List D} {g : MG}
@[simp] theorem bind_ok (q : α) (f : α → Res β) : (Res.ok q).bind f = f q := rfl
@[simp] theorem bind_ex (k : Nat) (fs : List (Str × D)) (f : α → Res β) : (Res.ex k fs).bind f = .ex k fs := rfl
@[simp] theorem bind_stuck (f : α → Res β) : (Res.stuck : Res α).bind f = .stuck := rfl
@[simp] theorem lift_some (q : α) : lift (some q) = .ok q := rfl
@[simp] theorem nox_ok1 (q : α) : nox (.ok q) = .ok q := rfl
@[simp] theorem ev_V (i : Nat) (h : ρ[i]? = some (.d d)) : eV i ρ = .ok d := by unfold eV; rw [h]
@[simp] theorem ev_C : eC d ρ = .ok d := rfl
@[simp] theorem ev_Op (o : D → D → Option D) : eOp o a b ρ = (a ρ).bind fun x => (b ρ).bind fun y => lift (o x y) := rfl
@[simp] theorem ev_Un (o : D → Option D) : eUn o a ρ = (a ρ).bind fun x => lift (o x) := rfl
@[simp] theorem ev_Nil : aNil ρ = .ok [] := rfl
@[simp] theorem ev_Cons : aCons a as ρ = (a ρ).bind fun x => (as ρ).bind fun xs => .ok (x :: xs) := rfl
@[simp] theorem ev_Fn (o : List D → Option D) : eFn o as ρ = (as ρ).bind fun xs => lift (o xs) := rfl
@[simp] theorem ev_Call (f : List D → Res D) : eCall f as ρ = (as ρ).bind f := rfl
@[simp] theorem ev_CallN (f : List D → Res D) : eCallN f as ρ = (as ρ).bind fun xs => nox (f xs) := rfl
@[simp] theorem ev_Ms (o : Str → List D → Option D) : eMs o a as ρ = (a ρ).bind fun x => (match x with
  | .str z => (as ρ).bind fun xs => lift (o z xs)
  | _ => .stuck) := by
  unfold eMs
  rfl
@[simp] theorem ev_E : cE a ρ = (a ρ).bind fun x => lift (toB x) := rfl
@[simp] theorem ev_And : cAnd c c2 ρ = (c ρ).bind fun x => if x = true then c2 ρ else .ok false := rfl
@[simp] theorem ev_Or : cOr c c2 ρ = (c ρ).bind fun x => if x = true then .ok true else c2 ρ := rfl
@[simp] theorem ev_Not : cNot c ρ = (c ρ).bind fun x => .ok (!x) := rfl
@[simp] theorem ev_Yes : cYes ρ = .ok true := rfl
@[simp] theorem ev_If : eIf c a b ρ = (c ρ).bind fun x => if x = true then a ρ else b ρ := rfl
@[simp] theorem ev_eAnd : eAnd a b ρ = (a ρ).bind fun x => (lift (toB x)).bind fun k => if k = true then b ρ else .ok (.bl false) := rfl
@[simp] theorem ev_eOr : eOr a b ρ = (a ρ).bind fun x => (lift (toB x)).bind fun k => if k = true then .ok (.bl true) else b ρ := rfl
@[simp] theorem ev_eNot : eNot a ρ = (a ρ).bind fun x => (lift (toB x)).bind fun k => .ok (.bl (!k)) := rfl
@[simp] theorem ev_pNo : pNo ρ = .ok none := rfl
@[simp] theorem ev_pE : pE a ρ = (a ρ).bind fun d => (match d with
  | .int i => .ok (some i)
  | _ => .stuck) := rfl
@[simp] theorem ev_Cut (lo hi : MO) : eCut a lo hi ρ = (a ρ).bind fun d => (lo ρ).bind fun l => (hi ρ).bind fun u => lift (oCut d l u) := rfl
@[simp] theorem sv_Nx : sNx ρ = .ok (.nx ρ) := rfl
@[simp] theorem sv_Bk : sBk ρ = .ok (.bk ρ) := rfl
@[simp] theorem sv_Ct : sCt ρ = .ok (.ct ρ) := rfl
@[simp] theorem sv_Seq : sSeq s s2 ρ = (s ρ).bind fun o => (match o with
  | .nx ρ' => s2 ρ'
  | o => .ok o) := rfl
@[simp] theorem sv_If : sIf c s s2 ρ = (c ρ).bind fun x => if x = true then s ρ else s2 ρ := rfl
@[simp] theorem sv_Ret : sRet a ρ = (a ρ).bind fun d => .ok (.rt d) := rfl
@[simp] theorem sv_Ex : sEx a ρ = (a ρ).bind fun _ => .ok (.nx ρ) := rfl
@[simp] theorem sv_Asg : sAsg a g ρ = (a ρ).bind fun d => (lift (g d ρ)).bind fun ρ' => .ok (.nx ρ') := rfl
@[simp] theorem gv_N (i : Nat) : gN i d ρ = some (ρ.set i (.d d)) := rfl
@[simp] theorem gv_Nil : gsNil [] ρ = some ρ := rfl
@[simp] theorem gv_Cons (h : MG) (hs : MGs) : gsCons h hs (d :: xs) ρ = (h d ρ).bind fun ρ1 => hs xs ρ1 := rfl
@[simp] theorem gv_T (n : Nat) (hs : MGs) : gT n hs (.tup xs) ρ = if xs.length = n then hs xs ρ else none := rfl
@[simp] theorem sv_For (src : MI) : sFor src g s ρ = (src ρ).bind fun ds => forL g s ds ρ := rfl
@[simp] theorem sv_While (f : List Sl → Nat) : sWhile f c s ρ = whileL c s (f ρ) ρ := rfl
@[simp] theorem sv_NewL (i : Nat) : sNewL i as ρ = (as ρ).bind fun xs => if i < ρ.length ∧ xs.length ≤ sizeLine then .ok (.nx (ρ.set i (.bl xs))) else .stuck := rfl
@[simp] theorem sv_FrzL (i : Nat) (h : ρ[i]? = some (.bl xs)) : sFrz i s ρ = s (ρ.set i (.d (.lst xs))) := by unfold sFrz; rw [h]
@[simp] theorem sv_App (i : Nat) (h : ρ[i]? = some (.bl xs)) : sApp i a ρ = (a ρ).bind fun x => if xs.length < sizeLine then .ok (.nx (ρ.set i (.bl (xs ++ [x])))) else .stuck := by unfold sApp; rw [h]
@[simp] theorem ev_Lc (src : MI) (vs : List Nat) : eLc src vs g c a ρ = (src ρ).bind fun ds => if ds.length ≤ sizeLine then (compL g c a (wipeD ρ vs) ds).bind fun r => .ok (.lst r) else .stuck := rfl
@[simp] theorem ev_LcX (src : MI) (vs : List Nat) : eLcX src vs g a ρ = (src ρ).bind fun ds => if ds.length ≤ sizeLine then (compLX g a (wipeD ρ vs) ds).bind fun r => .ok (.lst r) else .stuck := rfl
@[simp] theorem iv_Sq : iSq a ρ = (a ρ).bind fun d => lift (itemsD d) := rfl
@[simp] theorem iv_R1 : iR1 as ρ = (as ρ).bind fun xs => (match xs with
  | [.int j] => if j.natAbs < 4611686018427387904 then .ok (rangeD 0 j.toNat) else .stuck
  | _ => .stuck) := by
  unfold iR1
  rfl
@[simp] theorem sv_Raise (k : Nat) (fl : List Str) : sRaise k fl as ρ = (as ρ).bind fun xs => if xs.length = fl.length then .ex k ((fl.zip xs).reverse) else .stuck := rfl
@[simp] theorem it_lst : itemsD (.lst xs) = some xs := rfl
@[simp] theorem it_ro : itemsD (.ro xs) = some xs := rfl
@[simp] theorem it_tup : itemsD (.tup xs) = some xs := rfl
@[simp] theorem it_str (z : Str) : itemsD (.str z) = some (signsD z) := rfl
@[simp] theorem tb_bl (k : Bool) : toB (.bl k) = some k := rfl
@[simp] theorem wi_nil : wipeD ρ [] = ρ := rfl
@[simp] theorem wi_cons (i : Nat) (is : List Nat) : wipeD ρ (i :: is) = (wipeD ρ is).set i .no := rfl
-- operations
variable {i j : Int} {z w : Str} {ys : List D}
@[simp] theorem o_add : oAdd (.int i) (.int j) = some (.int (i + j)) := rfl
@[simp] theorem o_adds (h : z.length + w.length ≤ sizeLine) : oAdd (.str z) (.str w) = some (.str (z ++ w)) := if_pos h
@[simp] theorem o_addl (h : xs.length + ys.length ≤ sizeLine) : oAdd (.lst xs) (.lst ys) = some (.lst (xs ++ ys)) := if_pos h
@[simp] theorem o_addt (h : xs.length + ys.length ≤ sizeLine) : oAdd (.tup xs) (.tup ys) = some (.tup (xs ++ ys)) := if_pos h
@[simp] theorem o_sub : oSub (.int i) (.int j) = some (.int (i - j)) := rfl
@[simp] theorem o_mul (h : CMulW i j) : oMul (.int i) (.int j) = some (.int (i * j)) := if_pos h
@[simp] theorem o_mull (h0 : 0 ≤ j) (h1 : j < 1000000) (h2 : xs.length * j.toNat ≤ 1000000) : oMul (.lst xs) (.int j) = some (.lst (repD j xs)) := if_pos ⟨h0, h1, h2⟩
@[simp] theorem o_fdiv (h : j ≠ 0) (h2 : j.natAbs.log2 < 9000) : oFdiv (.int i) (.int j) = some (.int (i.fdiv j)) := if_pos ⟨h, h2⟩
@[simp] theorem o_mod (h : j ≠ 0) : oMod (.int i) (.int j) = some (.int (i.fmod j)) := if_pos h
@[simp] theorem o_neg : oNeg (.int i) = some (.int (-i)) := rfl
@[simp] theorem o_lt : oLt (.int i) (.int j) = some (.bl (decide (i < j))) := rfl
@[simp] theorem o_le : oLe (.int i) (.int j) = some (.bl (decide (i ≤ j))) := rfl
@[simp] theorem o_gt : oGt (.int i) (.int j) = some (.bl (decide (j < i))) := rfl
@[simp] theorem o_ge : oGe (.int i) (.int j) = some (.bl (decide (j ≤ i))) := rfl
@[simp] theorem o_tup (h : xs.length ≤ sizeLine) : oTup xs = some (.tup xs) := if_pos h
@[simp] theorem o_lst (h : xs.length ≤ sizeLine) : oLst xs = some (.lst xs) := if_pos h
@[simp] theorem f_lenL : fLen [.lst xs] = some (.int xs.length) := rfl
@[simp] theorem f_lenR : fLen [.ro xs] = some (.int xs.length) := rfl
@[simp] theorem f_lenT : fLen [.tup xs] = some (.int xs.length) := rfl
@[simp] theorem f_lenS (h : z.length ≤ sizeLine) : fLen [.str z] = some (.int z.length) := if_pos h
@[simp] theorem f_abs : fAbs [.int i] = some (.int i.natAbs) := rfl
@[simp] theorem f_intI : fInt [.int i] = some (.int i) := rfl
@[simp] theorem f_intS (h : z.length ≤ 640) : fInt [.str z] = (PySem.intText? z).map .int := if_pos h
@[simp] theorem f_str (h : i.natAbs.log2 < 1920) : fStr [.int i] = some (.str (toString i)) := if_pos h
@[simp] theorem f_tupL : fTup [.lst xs] = some (.tup xs) := rfl
@[simp] theorem f_tupT : fTup [.tup xs] = some (.tup xs) := rfl
@[simp] theorem f_gcd : fGcd [.int i, .int j] = some (.int ((Nat.gcd i.natAbs j.natAbs : Nat) : Int)) := rfl
@[simp] theorem f_any (bs : List Bool) (h : blsD xs = some bs) : fAny [.lst xs] = some (.bl (bs.any id)) := by show (blsD xs).map _ = _; rw [h]; rfl
@[simp] theorem f_all (bs : List Bool) (h : blsD xs = some bs) : fAll [.lst xs] = some (.bl (bs.all id)) := by show (blsD xs).map _ = _; rw [h]; rfl
@[simp] theorem x_lst : oIx (.lst xs) (.int i) = atI xs i := rfl
@[simp] theorem x_ro : oIx (.ro xs) (.int i) = atI xs i := rfl
@[simp] theorem x_tup : oIx (.tup xs) (.int i) = atI xs i := rfl
theorem blsD_map (bs : List Bool) : blsD (bs.map D.bl) = some bs := by
  induction bs with
  | nil => rfl
  | cons k bs ih => show (blsD (bs.map D.bl)).map _ = _; rw [ih]; rfl
-- ==
@[simp] theorem q_int : oEq (.int i) (.int j) = some (.bl (decide (i = j))) := by
  unfold oEq eqD
  simp only [D.dep, D.py, PyData.eqv, and_self, if_true, beq_dec]
@[simp] theorem q_str : oEq (.str z) (.str w) = some (.bl (decide (z = w))) := by
  unfold oEq eqD
  simp only [D.dep, D.py, PyData.eqv, and_self, if_true, beq_dec]
@[simp] theorem n_int : oNe (.int i) (.int j) = some (.bl (!decide (i = j))) := by
  unfold oNe eqD
  simp only [D.dep, D.py, PyData.eqv, and_self, if_true, beq_dec]
@[simp] theorem n_str : oNe (.str z) (.str w) = some (.bl (!decide (z = w))) := by
  unfold oNe eqD
  simp only [D.dep, D.py, PyData.eqv, and_self, if_true, beq_dec]
theorem eqD_refl (h : x.dep 30 = true) : eqD x x = true   := PySem.SeqAt.eqv_refl_plain _ (D.py_plain 30 x h).1
theorem q_refl (h : x.dep 30 = true) : oEq x x = some (.bl true) := by
  unfold oEq
  rw [if_pos ⟨h, h⟩, eqD_refl h]
theorem n_refl (h : x.dep 30 = true) : oNe x x = some (.bl false) := by
  unfold oNe
  rw [if_pos ⟨h, h⟩, eqD_refl h]
  rfl
theorem eqD_str : eqD (.str z) (.str w) = decide (z = w) := by
  unfold eqD
  simp only [D.py, PyData.eqv, beq_dec]
@[simp] theorem q_tup2 {k l : Int} : oEq (.tup [.int i, .int j]) (.tup [.int k, .int l]) = some (.bl (decide (i = k) && decide (j = l))) := by
  unfold oEq eqD
  simp only [D.dep, D.py, PyData.eqv, PyData.eqvAll, List.all_cons, List.all_nil, List.map_cons, List.map_nil, Bool.and_true, and_self, if_true, beq_dec]
theorem any_strs (l : List Str) : (l.map D.str).any (fun y => eqD y (.str z)) = decide (z ∈ l) := by
  induction l with
  | nil => rfl
  | cons a l ih =>
    rw [List.map_cons, List.any_cons, ih, eqD_str]
    by_cases h : a = z
    · subst h; simp
    · simp [h, Ne.symm h]
theorem dep_strs (l : List Str) (n : Nat) : (l.map D.str).all (D.dep n) = true := by
  induction l with
  | nil => rfl
  | cons a l ih => rw [List.map_cons, List.all_cons, ih]; cases n <;> rfl
theorem dep_ints (l : List Int) (n : Nat) : (l.map D.int).all (D.dep n) = true := by
  induction l with
  | nil => rfl
  | cons a l ih => rw [List.map_cons, List.all_cons, ih]; cases n <;> rfl
theorem in_tupS (l : List Str) : inB (.str z) (.tup (l.map D.str)) = some (decide (z ∈ l)) := by
  show (if _ ∧ _ then _ else _) = _
  rw [if_pos ⟨rfl, dep_strs l 29⟩, any_strs]
theorem in_lstS (l : List Str) : inB (.str z) (.lst (l.map D.str)) = some (decide (z ∈ l)) := by
  show (if _ ∧ _ then _ else _) = _
  rw [if_pos ⟨rfl, dep_strs l 29⟩, any_strs]
@[simp] theorem in_sign (q : Nat) : inB (.str ⟨#[q]⟩) (.str w) = some (decide (q ∈ w.cps.toList)) := rfl
-- subscripts
theorem atI_nat {xs : List α} {k : Nat} (h : k < xs.length) : atI xs (k : Int) = xs[k]? := by
  unfold atI ixN
  (rw [if_pos (by omega), if_pos (by omega)])
  rfl
@[simp] theorem at0 {q : α} {qs : List α} : atI (q :: qs) 0 = some q := atI_nat (k := 0) (by simp)
@[simp] theorem at1 {q q1 : α} {qs : List α} : atI (q :: q1 :: qs) 1 = some q1 := atI_nat (k := 1) (by simp)
@[simp] theorem at2 {q q1 q2 : α} {qs : List α} : atI (q :: q1 :: q2 :: qs) 2 = some q2 := atI_nat (k := 2) (by simp)
@[simp] theorem at3 {q q1 q2 q3 : α} {qs : List α} : atI (q :: q1 :: q2 :: q3 :: qs) 3 = some q3 := atI_nat (k := 3) (by simp)
theorem atI_last {xs : List α} {q : α} : atI (xs ++ [q]) (-1) = some q := by
  unfold atI ixN
  rw [if_neg (by omega), if_pos (by simp only [List.length_append, List.length_singleton]; omega)]
  have e : ((-1 : Int) + ((xs ++ [q]).length : Nat)).toNat = xs.length := by simp only [List.length_append, List.length_singleton]; omega
  rw [e]
  simp
end
/-! ### loops, comprehensions -/
section
variable {g : MG} {body : MS} {c : MT} {te : ME} {ρ : List Sl} {ds : List D}
/-- a loop that runs to its end: I tells what holds before the rest -/
theorem forL_inv (I : List D → List Sl → Prop) (h : ∀ d r ρ, I (d :: r) ρ → ∃ ρ1, g d ρ = some ρ1 ∧ ∃ ρ2, (body ρ1 = .ok (.nx ρ2) ∨ body ρ1 = .ok (.ct ρ2)) ∧ I r ρ2) : ∀ (ds : List D) (ρ : List Sl), I ds ρ → ∃ ρ', forL g body ds ρ = .ok (.nx ρ') ∧ I [] ρ'
  | [], ρ, hi => ⟨ρ, rfl, hi⟩
  | d :: ds, ρ, hi => by
    obtain ⟨ρ1, h1, ρ2, h2, h3⟩ := h d ds ρ hi
    obtain ⟨ρ', e, hn⟩ := forL_inv I h ds ρ2 h3
    refine ⟨ρ', ?_, hn⟩
    rw [forL, h1]
    rcases h2 with h2 | h2 <;> · simp only [lift_some, bind_ok, h2]; exact e
/-- a loop that ends at the first d that fails p, by return r -/
theorem forL_all (I : List Sl → Prop) (p : D → Bool) (r : D) (h : ∀ d ρ, I ρ → ∃ ρ1, g d ρ = some ρ1 ∧ (p d = true → ∃ ρ2, body ρ1 = .ok (.nx ρ2) ∧ I ρ2) ∧ (p d = false → body ρ1 = .ok (.rt r))) : ∀ (ds : List D) (ρ : List Sl), I ρ →
    (ds.all p = true → ∃ ρ', forL g body ds ρ = .ok (.nx ρ') ∧ I ρ') ∧ (ds.all p = false → forL g body ds ρ = .ok (.rt r))
  | [], ρ, hi => ⟨fun _ => ⟨ρ, rfl, hi⟩, fun h => by cases h⟩
  | d :: ds, ρ, hi => by
    obtain ⟨ρ1, h1, h2, h3⟩ := h d ρ hi
    rw [List.all_cons, forL, h1]
    simp only [lift_some, bind_ok]
    cases q : p d with
    | true =>
      obtain ⟨ρ2, e2, i2⟩ := h2 q
      rw [e2]
      simp only [bind_ok, Bool.true_and]
      exact forL_all I p r h ds ρ2 i2
    | false =>
      rw [h3 q]
      exact ⟨fun z => by simp at z, fun _ => rfl⟩
/-- .. what holds of the loop's own items -/
theorem forL_allM (I : List Sl → Prop) (p : D → Bool) (r : D) : ∀ (ds : List D), (∀ d ∈ ds, ∀ ρ, I ρ → ∃ ρ1, g d ρ = some ρ1 ∧ (p d = true → ∃ ρ2, body ρ1 = .ok (.nx ρ2) ∧ I ρ2) ∧ (p d = false → body ρ1 = .ok (.rt r))) → ∀ (ρ : List Sl), I ρ →
    (ds.all p = true → ∃ ρ', forL g body ds ρ = .ok (.nx ρ') ∧ I ρ') ∧ (ds.all p = false → forL g body ds ρ = .ok (.rt r))
  | [], _, ρ, hi => ⟨fun _ => ⟨ρ, rfl, hi⟩, fun h => by cases h⟩
  | d :: ds, h, ρ, hi => by
    obtain ⟨ρ1, h1, h2, h3⟩ := h d (by simp) ρ hi
    rw [List.all_cons, forL, h1]
    simp only [lift_some, bind_ok]
    cases q : p d with
    | true =>
      obtain ⟨ρ2, e2, i2⟩ := h2 q
      rw [e2]
      simp only [bind_ok, Bool.true_and]
      exact forL_allM I p r ds (fun d hd => h d (by simp [hd])) ρ2 i2
    | false =>
      rw [h3 q]
      exact ⟨fun z => by simp at z, fun _ => rfl⟩
theorem compL_map (f : D → D) : ∀ (ds : List D), (∀ d ∈ ds, ∃ ρ1, g d ρ = some ρ1 ∧ te ρ1 = .ok (f d)) → compL g cYes te ρ ds = .ok (ds.map f)
  | [], _ => rfl
  | d :: ds, h => by
    obtain ⟨ρ1, h1, h2⟩ := h d (by simp)
    rw [compL, h1]
    simp only [lift_some, bind_ok, ev_Yes, nox_ok1, if_true, h2, compL_map f ds fun d hd => h d (by simp [hd]), List.map_cons]
/-- .. whose items are told by a law -/
theorem compL_some (P : D → D → Prop) : ∀ (ds : List D), (∀ d ∈ ds, ∃ ρ1 x, g d ρ = some ρ1 ∧ te ρ1 = .ok x ∧ P d x) → ∃ xs, compL g cYes te ρ ds = .ok xs ∧ xs.length = ds.length ∧ ∀ x ∈ xs, ∃ d ∈ ds, P d x
  | [], _ => ⟨[], rfl, rfl, by simp⟩
  | d :: ds, h => by
    obtain ⟨ρ1, x, h1, h2, h3⟩ := h d (by simp)
    obtain ⟨xs, e, hl, hx⟩ := compL_some P ds fun d hd => h d (by simp [hd])
    refine ⟨x :: xs, ?_, by simp [hl], ?_⟩
    · rw [compL, h1]
      simp only [lift_some, bind_ok, ev_Yes, nox_ok1, if_true, h2, e]
    · intro y hy
      (rcases List.mem_cons.mp hy with rfl | hy)
      · exact ⟨d, by simp, h3⟩
      · obtain ⟨d', hd, p⟩ := hx y hy
        exact ⟨d', by simp [hd], p⟩
end
end L2.DL
namespace L2.DL.K71
open PySem PyProof.Rows PySem.Spec
/-- a number of at most 400 figures -/
def sm (i : Int) : Prop := i.natAbs < 10 ^ 400
theorem log2_of {n k : Nat} (h : n < 2 ^ k) (hk : 0 < k) : n.log2 < k := by
  by_cases h0 : n = 0
  · subst h0; simpa using hk
  · (exact (Nat.log2_lt h0).mpr h)
theorem sm.log {i : Int} (h : sm i) : i.natAbs.log2 < 1329 := log2_of (Nat.lt_of_lt_of_le h (by decide +kernel)) (by decide)
theorem sm.fd {i : Int} (h : sm i) : i.natAbs.log2 < 9000 := Nat.lt_trans h.log (by decide)
theorem sm.st {i : Int} (h : sm i) : i.natAbs.log2 < 1920 := Nat.lt_trans h.log (by decide)
theorem sm.mu {i j : Int} (h : sm i) (k : sm j) : CMulW i j := by
  have a := h.log
  have b := k.log
  show _ < 1000000
  omega
theorem sm_of {i : Int} {n : Nat} (h : i.natAbs ≤ n) (hn : n < 10 ^ 400) : sm i := Nat.lt_of_le_of_lt h hn
theorem size_ge : 1000000 ≤ sizeLine := by decide
theorem ratio_eq {a b : Int} (hb : b ≠ 0) (sb : sm b) : m_ratio [.int a, .int b] = .ok (.tup [.int (a.fdiv (if b < 0 then -((Nat.gcd a.natAbs b.natAbs : Nat) : Int) else (Nat.gcd a.natAbs b.natAbs : Nat))), .int (b.fdiv (if b < 0 then -((Nat.gcd a.natAbs b.natAbs : Nat) : Int) else (Nat.gcd a.natAbs b.natAbs : Nat)))]) := by
  have g0 : ((Nat.gcd a.natAbs b.natAbs : Nat) : Int) ≠ 0 := by
    have : Nat.gcd a.natAbs b.natAbs ≠ 0 := Nat.gcd_ne_zero_right (by omega)
    omega
  have gs : sm ((Nat.gcd a.natAbs b.natAbs : Nat) : Int) := by
    refine Nat.lt_of_le_of_lt ?_ sb
    simp only [Int.natAbs_natCast]
    exact Nat.gcd_le_right _ (by omega)
  have gs' : sm (-((Nat.gcd a.natAbs b.natAbs : Nat) : Int)) := by
    unfold sm at gs ⊢
    rwa [Int.natAbs_neg]
  have g1 : -((Nat.gcd a.natAbs b.natAbs : Nat) : Int) ≠ 0 := by omega
  have l2 : 2 ≤ sizeLine := by decide
  have d1 := fun i => o_fdiv (i := i) g0 gs.fd
  have d2 := fun i => o_fdiv (i := i) g1 gs'.fd
  by_cases h : b < 0
  · simp [m_ratio, runB, hb, h, d2, l2]
  · simp [m_ratio, runB, hb, h, d1, l2]
end L2.DL.K71
namespace L2.DL.K71
open PySem PyProof.Rows PySem.Spec
open TL (tl)
/-! ### signs -/
def dg (c : Nat) : Bool := decide (48 ≤ c) && decide (c ≤ 57)
def digs (l : List Nat) : Bool := decide (1 ≤ l.length) && (decide (l.length ≤ 60) && (l.all dg && (decide (l.length = 1) || decide (l.head? ≠ some 48))))
def wh (l : List Nat) : Bool := if l.take 1 = [45] then digs (l.drop 1) && decide (l ≠ [45, 48]) else digs l
theorem figures : ("0123456789" : Str).cps.toList = [48, 49, 50, 51, 52, 53, 54, 55, 56, 57] := by decide +kernel
theorem in_fig (c : Nat) : decide (c ∈ ("0123456789" : Str).cps.toList) = dg c := by
  rw [figures, Bool.eq_iff_iff]
  simp only [decide_eq_true_eq, dg, Bool.and_eq_true, List.mem_cons, List.not_mem_nil, or_false]
  omega
theorem tl_cut1 (z : Str) : tl (cutS z none (some 1)) = (tl z).take 1 := by
  show ((z.cps.toList.drop 0).take (HT.sIx z.length z.length (some ((1 : Nat) : Int)) - 0)) = _
  rw [HT.sIx_nat, TL.len_tl, List.drop_zero, Nat.sub_zero]
  show (tl z).take (min 1 (tl z).length) = _
  rw [← List.take_take, List.take_length]
theorem tl_cut2 (z : Str) : tl (cutS z (some 1) none) = (tl z).drop 1 := by
  show ((z.cps.toList.drop (HT.sIx z.length 0 (some ((1 : Nat) : Int)))).take (z.length - HT.sIx z.length 0 (some ((1 : Nat) : Int)))) = _
  rw [HT.sIx_nat, TL.len_tl]
  show ((tl z).drop (min 1 (tl z).length)).take _ = _
  cases h : tl z with
  | nil => rfl
  | cons a r => simp
theorem str_eq {z w : Str} : z = w ↔ tl z = tl w := ⟨fun h => h ▸ rfl, TL.ext_tl⟩
theorem tl_minus : tl ("-" : Str) = [45] := by decide +kernel
theorem tl_minus0 : tl ("-0" : Str) = [45, 48] := by decide +kernel
theorem tl_zero : tl ("0" : Str) = [48] := by decide +kernel
theorem tl_one : tl ("1" : Str) = [49] := by decide +kernel
theorem tl_slash : tl ("/" : Str) = [47] := by decide +kernel
theorem tl_space : tl (" " : Str) = [32] := by decide +kernel
theorem tl_empty : tl ("" : Str) = [] := by decide +kernel
theorem signs_len (z : Str) : (signsD z).length = z.length := by simp [signsD, Str.length]
/-- the first sign -/
theorem ix0 {z : Str} (h : z.length ≤ sizeLine) (h1 : 1 ≤ z.length) : ∃ c r, tl z = c :: r ∧ oIx (.str z) (.int 0) = some (.str ⟨#[c]⟩) := by
  have e := TL.len_tl z
  cases q : tl z with
  | nil => rw [q] at e; simp at e; omega
  | cons c r =>
    refine ⟨c, r, rfl, ?_⟩
    show (if _ then _ else _) = _
    rw [if_pos h]
    show (atI (tl z) 0).map _ = _
    rw [q, at0]
    rfl
theorem one_sign {c : Nat} {w : Str} {k : Nat} (h : tl w = [k]) : decide ((⟨#[c]⟩ : Str) = w) = decide (c = k) := by
  rw [Bool.eq_iff_iff]
  simp only [decide_eq_true_eq, str_eq, h]
  show ([c] = [k]) ↔ _
  simp
theorem all_signs (z : Str) (p : Nat → Bool) (q : D → Bool) (h : ∀ c, q (.str ⟨#[c]⟩) = p c) : (signsD z).all q = (tl z).all p := by
  unfold signsD
  rw [List.all_map]
  exact congrArg (fun f => List.all (tl z) f) (funext fun c => h c)
/-- the sign that a text of one sign holds -/
def sgn : D → Nat
  | .str z => (tl z).headD 0
  | _ => 0
theorem all_in_eq (z w : Str) : m_all_in [.str z, .str w] = .ok (.bl ((tl z).all fun c => decide (c ∈ tl w))) := by
  have key := forL_allM (g := gN 2) (body := sIf (cE (eOp oNotIn (eV 2) (eV 1))) (sRet (eC (.bl false))) sNx) (fun ρ => ∃ y, ρ = [.d (.str z), .d (.str w), y]) (fun d => decide (sgn d ∈ tl w)) (.bl false) (signsD z) (fun d hd ρ ⟨y, e⟩ => by
    obtain ⟨c, _, rfl⟩ := List.mem_map.mp hd
    subst e
    refine ⟨[.d (.str z), .d (.str w), .d (.str ⟨#[c]⟩)], rfl, fun hp => ⟨[.d (.str z), .d (.str w), .d (.str ⟨#[c]⟩)], ?_, _, rfl⟩, fun hp => ?_⟩
    · have hp : decide (c ∈ w.cps.toList) = true := hp
      have hp : c ∈ w.cps := by simpa using hp
      simp [oNotIn, hp]
    · have hp : decide (c ∈ w.cps.toList) = false := hp
      have hp : ¬ c ∈ w.cps := by simpa using hp
      simp [oNotIn, hp]) [.d (.str z), .d (.str w), .no] ⟨_, rfl⟩
  rw [all_signs z (fun c => decide (c ∈ tl w)) _ (fun c => rfl)] at key
  cases q : (tl z).all fun c => decide (c ∈ tl w) with
  | true =>
    obtain ⟨ρ', e, _⟩ := key.1 q
    simp [m_all_in, runB, e]
  | false => simp [m_all_in, runB, key.2 q]
theorem all_fig (z : Str) : m_all_in [.str z, .str "0123456789"] = .ok (.bl ((tl z).all dg)) := by
  rw [all_in_eq]
  exact congrArg (fun f => Res.ok (D.bl ((tl z).all f))) (funext in_fig)
theorem digs_len {l : List Nat} (h : digs l = true) : 1 ≤ l.length ∧ l.length ≤ 60 ∧ l.all dg = true ∧ (l.length = 1 ∨ l.head? ≠ some 48) := by
  unfold digs at h
  simp only [Bool.and_eq_true, Bool.or_eq_true, decide_eq_true_eq] at h
  exact h
theorem digs_iff {l : List Nat} : digs l = true ↔ (1 ≤ l.length ∧ l.length ≤ 60 ∧ l.all dg = true ∧ (l.length = 1 ∨ l.head? ≠ some 48)) := by
  unfold digs
  simp only [Bool.and_eq_true, Bool.or_eq_true, decide_eq_true_eq]
theorem digs_no {l : List Nat} (h : ¬ (1 ≤ l.length ∧ l.length ≤ 60 ∧ l.all dg = true ∧ (l.length = 1 ∨ l.head? ≠ some 48))) : digs l = false := by
  rw [← Bool.not_eq_true, digs_iff]
  exact h
/-- what both tests of figures come to -/
theorem digs_val {z : Str} (h : z.length ≤ sizeLine) : ((z.length : Int) < 1 ∧ digs (tl z) = false) ∨ (¬ (z.length : Int) < 1 ∧ (60 : Int) < z.length ∧ digs (tl z) = false) ∨ (¬ (z.length : Int) < 1 ∧ ¬ (60 : Int) < z.length ∧ (tl z).all dg = false ∧ digs (tl z) = false) ∨
    (¬ (z.length : Int) < 1 ∧ ¬ (60 : Int) < z.length ∧ (tl z).all dg = true ∧ (z.length : Int) = 1 ∧ digs (tl z) = true) ∨
    (¬ (z.length : Int) < 1 ∧ ¬ (60 : Int) < z.length ∧ (tl z).all dg = true ∧ ¬ (z.length : Int) = 1 ∧ ∃ c, oIx (.str z) (.int 0) = some (.str ⟨#[c]⟩) ∧ decide ((⟨#[c]⟩ : Str) = "0") = decide (c = 48) ∧ digs (tl z) = !decide (c = 48)) := by
  have e := TL.len_tl z
  by_cases h1 : (z.length : Int) < 1
  · exact .inl ⟨h1, digs_no fun q => by omega⟩
  · refine .inr ?_
    by_cases h2 : (60 : Int) < z.length
    · exact .inl ⟨h1, h2, digs_no fun q => by omega⟩
    · refine .inr ?_
      cases q3 : (tl z).all dg with
      | false => exact .inl ⟨h1, h2, rfl, digs_no fun q => by rw [q3] at q; exact absurd q.2.2.1 (by decide)⟩
      | true =>
        refine .inr ?_
        by_cases h4 : (z.length : Int) = 1
        · exact .inl ⟨h1, h2, rfl, h4, digs_iff.mpr ⟨by omega, by omega, q3, .inl (by omega)⟩⟩
        · obtain ⟨c, r, q, ix⟩ := ix0 h (by omega)
          refine .inr ⟨h1, h2, rfl, h4, c, ix, one_sign tl_zero, ?_⟩
          rw [Bool.eq_iff_iff, digs_iff, q3, Bool.not_eq_true', decide_eq_false_iff_not]
          constructor
          · rintro ⟨_, _, _, k⟩
            rcases k with k | k
            · omega
            · intro hc; rw [q, hc] at k; exact k rfl
          · intro hc
            refine ⟨by omega, by omega, rfl, .inr ?_⟩
            rw [q]
            intro k
            exact hc (Option.some.inj k)
theorem digs_eq {z : Str} (h : z.length ≤ sizeLine) : m_is_digits [.str z] = .ok (.bl (digs (tl z))) := by
  rcases digs_val h with ⟨h1, v⟩ | ⟨h1, h2, v⟩ | ⟨h1, h2, h3, v⟩ | ⟨h1, h2, h3, h4, v⟩ | ⟨h1, h2, h3, h4, c, ix, hz, v⟩ <;> rw [v]
  · simp [m_is_digits, runB, h, h1]
  · simp [m_is_digits, runB, h, h1, h2]
  · have := (all_fig z).trans (congrArg (fun b => Res.ok (D.bl b)) h3)
    simp [m_is_digits, runB, h, h1, h2, this]
  · have := (all_fig z).trans (congrArg (fun b => Res.ok (D.bl b)) h3)
    simp [m_is_digits, runB, h, h1, h2, this, h4]
  · have := (all_fig z).trans (congrArg (fun b => Res.ok (D.bl b)) h3)
    simp [m_is_digits, runB, h, h1, h2, this, h4, ix, hz]
/-- no sign is outside -/
theorem any_out (z w : Str) (p : Nat → Bool) (hp : ∀ c, decide (c ∈ w.cps.toList) = p c) {ρ : List Sl} {i : Nat} {te : ME} (hi : ∀ c, te (ρ.set i (.d (.str ⟨#[c]⟩))) = .ok (.bl (!decide (c ∈ w.cps.toList)))) :
    ∃ bs : List Bool, compL (gN i) cYes te ρ (signsD z) = .ok (bs.map D.bl) ∧ bs.any id = !(tl z).all p := by
  refine ⟨(tl z).map fun c => !p c, ?_, ?_⟩
  · rw [compL_map (fun d => .bl (!p (sgn d)))]
    · unfold signsD
      (rw [List.map_map, List.map_map])
      rfl
    · intro d hd
      obtain ⟨c, _, rfl⟩ := List.mem_map.mp hd
      exact ⟨_, rfl, by rw [hi c, hp c]; rfl⟩
  · induction tl z with
    | nil => rfl
    | cons c l ih =>
      rw [List.map_cons, List.any_cons, ih, List.all_cons, Bool.not_and]
      rfl
theorem dtext_eq {z : Str} (h : z.length ≤ sizeLine) : m__law_digits_text [.str z] = .ok (.bl (digs (tl z))) := by
  obtain ⟨bs, hb, ha⟩ := any_out z "0123456789" dg in_fig (ρ := [.d (.str z), .no]) (i := 1) (te := eOp oNotIn (eV 1) (eC (.str ("0123456789" : Str)))) fun c => by
    simp [oNotIn]
  have hf := f_any bs (blsD_map bs)
  have hl := signs_len z
  rcases digs_val h with ⟨h1, v⟩ | ⟨h1, h2, v⟩ | ⟨h1, h2, h3, v⟩ | ⟨h1, h2, h3, h4, v⟩ | ⟨h1, h2, h3, h4, c, ix, hz, v⟩ <;> rw [v]
  · simp [m__law_digits_text, runB, h, h1]
  · simp [m__law_digits_text, runB, h, h1, h2]
  · rw [h3] at ha
    simp [m__law_digits_text, runB, h, h1, h2, hb, hf, hl, ha]
  · rw [h3] at ha
    simp [m__law_digits_text, runB, h, h1, h2, hb, hf, hl, ha, h4]
  · rw [h3] at ha
    simp [m__law_digits_text, runB, h, h1, h2, hb, hf, hl, ha, h4, ix, hz]
end L2.DL.K71
namespace L2.DL.K71
open PySem PyProof.Rows PySem.Spec
open TL (tl)
theorem tl_eq1 {z w : Str} {l : List Nat} (h : tl w = l) : decide (z = w) = decide (tl z = l) := by
  rw [Bool.eq_iff_iff, decide_eq_true_eq, decide_eq_true_eq, str_eq, h]
theorem len_of {z w : Str} (h : (tl z).length ≤ (tl w).length) : z.length ≤ w.length := by
  rw [TL.len_tl, TL.len_tl]; exact h
theorem cut_some {z : Str} {lo hi : Option Int} (h : z.length ≤ sizeLine) : oCut (.str z) lo hi = some (.str (cutS z lo hi)) := if_pos h
theorem whole_eq {z : Str} (h : z.length ≤ sizeLine) : m_is_whole [.str z] = .ok (.bl (wh (tl z))) := by
  have c1 := cut_some (lo := none) (hi := some 1) h
  have c2 := cut_some (lo := some 1) (hi := none) h
  have l2 : (cutS z (some 1) none).length ≤ sizeLine := Nat.le_trans (len_of (by rw [tl_cut2]; simp)) h
  have e1 : decide (cutS z none (some 1) = "-") = decide ((tl z).take 1 = [45]) := by rw [tl_eq1 tl_minus, tl_cut1]
  have e2 : decide (z = "-0") = decide (tl z = [45, 48]) := tl_eq1 tl_minus0
  have d2 := digs_eq l2
  rw [tl_cut2] at d2
  unfold wh
  by_cases q : (tl z).take 1 = [45]
  · rw [if_pos q]
    cases k : digs ((tl z).drop 1) with
    | false => rw [k] at d2; simp [m_is_whole, runB, c1, c2, e1, q, d2]
    | true => rw [k] at d2; simp [m_is_whole, runB, c1, c2, e1, q, d2, e2]
  · rw [if_neg q]
    simp [m_is_whole, runB, c1, c2, e1, q, digs_eq h]
/-! ### values of figures -/
theorem alld {l : List Nat} (h : l.all dg = true) : NumText.AllDigits l := fun c hc => by
  have := List.all_eq_true.mp h c hc
  simp only [dg, Bool.and_eq_true, decide_eq_true_eq] at this
  exact this
theorem dval_lt : ∀ (l : List Nat) (a : Nat), NumText.AllDigits l → l.foldl (fun acc c => acc * 10 + (c - 48)) a < (a + 1) * 10 ^ l.length
  | [], a, _ => by simp
  | c :: l, a, h => by
    have hc := h c (by simp)
    have := dval_lt l (a * 10 + (c - 48)) fun x hx => h x (by simp [hx])
    (rw [List.foldl_cons, List.length_cons, Nat.pow_succ])
    refine Nat.lt_of_lt_of_le this ?_
    have : a * 10 + (c - 48) + 1 ≤ (a + 1) * 10 := by omega
    calc (a * 10 + (c - 48) + 1) * 10 ^ l.length ≤ ((a + 1) * 10) * 10 ^ l.length := Nat.mul_le_mul_right _ this
      _ = (a + 1) * (10 ^ l.length * 10) := by rw [Nat.mul_assoc, Nat.mul_comm 10]
theorem dval_b {l : List Nat} (h : NumText.AllDigits l) : NumText.digitsVal l < 10 ^ l.length := by
  have b := dval_lt l 0 h
  rw [Nat.zero_add, Nat.one_mul] at b
  exact b
/-- int() of a text -/
def iv (z : Str) : Int := (PySem.intText? z).getD 0
theorem pow60 {n k : Nat} (h : n < 10 ^ k) (hk : k ≤ 60) : n < 10 ^ 60 := Nat.lt_of_lt_of_le h (Nat.pow_le_pow_right (by decide) hk)
theorem iv_digs {z : Str} (h : digs (tl z) = true) : PySem.intText? z = some (iv z) ∧ 0 ≤ iv z ∧ (iv z).natAbs < 10 ^ 60 ∧ z.length ≤ 60 ∧ iv z = ((NumText.digitsVal (tl z) : Nat) : Int) := by
  obtain ⟨h1, h2, h3, h4⟩ := digs_len h
  have e := TL.len_tl z
  have v := PySem.intText_digits (x := z) (alld h3) (fun q => by rw [show tl z = [] from q] at h1; simp at h1) (by omega)
  have hv : iv z = ((NumText.digitsVal (tl z) : Nat) : Int) := by unfold iv; rw [v]; rfl
  have b := dval_b (alld h3)
  rw [hv]
  refine ⟨by rw [v], by omega, ?_, by omega, rfl⟩
  rw [Int.natAbs_natCast]
  exact pow60 b h2
theorem iv_wh {z : Str} (h : wh (tl z) = true) : PySem.intText? z = some (iv z) ∧ (iv z).natAbs < 10 ^ 60 ∧ z.length ≤ 61 := by
  unfold wh at h
  split at h
  · rename_i q
    obtain ⟨h1, _⟩ := Bool.and_eq_true_iff.mp h
    obtain ⟨k1, k2, k3, k4⟩ := digs_len h1
    have e := TL.len_tl z
    have hz : tl z = 45 :: (tl z).drop 1 := by
      have := List.take_append_drop 1 (tl z)
      rw [q] at this
      exact this.symm
    have hl : (tl z).length = ((tl z).drop 1).length + 1 := by
      conv => lhs; rw [hz]
      rfl
    have v := PySem.intText_neg (x := z) (cs := (tl z).drop 1) hz (alld k3) (fun q => by rw [q] at k1; simp at k1) (by omega)
    have hv : iv z = -((NumText.digitsVal ((tl z).drop 1) : Nat) : Int) := by unfold iv; rw [v]; rfl
    have b := dval_b (alld k3)
    refine ⟨by rw [hv, v], ?_, by omega⟩
    rw [hv, Int.natAbs_neg, Int.natAbs_natCast]
    exact pow60 b k2
  · obtain ⟨a, b, c, d, _⟩ := iv_digs h
    exact ⟨a, c, by omega⟩
theorem dval_one {l : List Nat} (h : digs l = true) : (NumText.digitsVal l < 2) ↔ (l = [48] ∨ l = [49]) := by
  obtain ⟨k1, k2, k3, k4⟩ := digs_len h
  have ad := alld k3
  cases l with
  | nil => simp at k1
  | cons c r =>
    have hc := ad c (by simp)
    cases r with
    | nil =>
      show (0 * 10 + (c - 48) < 2) ↔ _
      simp
      omega
    | cons d r =>
      constructor
      · intro hlt
        exfalso
        rcases k4 with k4 | k4
        · simp at k4
        · have c49 : 49 ≤ c := by
            have : c ≠ 48 := fun e => k4 (by rw [e]; rfl)
            omega
          have mono : ∀ (l : List Nat) (a : Nat), a ≤ l.foldl (fun acc c => acc * 10 + (c - 48)) a := fun l => by
            induction l with
            | nil => intro a; exact Nat.le_refl _
            | cons x l ih => intro a; exact Nat.le_trans (by omega) (ih (a * 10 + (x - 48)))
          have := mono r ((0 * 10 + (c - 48)) * 10 + (d - 48))
          have e : NumText.digitsVal (c :: d :: r) = r.foldl (fun acc c => acc * 10 + (c - 48)) ((0 * 10 + (c - 48)) * 10 + (d - 48)) := rfl
          rw [e] at hlt
          omega
      · rintro (e | e) <;> · exfalso; simp at e
end L2.DL.K71
namespace L2.DL.K71
open PySem PyProof.Rows PySem.Spec
open TL (tl)
/-! ### gcd -/
theorem fmod_nat (a b : Nat) : (a : Int).fmod (b : Int) = ((a % b : Nat) : Int) := by
  (rw [Int.fmod_eq_emod_of_nonneg _ (by omega)])
  rfl
theorem gcd_loop : ∀ (n a b : Nat) (z : Sl), b ≤ n → ∃ z', whileL (cE (eOp oNe (eV 1) (eC (.int 0)))) (sSeq (sAsg (eOp oMod (eFn fInt (aCons (eV 0) aNil)) (eV 1)) (gN 2)) (sSeq (sAsg (eV 1) (gN 0)) (sAsg (eV 2) (gN 1)))) (n + 1) [.d (.int a), .d (.int b), z] = .ok (.nx [.d (.int (Nat.gcd a b : Nat)), .d (.int 0), z']) := by
  intro n
  induction n with
  | zero =>
    intro a b z h
    have : b = 0 := by omega
    subst this
    exact ⟨z, by simp [whileL]⟩
  | succ n ih =>
    intro a b z h
    by_cases h0 : b = 0
    · subst h0
      exact ⟨z, by simp [whileL]⟩
    · have hm : a % b < b := Nat.mod_lt _ (by omega)
      have hg : Nat.gcd a b = Nat.gcd b (a % b) := by rw [Nat.gcd_comm, Nat.gcd_rec, Nat.gcd_comm]
      have hf := fmod_nat a b
      obtain ⟨r, hr⟩ : ∃ r, r = a % b := ⟨_, rfl⟩
      rw [← hr] at hm hg hf
      obtain ⟨z', e⟩ := ih b r (.d (.int (r : Int))) (by omega)
      refine ⟨z', ?_⟩
      rw [hg, ← e, whileL]
      have h1 : (b : Int) ≠ 0 := by omega
      simp [h1, hf, h0]
theorem gcd_eq (a b : Int) : m__law_gcd [.int a, .int b] = .ok (.int ((Nat.gcd a.natAbs b.natAbs : Nat) : Int)) := by
  obtain ⟨z', e⟩ := gcd_loop b.natAbs a.natAbs b.natAbs .no (Nat.le_refl _)
  have hf : fuelI 1 [.d (.int (a.natAbs : Int)), .d (.int (b.natAbs : Int)), .no] = b.natAbs + 1 := by
    show (b.natAbs : Int).natAbs + 1 = _
    rw [Int.natAbs_natCast]
  simp [m__law_gcd, runB, hf, e]
/-! ### a text cut at / -/
theorem slash_or : ∀ l : List Nat, 47 ∉ l ∨ ∃ p r, l = p ++ (47 :: r) ∧ 47 ∉ p
  | [] => .inl (by simp)
  | c :: l => by
    by_cases h : c = 47
    · exact .inr ⟨[], l, by rw [h]; rfl, by simp⟩
    · rcases slash_or l with q | ⟨p, r, e, q⟩
      · exact .inl (by simp [q, Ne.symm h])
      · exact .inr ⟨c :: p, r, by rw [e]; rfl, by simp [q, Ne.symm h]⟩
theorem kind_slash : ("/" : Str).cps.all (· < 256) = true := by decide +kernel
theorem slash_ne : tl ("/" : Str) ≠ [] := by rw [tl_slash]; simp
theorem part_cases (w : Str) : (47 ∉ tl w ∧ Txt.partition w "/" = (w, Str.empty, Str.empty) ∧ Txt.split w "/" = [w]) ∨
    ∃ a b : Str, 47 ∉ tl a ∧ tl w = tl a ++ (47 :: tl b) ∧ Txt.partition w "/" = (a, ("/" : Str), b) ∧ Txt.split w "/" = a :: Txt.split b "/" := by
  rcases slash_or (tl w) with h | ⟨p, r, e, h⟩
  · refine .inl ⟨h, TL.partition_none tl_slash h, TL.map_tl_inj ?_⟩
    rw [TL.split_spl _ _ slash_ne (TL.kind_ok kind_slash), tl_slash, TL.spl_last1 h]
    rfl
  · refine .inr ⟨⟨p.toArray⟩, ⟨r.toArray⟩, h, e, ?_, TL.map_tl_inj ?_⟩
    · have ew : w = (⟨p.toArray⟩ : Str) ++ "/" ++ ⟨r.toArray⟩ := TL.ext_tl (by rw [e, TL.tl_append, TL.tl_append, tl_slash]; simp [TL.tl_mk])
      rw [ew]
      exact TL.partition_app tl_slash h
    · rw [TL.split_spl _ _ slash_ne (TL.kind_ok kind_slash), tl_slash, e, List.map_cons, TL.split_spl _ _ slash_ne (TL.kind_ok kind_slash), tl_slash]
      exact TL.spl_part1 h
theorem split_ne (w : Str) : ∃ a r, Txt.split w "/" = a :: r := by
  rcases part_cases w with ⟨_, _, e⟩ | ⟨a, b, _, _, _, e⟩ <;> exact ⟨_, _, e⟩
/-- what a word says -/
def rd (w : Str) : Option (Int × Int) :=
  if (Txt.partition w "/").2.1 = "" then (if wh (tl w) = true then some (iv w, 1) else none)
  else if wh (tl (Txt.partition w "/").1) = true ∧ digs (tl (Txt.partition w "/").2.2) = true ∧ 2 ≤ iv (Txt.partition w "/").2.2 ∧ Nat.gcd (iv (Txt.partition w "/").1).natAbs (iv (Txt.partition w "/").2.2).natAbs = 1 then some (iv (Txt.partition w "/").1, iv (Txt.partition w "/").2.2) else none
theorem rd1 {w : Str} (h : Txt.partition w "/" = (w, Str.empty, Str.empty)) : rd w = if wh (tl w) = true then some (iv w, 1) else none := by
  unfold rd
  rw [h]
  exact if_pos (show Str.empty = ("" : Str) by decide)
theorem rd2 {w a b : Str} (h : Txt.partition w "/" = (a, ("/" : Str), b)) : rd w = if wh (tl a) = true ∧ digs (tl b) = true ∧ 2 ≤ iv b ∧ Nat.gcd (iv a).natAbs (iv b).natAbs = 1 then some (iv a, iv b) else none := by
  unfold rd
  rw [h]
  exact if_neg (show ¬ ("/" : Str) = ("" : Str) by decide)
theorem sm60 {i : Int} (h : i.natAbs < 10 ^ 60) : sm i := Nat.lt_of_lt_of_le h (Nat.pow_le_pow_right (by decide) (by decide))
theorem rd_ok {w : Str} {a b : Int} (h : rd w = some (a, b)) : 1 ≤ b ∧ a.natAbs < 10 ^ 60 ∧ b.natAbs < 10 ^ 60 ∧ Nat.gcd a.natAbs b.natAbs = 1 := by
  rcases part_cases w with ⟨_, hp, _⟩ | ⟨x, y, _, _, hp, _⟩
  · rw [rd1 hp] at h
    split at h
    · rename_i q
      cases h
      exact ⟨by omega, (iv_wh q).2.1, by decide +kernel, by simp⟩
    · cases h
  · rw [rd2 hp] at h
    split at h
    · rename_i q
      cases h
      exact ⟨by omega, (iv_wh q.1).2.1, (iv_digs q.2.1).2.2.1, q.2.2.2⟩
    · cases h
theorem low {z : Str} (h : digs (tl z) = true) : decide (z ∈ [("0" : Str), "1"]) = decide (iv z < 2) := by
  rw [Bool.eq_iff_iff, decide_eq_true_eq, decide_eq_true_eq, (iv_digs h).2.2.2.2]
  have := dval_one h
  simp only [List.mem_cons, List.not_mem_nil, or_false, str_eq, tl_zero, tl_one]
  rw [← this]
  omega
theorem lens {w a b : Str} (e : tl w = tl a ++ (47 :: tl b)) : w.length = a.length + 1 + b.length := by
  rw [TL.len_tl, TL.len_tl a, TL.len_tl b, e]
  simp
  omega
theorem fdiv_ne {b : Int} {g : Nat} (hb : 0 < b) (hg : 0 < g) (h1 : g ≠ 1) : b.fdiv (g : Int) ≠ b := by
  rw [Int.fdiv_eq_ediv_of_nonneg _ (by omega)]
  intro k
  have : b / (g : Int) < b := Int.ediv_lt_self_of_pos_of_ne_one hb (by omega)
  omega
theorem ratio_word {w : Str} (h : w.length ≤ sizeLine) : m_is_ratio_word [.str w] = .ok (.bl (rd w).isSome) := by
  have hsl : (("/" : Str).length == 0) = false := by decide +kernel
  have l2 : 2 ≤ sizeLine := by decide
  rcases part_cases w with ⟨_, hp, _⟩ | ⟨a, b, _, e, hp, _⟩
  · have gp : gPart w [.str ("/" : Str)] = some (.tup [.str w, .str Str.empty, .str Str.empty]) := by
      show (if _ then _ else _) = _
      rw [if_pos ⟨hsl, h⟩, hp]
    have he : decide (Str.empty = ("" : Str)) = true := by decide
    have hv : (rd w).isSome = wh (tl w) := by rw [rd1 hp]; cases wh (tl w) <;> rfl
    rw [hv]
    simp [m_is_ratio_word, runB, gp, he, whole_eq h]
  · have gp : gPart w [.str ("/" : Str)] = some (.tup [.str a, .str ("/" : Str), .str b]) := by
      show (if _ then _ else _) = _
      rw [if_pos ⟨hsl, h⟩, hp]
    have he : decide (("/" : Str) = ("" : Str)) = false := by decide
    have hl := lens e
    have wa := whole_eq (z := a) (by omega)
    have db := digs_eq (z := b) (by omega)
    have key := rd2 hp
    cases q1 : wh (tl a) with
    | false =>
      have hv : (rd w).isSome = false := by rw [key, if_neg (fun z => by rw [q1] at z; exact absurd z.1 (by decide))]; rfl
      rw [hv]
      rw [q1] at wa
      simp [m_is_ratio_word, runB, gp, he, wa]
    | true =>
      rw [q1] at wa
      cases q2 : digs (tl b) with
      | false =>
        have hv : (rd w).isSome = false := by rw [key, if_neg (fun z => by rw [q2] at z; exact absurd z.2.1 (by decide))]; rfl
        rw [hv]
        rw [q2] at db
        simp [m_is_ratio_word, runB, gp, he, wa, db]
      | true =>
        rw [q2] at db
        have hin : oIn (.str b) (.tup [.str ("0" : Str), .str ("1" : Str)]) = some (.bl (decide (iv b < 2))) := by
          show (inB (.str b) (.tup ([("0" : Str), "1"].map D.str))).map D.bl = _
          rw [in_tupS, low q2]
          rfl
        by_cases q3 : iv b < 2
        · have hv : (rd w).isSome = false := by rw [key, if_neg (fun z => by omega)]; rfl
          rw [hv]
          simp [m_is_ratio_word, runB, gp, he, wa, db, l2, hin, q3]
        · obtain ⟨va, ba, la⟩ := iv_wh q1
          obtain ⟨vb, pb, bb, lb, _⟩ := iv_digs q2
          have ia : fInt [.str a] = some (.int (iv a)) := by rw [f_intS (by omega), va]; rfl
          have ib : fInt [.str b] = some (.int (iv b)) := by rw [f_intS (by omega), vb]; rfl
          have rt := ratio_eq (a := iv a) (b := iv b) (by omega) (sm60 bb)
          rw [if_neg (by omega)] at rt
          have gpos : 0 < Nat.gcd (iv a).natAbs (iv b).natAbs := Nat.gcd_pos_of_pos_right _ (by omega)
          have hv : (rd w).isSome = (decide ((iv a).fdiv (Nat.gcd (iv a).natAbs (iv b).natAbs : Nat) = iv a) && decide ((iv b).fdiv (Nat.gcd (iv a).natAbs (iv b).natAbs : Nat) = iv b)) := by
            rw [key]
            by_cases g1 : Nat.gcd (iv a).natAbs (iv b).natAbs = 1
            · rw [if_pos ⟨q1, q2, by omega, g1⟩, g1]
              simp
            · rw [if_neg (fun z => g1 z.2.2.2)]
              have := fdiv_ne (b := iv b) (by omega) gpos g1
              simp [this]
          rw [hv]
          clear hv gpos
          revert rt
          generalize (iv a).fdiv (Nat.gcd (iv a).natAbs (iv b).natAbs : Nat) = x
          generalize (iv b).fdiv (Nat.gcd (iv a).natAbs (iv b).natAbs : Nat) = y
          intro rt
          simp [m_is_ratio_word, runB, gp, he, wa, db, l2, hin, q3, ia, ib, rt]
end L2.DL.K71
namespace L2.DL.K71
open PySem PyProof.Rows PySem.Spec
open TL (tl)
def pair (q : Int × Int) : D := .tup [.int q.1, .int q.2]
def readR (w : Str) : Res D := match rd w with
  | some q => .ok (pair q)
  | none => .ex 2 [("word", .str w)]
def rdD (w : Str) : D := match rd w with
  | some q => pair q
  | none => .non
def askD (w : Str) : D := match rd w with
  | some q => .lst [.str "told", pair q]
  | none => .lst [.str "bad", .str w, .bl true]
theorem gp1 {w : Str} (h : w.length ≤ sizeLine) : gPart w [.str ("/" : Str)] = some (.tup [.str (Txt.partition w "/").1, .str (Txt.partition w "/").2.1, .str (Txt.partition w "/").2.2]) := if_pos ⟨by decide +kernel, h⟩
theorem read_eq {w : Str} (h : w.length ≤ sizeLine) : m_read_ratio [.str w] = readR w := by
  have l2 : 2 ≤ sizeLine := by decide
  have gp := gp1 h
  have rw1 := ratio_word h
  unfold readR
  rcases part_cases w with ⟨_, hp, _⟩ | ⟨a, b, _, e, hp, _⟩
  · rw [hp] at gp
    have he : decide (Str.empty = ("" : Str)) = true := by decide
    have key := rd1 hp
    cases q : wh (tl w) with
    | false =>
      rw [key, q]
      rw [key, q] at rw1
      simp at rw1
      simp [m_read_ratio, runB, rw1]
    | true =>
      rw [key, q]
      rw [key, q] at rw1
      simp at rw1
      obtain ⟨va, ba, la⟩ := iv_wh q
      have ia : fInt [.str w] = some (.int (iv w)) := by rw [f_intS (by omega), va]; rfl
      simp [m_read_ratio, runB, rw1, gp, he, ia, l2, pair]
  · rw [hp] at gp
    have he : decide (("/" : Str) = ("" : Str)) = false := by decide
    have key := rd2 hp
    split at key
    · rename_i q
      rw [key]
      rw [key] at rw1
      simp at rw1
      obtain ⟨va, ba, la⟩ := iv_wh q.1
      obtain ⟨vb, pb, bb, lb, _⟩ := iv_digs q.2.1
      have ia : fInt [.str a] = some (.int (iv a)) := by rw [f_intS (by omega), va]; rfl
      have ib : fInt [.str b] = some (.int (iv b)) := by rw [f_intS (by omega), vb]; rfl
      simp [m_read_ratio, runB, rw1, gp, he, ia, ib, l2, pair]
    · rw [key]
      rw [key] at rw1
      simp at rw1
      simp [m_read_ratio, runB, rw1]
theorem digs_no47 {l : List Nat} (h : 47 ∈ l) : digs l = false := by
  cases q : digs l with
  | false => rfl
  | true =>
    exfalso
    have := List.all_eq_true.mp (digs_len q).2.2.1 47 h
    exact absurd this (by decide)
/-- the first part, the law's way: its figures are asked behind a sign -/
theorem wh_minus {l : List Nat} (h : l.take 1 = [45]) : wh l = (decide (l.drop 1 ≠ [48]) && digs (l.drop 1)) := by
  unfold wh
  rw [if_pos h]
  have hz : l = 45 :: l.drop 1 := by
    have := List.take_append_drop 1 l
    rw [h] at this
    exact this.symm
  have : decide (l ≠ [45, 48]) = decide (l.drop 1 ≠ [48]) := by
    (rw [Bool.eq_iff_iff, decide_eq_true_eq, decide_eq_true_eq])
    constructor
    · intro k e; exact k (by rw [hz, e])
    · intro k e; exact k (by rw [e]; rfl)
  rw [this, Bool.and_comm]
theorem gs1 {w : Str} (h : w.length + 2 ≤ sizeLine) : gSplit w [.str ("/" : Str)] = some (.lst (strsD (Txt.split w "/"))) := if_pos ⟨by decide +kernel, h⟩
theorem lread_eq {w : Str} (h : w.length + 2 ≤ sizeLine) : m__law_read [.str w] = .ok (rdD w) := by
  have l2 : 2 ≤ sizeLine := by decide
  have gs := gs1 h
  unfold rdD
  -- the first part a, behind its sign
  have first : ∀ a : Str, a.length ≤ sizeLine → (oCut (.str a) none (some 1) = some (.str (cutS a none (some 1))) ∧ oCut (.str a) (some 1) none = some (.str (cutS a (some 1) none))) ∧
      ((decide (cutS a none (some 1) = ("-" : Str)) = true ∧ decide (cutS a (some 1) none = ("0" : Str)) = true ∧ wh (tl a) = false) ∨
       (decide (cutS a none (some 1) = ("-" : Str)) = true ∧ decide (cutS a (some 1) none = ("0" : Str)) = false ∧ m__law_digits_text [.str (cutS a (some 1) none)] = .ok (.bl (wh (tl a)))) ∨
       (decide (cutS a none (some 1) = ("-" : Str)) = false ∧ m__law_digits_text [.str a] = .ok (.bl (wh (tl a))))) := fun a ha => by
    refine ⟨⟨cut_some ha, cut_some ha⟩, ?_⟩
    have e1 : decide (cutS a none (some 1) = ("-" : Str)) = decide ((tl a).take 1 = [45]) := by rw [tl_eq1 tl_minus, tl_cut1]
    have e2 : decide (cutS a (some 1) none = ("0" : Str)) = decide ((tl a).drop 1 = [48]) := by rw [tl_eq1 tl_zero, tl_cut2]
    have lc : (cutS a (some 1) none).length ≤ sizeLine := Nat.le_trans (len_of (by rw [tl_cut2]; simp)) ha
    have d2 := dtext_eq lc
    rw [tl_cut2] at d2
    by_cases q : (tl a).take 1 = [45]
    · by_cases k : (tl a).drop 1 = [48]
      · exact .inl ⟨by rw [e1, decide_eq_true q], by rw [e2, decide_eq_true k], by rw [wh_minus q, k]; rfl⟩
      · refine .inr (.inl ⟨by rw [e1, decide_eq_true q], by rw [e2, decide_eq_false k], ?_⟩)
        rw [d2, wh_minus q, decide_eq_true (show (tl a).drop 1 ≠ [48] from k), Bool.true_and]
    · refine .inr (.inr ⟨by rw [e1, decide_eq_false q], ?_⟩)
      rw [dtext_eq ha]
      unfold wh
      rw [if_neg q]
  rcases part_cases w with ⟨_, hp, hs⟩ | ⟨a, b, _, e, hp, hs⟩
  · rw [hs] at gs
    have key := rd1 hp
    obtain ⟨⟨k1, k2⟩, f⟩ := first w (by omega)
    have gs : gSplit w [.str ("/" : Str)] = some (.lst [.str w]) := gs
    cases q : wh (tl w) with
    | false =>
      rw [key, q]
      rw [q] at f
      rcases f with ⟨f1, f2, _⟩ | ⟨f1, f2, f3⟩ | ⟨f1, f3⟩
      · simp [m__law_read, runB, gs, k1, k2, f1, f2]
      · simp [m__law_read, runB, gs, k1, k2, f1, f2, f3]
      · simp [m__law_read, runB, gs, k1, k2, f1, f3]
    | true =>
      rw [key, q]
      rw [q] at f
      obtain ⟨va, ba, la⟩ := iv_wh q
      have ia : fInt [.str w] = some (.int (iv w)) := by rw [f_intS (by omega), va]; rfl
      rcases f with ⟨f1, f2, f3⟩ | ⟨f1, f2, f3⟩ | ⟨f1, f3⟩
      · cases f3
      · simp [m__law_read, runB, gs, k1, k2, f1, f2, f3, ia, l2, pair]
      · simp [m__law_read, runB, gs, k1, k2, f1, f3, ia, l2, pair]
  · have key := rd2 hp
    have hl := lens e
    obtain ⟨⟨k1, k2⟩, f⟩ := first a (by omega)
    rcases part_cases b with ⟨_, _, hs2⟩ | ⟨b1, b2, _, e2, _, hs2⟩
    · rw [hs, hs2] at gs
      have gs : gSplit w [.str ("/" : Str)] = some (.lst [.str a, .str b]) := gs
      cases q1 : wh (tl a) with
      | false =>
        rw [key, if_neg (fun z => by rw [q1] at z; exact absurd z.1 (by decide))]
        rw [q1] at f
        rcases f with ⟨f1, f2, _⟩ | ⟨f1, f2, f3⟩ | ⟨f1, f3⟩
        · simp [m__law_read, runB, gs, k1, k2, f1, f2]
        · simp [m__law_read, runB, gs, k1, k2, f1, f2, f3]
        · simp [m__law_read, runB, gs, k1, k2, f1, f3]
      | true =>
        rw [q1] at f
        have db := dtext_eq (z := b) (by omega)
        obtain ⟨va, ba, la⟩ := iv_wh q1
        have ia : fInt [.str a] = some (.int (iv a)) := by rw [f_intS (by omega), va]; rfl
        cases q2 : digs (tl b) with
        | false =>
          rw [key, if_neg (fun z => by rw [q2] at z; exact absurd z.2.1 (by decide))]
          rw [q2] at db
          rcases f with ⟨f1, f2, f3⟩ | ⟨f1, f2, f3⟩ | ⟨f1, f3⟩
          · cases f3
          · simp [m__law_read, runB, gs, k1, k2, f1, f2, f3, db]
          · simp [m__law_read, runB, gs, k1, k2, f1, f3, db]
        | true =>
          rw [q2] at db
          obtain ⟨vb, pb, bb, lb, _⟩ := iv_digs q2
          have ib : fInt [.str b] = some (.int (iv b)) := by rw [f_intS (by omega), vb]; rfl
          have ge := gcd_eq (iv a) (iv b)
          have hp2 : ∀ g : Nat, decide ((g : Int) = 1) = decide (g = 1) := fun g => by rw [Bool.eq_iff_iff, decide_eq_true_eq, decide_eq_true_eq]; omega
          by_cases q3 : iv b < 2
          · rw [key, if_neg (fun z => by omega)]
            rcases f with ⟨f1, f2, f3⟩ | ⟨f1, f2, f3⟩ | ⟨f1, f3⟩
            · cases f3
            · simp [m__law_read, runB, gs, k1, k2, f1, f2, f3, db, ib, q3]
            · simp [m__law_read, runB, gs, k1, k2, f1, f3, db, ib, q3]
          · by_cases q4 : Nat.gcd (iv a).natAbs (iv b).natAbs = 1
            · rw [key, if_pos ⟨q1, q2, by omega, q4⟩]
              rw [q4] at ge
              have ge : m__law_gcd [.int (iv a), .int (iv b)] = .ok (.int 1) := ge
              rcases f with ⟨f1, f2, f3⟩ | ⟨f1, f2, f3⟩ | ⟨f1, f3⟩
              · cases f3
              · simp [m__law_read, runB, gs, k1, k2, f1, f2, f3, db, ia, ib, q3, ge, l2, pair]
              · simp [m__law_read, runB, gs, k1, k2, f1, f3, db, ia, ib, q3, ge, l2, pair]
            · rw [key, if_neg (fun z => q4 z.2.2.2)]
              have q5 : ((Nat.gcd (iv a).natAbs (iv b).natAbs : Nat) : Int) ≠ 1 := by omega
              revert ge q5
              generalize ((Nat.gcd (iv a).natAbs (iv b).natAbs : Nat) : Int) = gg
              intro ge q5
              rcases f with ⟨f1, f2, f3⟩ | ⟨f1, f2, f3⟩ | ⟨f1, f3⟩
              · cases f3
              · simp [m__law_read, runB, gs, k1, k2, f1, f2, f3, db, ia, ib, q3, ge, q5]
              · simp [m__law_read, runB, gs, k1, k2, f1, f3, db, ia, ib, q3, ge, q5]
    · obtain ⟨c, r, e3⟩ := split_ne b2
      rw [hs, hs2, e3] at gs
      have gs : gSplit w [.str ("/" : Str)] = some (.lst (.str a :: .str b1 :: .str c :: strsD r)) := gs
      have hd : digs (tl b) = false := digs_no47 (by rw [e2]; simp)
      rw [key, if_neg (fun z => by rw [hd] at z; exact absurd z.2.1 (by decide))]
      have hlen : (2 : Int) < ((D.str a :: .str b1 :: .str c :: strsD r).length : Nat) := by simp only [List.length_cons]; omega
      have hlen := decide_eq_true hlen
      revert gs hlen
      generalize (D.str a :: .str b1 :: .str c :: strsD r) = xs
      intro gs hlen
      simp [m__law_read, runB, gs, hlen]
end L2.DL.K71
namespace L2.DL.K71
open PySem PyProof.Rows PySem.Spec
open TL (tl numL)
theorem asked_eq {w : Str} (h : w.length ≤ sizeLine) : m__law_asked [.str w] = .ok (askD w) := by
  have l2 : 2 ≤ sizeLine := by decide
  have l3 : 3 ≤ sizeLine := by decide
  have r := read_eq h
  unfold readR at r
  unfold askD
  cases q : rd w with
  | some p =>
    rw [q] at r
    simp [m__law_asked, runB, sTry, r, l2]
  | none =>
    rw [q] at r
    have hx : ([(("word" : Str), D.str w)].lookup ("word" : Str)) = some (.str w) := by simp [List.lookup]
    simp [m__law_asked, runB, sTry, r, l3, cm_BadWord, eXf, xf_word, eXi, is_CalmError, hx]
/-! ### numbers as texts -/
def numS (i : Int) : Str := Str.ofString (toString i)
theorem tl_neg (m : Nat) : tl (numS (Int.negSucc m)) = 45 :: numL (m + 1) := by
  unfold numS
  rw [TL.tl_ofString]
  show ("-" ++ Nat.repr (m + 1)).toList.map Char.toNat = _
  rw [String.toList_append, List.map_append, Nat.toList_repr]
  rfl
theorem numL_head : ∀ n : Nat, 1 ≤ n → (numL n).head? ≠ some 48 := by
  intro n
  induction n using
        Nat.strongRecOn with
  | _ n ih =>
    intro h1
    by_cases h : n < 10
    · rw [TL.numL_lt h]
      intro k
      have := Option.some.inj k
      omega
    · rw [TL.numL_step (by omega)]
      have := ih (n / 10) (by omega) (by omega)
      cases q : numL (n / 10) with
      | nil => exact absurd q (TL.numL_ne _)
      | cons c r => rw [q] at this; exact this
theorem digs_num {n : Nat} (h : n < 10 ^ 60) : digs (numL n) = true := by
  rw [digs_iff]
  have hne := TL.numL_ne n
  have ad := TL.numL_digits n
  refine ⟨by cases q : numL n with | nil => exact absurd q hne | cons c r => simp, TL.numL_len (by decide) h, List.all_eq_true.mpr fun c hc => ?_, ?_⟩
  · have := ad c hc
    simp only [dg, Bool.and_eq_true, decide_eq_true_eq]
    exact this
  · by_cases h0 : n < 1
    · left
      rw [TL.numL_lt (by omega)]
      rfl
    · exact .inr (numL_head n (by omega))
theorem no47_num (n : Nat) : 47 ∉ numL n := TL.numL_free (.inl (by decide))
theorem no47 (i : Int) : 47 ∉ tl (numS i) := by
  cases i with
  | ofNat n => exact (TL.tl_num n).symm ▸ no47_num n
  | negSucc m =>
    rw [tl_neg]
    intro h
    rcases List.mem_cons.mp h with h | h
    · exact absurd h (by decide)
    · exact no47_num _ h
theorem num_digs {n : Nat} (h : n < 10 ^ 60) : digs (tl (numS (n : Int))) = true := by
  have e : tl (numS (n : Int)) = numL n := TL.tl_num n
  rw [e]
  exact digs_num h
theorem num_wh {i : Int} (h : i.natAbs < 10 ^ 60) : wh (tl (numS i)) = true := by
  cases i with
  | ofNat n =>
    have d := num_digs (n := n) h
    unfold wh
    split
    · rename_i q
      exfalso
      have ad := TL.numL_digits n
      have e : tl (numS (n : Int)) = numL n := TL.tl_num n
      have q : (tl (numS (n : Int))).take 1 = [45] := q
      rw [e] at q
      cases k : numL n with
      | nil => exact absurd k (TL.numL_ne n)
      | cons c r =>
        rw [k] at q ad
        have := ad c (by simp)
        simp at q
        omega
    · exact d
  | negSucc m =>
    have h : m + 1 < 10 ^ 60 := h
    rw [tl_neg]
    unfold wh
    rw [if_pos (by rfl), Bool.and_eq_true]
    refine ⟨digs_num h, decide_eq_true fun k => ?_⟩
    have k : numL (m + 1) = [48] := by simpa using k
    exact numL_head (m + 1) (by omega) (by rw [k]; rfl)
theorem num_iv {i : Int} (h : i.natAbs < 10 ^ 60) : iv (numS i) = i := by
  cases i with
  | ofNat n =>
    have l : (numL n).length ≤ 4300 := Nat.le_trans (TL.numL_len (by decide) (show n < 10 ^ 60 from h)) (by decide)
    unfold iv numS
    exact congrArg (fun o => Option.getD o 0) (TL.int_num l)
  | negSucc m =>
    have h : m + 1 < 10 ^ 60 := h
    have l : (numL (m + 1)).length ≤ 60 := TL.numL_len (by decide) h
    have v := PySem.intText_neg (x := numS (Int.negSucc m)) (cs := numL (m + 1)) (tl_neg m) (TL.numL_digits _) (TL.numL_ne _) (by rw [TL.len_tl, tl_neg, List.length_cons]; omega)
    unfold iv
    rw [v, TL.numL_val]
    rfl
theorem num_len {i : Int} {k : Nat} (hk : 0 < k) (h : i.natAbs < 10 ^ k) : (numS i).length ≤ k + 1 := by
  rw [TL.len_tl]
  cases i with
  | ofNat n =>
    have e : tl (numS (n : Int)) = numL n := TL.tl_num n
    have := TL.numL_len hk (show n < 10 ^ k from h)
    show (tl (numS (n : Int))).length ≤ _
    rw [e]
    omega
  | negSucc m =>
    have := TL.numL_len hk (show m + 1 < 10 ^ k from h)
    rw [tl_neg, List.length_cons]
    omega
/-- a fraction's text -/
def txt (q : Int × Int) : Str := if q.2 = 1 then numS q.1 else numS q.1 ++ "/" ++ numS q.2
theorem len_app (z w : Str) : (z ++ w).length = z.length + w.length := by
  rw [TL.len_tl, TL.len_tl z, TL.len_tl w, TL.tl_append, List.length_append]
theorem slash_len : ("/" : Str).length = 1 := by decide +kernel
theorem txt_len {q : Int × Int} (h1 : q.1.natAbs < 10 ^ 60) (h2 : q.2.natAbs < 10 ^ 60) : (txt q).length ≤ 123 := by
  have a := num_len (by decide) h1
  have b := num_len (by decide) h2
  unfold txt
  split
  · omega
  · rw [len_app, len_app, slash_len]; omega
theorem rd_txt {q : Int × Int} (h1 : q.1.natAbs < 10 ^ 60) (h2 : q.2.natAbs < 10 ^ 60) (h3 : 1 ≤ q.2) (h4 : Nat.gcd q.1.natAbs q.2.natAbs = 1) : rd (txt q) = some q := by
  obtain ⟨a, b⟩ := q
  simp only at h1 h2 h3 h4
  by_cases hb : b = 1
  · subst hb
    have e : txt (a, 1) = numS a := if_pos rfl
    rw [e, rd1 (TL.partition_none tl_slash (no47 a)), if_pos (num_wh h1), num_iv h1]
  · have e : txt (a, b) = numS a ++ "/" ++ numS b := if_neg hb
    obtain ⟨n, rfl⟩ := Int.eq_ofNat_of_zero_le (show 0 ≤ b by omega)
    have ib := num_iv (i := (n : Int)) h2
    rw [e, rd2 (TL.partition_app tl_slash (no47 a)), num_iv h1, ib, if_pos ⟨num_wh h1, num_digs h2, by omega, h4⟩]
theorem wratio_eq {q : Int × Int} (h1 : q.1.natAbs < 10 ^ 60) (h2 : q.2.natAbs < 10 ^ 60) : m_write_ratio [pair q] = .ok (.str (txt q)) := by
  obtain ⟨a, b⟩ := q
  simp only at h1 h2
  have la := num_len (by decide) h1
  have lb := num_len (by decide) h2
  have sl := slash_len
  have big : 1000 ≤ sizeLine := by decide
  have fa : fStr [.int a] = some (.str (numS a)) := f_str (sm60 h1).st
  have fb : fStr [.int b] = some (.str (numS b)) := f_str (sm60 h2).st
  have a1 : oAdd (.str (numS a)) (.str ("/" : Str)) = some (.str (numS a ++ "/")) := o_adds (by omega)
  have a2 : oAdd (.str (numS a ++ "/")) (.str (numS b)) = some (.str (numS a ++ "/" ++ numS b)) := o_adds (by rw [len_app]; omega)
  unfold txt pair
  by_cases hb : b = 1
  · subst hb
    simp [m_write_ratio, runB, fa]
  · simp [m_write_ratio, runB, fa, fb, hb, a1, a2]
/-! ### lowest terms -/
def lowest (a b : Int) : Int × Int := (a.fdiv (Nat.gcd a.natAbs b.natAbs : Nat), b.fdiv (Nat.gcd a.natAbs b.natAbs : Nat))
theorem lowest_ok {a b : Int} (hb : 0 < b) : 1 ≤ (lowest a b).2 ∧ Nat.gcd (lowest a b).1.natAbs (lowest a b).2.natAbs = 1 ∧ (lowest a b).1.natAbs ≤ a.natAbs ∧ (lowest a b).2.natAbs ≤ b.natAbs ∧ (lowest a b).1 * (Nat.gcd a.natAbs b.natAbs : Nat) = a ∧ (lowest a b).2 * (Nat.gcd a.natAbs b.natAbs : Nat) = b := by
  unfold lowest
  have gp : 0 < Nat.gcd a.natAbs b.natAbs := Nat.gcd_pos_of_pos_right _ (by omega)
  have d1 : ((Nat.gcd a.natAbs b.natAbs : Nat) : Int) ∣ a := Int.ofNat_dvd_left.mpr (Nat.gcd_dvd_left _ _)
  have d2 : ((Nat.gcd a.natAbs b.natAbs : Nat) : Int) ∣ b := Int.ofNat_dvd_left.mpr (Nat.gcd_dvd_right _ _)
  have n1 : (a.fdiv (Nat.gcd a.natAbs b.natAbs : Nat)).natAbs = a.natAbs / Nat.gcd a.natAbs b.natAbs := by
    rw [Int.fdiv_eq_ediv_of_nonneg _ (by omega), Int.natAbs_ediv_of_dvd d1, Int.natAbs_natCast]
  have n2 : (b.fdiv (Nat.gcd a.natAbs b.natAbs : Nat)).natAbs = b.natAbs / Nat.gcd a.natAbs b.natAbs := by
    rw [Int.fdiv_eq_ediv_of_nonneg _ (by omega), Int.natAbs_ediv_of_dvd d2, Int.natAbs_natCast]
  have m1 : a.fdiv (Nat.gcd a.natAbs b.natAbs : Nat) * (Nat.gcd a.natAbs b.natAbs : Nat) = a := by
    rw [Int.fdiv_eq_ediv_of_nonneg _ (by omega)]; exact Int.ediv_mul_cancel d1
  have m2 : b.fdiv (Nat.gcd a.natAbs b.natAbs : Nat) * (Nat.gcd a.natAbs b.natAbs : Nat) = b := by
    rw [Int.fdiv_eq_ediv_of_nonneg _ (by omega)]; exact Int.ediv_mul_cancel d2
  refine ⟨?_, ?_, ?_, ?_, m1, m2⟩
  · show 1 ≤ b.fdiv _
    have p : 0 ≤ b.fdiv (Nat.gcd a.natAbs b.natAbs : Nat) := by rw [Int.fdiv_eq_ediv_of_nonneg _ (by omega)]; exact Int.ediv_nonneg (by omega) (by omega)
    have z : b.fdiv (Nat.gcd a.natAbs b.natAbs : Nat) ≠ 0 := fun z => by rw [z, Int.zero_mul] at m2; omega
    omega
  · show Nat.gcd (a.fdiv _).natAbs (b.fdiv _).natAbs = 1
    rw [n1, n2]
    exact Nat.coprime_div_gcd_div_gcd gp
  · show (a.fdiv _).natAbs ≤ _
    rw [n1]; exact Nat.div_le_self _ _
  · show (b.fdiv _).natAbs ≤ _
    rw [n2]; exact Nat.div_le_self _ _
theorem lowest_self {a b : Int} (h : Nat.gcd a.natAbs b.natAbs = 1) : lowest a b = (a, b) := by
  unfold lowest
  rw [h]
  simp
theorem ratio_pos {a b : Int} (hb : 0 < b) (sb : sm b) : m_ratio [.int a, .int b] = .ok (pair (lowest a b)) := by
  rw [ratio_eq (by omega) sb, if_neg (by omega)]
  rfl
theorem fraction_eq {a b : Int} (hb : 0 < b) (sb : sm b) : m__law_fraction [.int a, .int b] = .ok (pair (lowest a b)) := by
  have l2 : 2 ≤ sizeLine := by decide
  have g0 : ((Nat.gcd a.natAbs b.natAbs : Nat) : Int) ≠ 0 := by
    have : 0 < Nat.gcd a.natAbs b.natAbs := Nat.gcd_pos_of_pos_right _ (by omega)
    omega
  have gs : sm ((Nat.gcd a.natAbs b.natAbs : Nat) : Int) := by
    refine Nat.lt_of_le_of_lt ?_ sb
    rw [Int.natAbs_natCast]
    exact Nat.gcd_le_right _ (by omega)
  have hn : ¬ b < 0 := by omega
  have ge := gcd_eq a b
  unfold lowest pair
  revert ge g0 gs
  generalize ((Nat.gcd a.natAbs b.natAbs : Nat) : Int) = g
  intro g0 gs ge
  simp [m__law_fraction, runB, ge, hn, o_fdiv g0 gs.fd, l2]
theorem rtext_eq {a b : Int} (hb : 0 < b) (h1 : a.natAbs < 10 ^ 60) (h2 : b.natAbs < 10 ^ 60) : m__law_ratio_text [.int a, .int b] = .ok (.str (txt (lowest a b))) := by
  have g0 : ((Nat.gcd a.natAbs b.natAbs : Nat) : Int) ≠ 0 := by
    have : 0 < Nat.gcd a.natAbs b.natAbs := Nat.gcd_pos_of_pos_right _ (by omega)
    omega
  have gs : sm ((Nat.gcd a.natAbs b.natAbs : Nat) : Int) := by
    refine Nat.lt_of_le_of_lt ?_ (sm60 h2)
    rw [Int.natAbs_natCast]
    exact Nat.gcd_le_right _ (by omega)
  obtain ⟨_, _, k1, k2, _, _⟩ := lowest_ok (a := a) hb
  have ge := gcd_eq a b
  have big : 1000 ≤ sizeLine := by decide
  unfold txt
  unfold lowest at k1 k2 ⊢
  revert ge g0 gs k1 k2
  generalize ((Nat.gcd a.natAbs b.natAbs : Nat) : Int) = g
  intro g0 gs k1 k2 ge
  simp only at k1 k2
  have da := o_fdiv (i := a) g0 gs.fd
  have db := o_fdiv (i := b) g0 gs.fd
  revert k1 k2 da db
  generalize a.fdiv g = x
  generalize b.fdiv g = y
  intro k1 k2 da db
  have k1 := Nat.lt_of_le_of_lt k1 h1
  have k2 := Nat.lt_of_le_of_lt k2 h2
  have la := num_len (by decide) k1
  have lb := num_len (by decide) k2
  have sl := slash_len
  have fa : fStr [.int x] = some (.str (numS x)) := f_str (sm60 k1).st
  have fb : fStr [.int y] = some (.str (numS y)) := f_str (sm60 k2).st
  have a1 : oAdd (.str (numS x)) (.str ("/" : Str)) = some (.str (numS x ++ "/")) := o_adds (by omega)
  have a2 : oAdd (.str (numS x ++ "/")) (.str (numS y)) = some (.str (numS x ++ "/" ++ numS y)) := o_adds (by rw [len_app]; omega)
  by_cases hy : y = 1
  · subst hy
    simp [m__law_ratio_text, runB, ge, da, db, fa]
  · simp [m__law_ratio_text, runB, ge, da, db, fa, fb, hy, a1, a2]
end L2.DL.K71
namespace L2.DL.K71
open PySem PyProof.Rows PySem.Spec
open TL (tl numL)
/-! ### points: one bottom, lowest terms -/
def gl (b : Nat) (ns : List Int) : Nat := ns.foldl (fun g n => Nat.gcd g n.natAbs) b
def redD (ns : List Int) (B : Int) : D := .tup (ns.map (fun n => D.int (n.fdiv (gl B.natAbs ns : Nat))) ++ [.int (B.fdiv (gl B.natAbs ns : Nat))])
theorem gl_dvd : ∀ (ns : List Int) (b : Nat), gl b ns ∣ b ∧ ∀ n ∈ ns, gl b ns ∣ n.natAbs
  | [], b => ⟨Nat.dvd_refl _, by simp⟩
  | n :: ns, b => by
    obtain ⟨h1, h2⟩ := gl_dvd ns (Nat.gcd b n.natAbs)
    refine ⟨Nat.dvd_trans h1 (Nat.gcd_dvd_left _ _), fun m hm => ?_⟩
    (rcases List.mem_cons.mp hm with rfl | hm)
    · exact Nat.dvd_trans h1 (Nat.gcd_dvd_right _ _)
    · exact h2 m hm
theorem gl_pos {b : Nat} {ns : List Int} (h : 0 < b) : 0 < gl b ns := Nat.pos_of_dvd_of_pos (gl_dvd ns b).1 h
theorem gl_le {b : Nat} {ns : List Int} (h : 0 < b) : gl b ns ≤ b := Nat.le_of_dvd h (gl_dvd ns b).1
theorem gl_mul {α : Type} (f : α → Int) (k : Nat) : ∀ (qs : List α) (b : Nat), gl (b * k) (qs.map fun q => f q * (k : Int)) = gl b (qs.map f) * k
  | [], b => rfl
  | q :: qs, b => by
    show gl (Nat.gcd (b * k) (f q * (k : Int)).natAbs) _ = gl (Nat.gcd b (f q).natAbs) _ * k
    rw [Int.natAbs_mul, Int.natAbs_natCast, Nat.gcd_mul_right]
    exact gl_mul f k qs _
theorem fdiv_cross {N M g k : Int} (hg : 0 < g) (hk : 0 < k) (dg : g ∣ N) (dk : k ∣ M) (h : N * k = M * g) : N.fdiv g = M.fdiv k := by
  rw [Int.fdiv_eq_ediv_of_nonneg _ (by omega), Int.fdiv_eq_ediv_of_nonneg _ (by omega)]
  obtain ⟨x, rfl⟩ := dg
  obtain ⟨y, rfl⟩ := dk
  rw [Int.mul_ediv_cancel_left _ (by omega), Int.mul_ediv_cancel_left _ (by omega)]
  have e : (g * k) * x = (g * k) * y := by
    calc (g * k) * x = g * x * k := by rw [Int.mul_assoc, Int.mul_comm k x, ← Int.mul_assoc]
      _ = k * y * g := h
      _ = (g * k) * y := by rw [Int.mul_comm g k, Int.mul_assoc, Int.mul_assoc, Int.mul_comm y g]
  exact Int.eq_of_mul_eq_mul_left (Int.ne_of_gt (Int.mul_pos hg hk)) e
/-- the same point, written over two bottoms -/
theorem red_eq {α : Type} {f f' : α → Int} {qs : List α} {B B' : Int} (hB : 0 < B) (hB' : 0 < B') (h : ∀ q ∈ qs, f q * B' = f' q * B) : redD (qs.map f) B = redD (qs.map f') B' := by
  obtain ⟨b, rfl⟩ := Int.eq_ofNat_of_zero_le (show 0 ≤ B by omega)
  obtain ⟨b', rfl⟩ := Int.eq_ofNat_of_zero_le (show 0 ≤ B' by omega)
  have e1 := gl_mul f b' qs b
  have e2 := gl_mul f' b qs b'
  have hm : (qs.map fun q => f q * (b' : Int)) = qs.map fun q => f' q * (b : Int) := List.map_congr_left h
  rw [hm, Nat.mul_comm b b', e2] at e1
  have p1 : 0 < gl b (qs.map f) := gl_pos (by omega)
  have p2 : 0 < gl b' (qs.map f') := gl_pos (by omega)
  unfold redD
  rw [Int.natAbs_natCast, Int.natAbs_natCast]
  obtain ⟨g, hg⟩ : ∃ g, g = gl b (qs.map f) := ⟨_, rfl⟩
  obtain ⟨g', hg'⟩ : ∃ g, g = gl b' (qs.map f') := ⟨_, rfl⟩
  have d1 := gl_dvd (qs.map f) b
  have d2 := gl_dvd (qs.map f') b'
  rw [← hg] at e1 p1 d1 ⊢
  rw [← hg'] at e1 p2 d2 ⊢
  have e1 : (g' : Int) * b = g * b' := by
    have := congrArg (fun n : Nat => (n : Int)) e1
    simpa using this
  have hb : (b : Int).fdiv g = (b' : Int).fdiv g' := fdiv_cross (by omega) (by omega) (Int.natCast_dvd_natCast.mpr d1.1) (Int.natCast_dvd_natCast.mpr d2.1) (by rw [Int.mul_comm, e1, Int.mul_comm])
  rw [hb, List.map_map, List.map_map]
  congr 2
  refine List.map_congr_left fun q hq => ?_
  refine congrArg D.int (fdiv_cross (by omega) (by omega) (Int.ofNat_dvd_left.mpr (d1.2 _ (List.mem_map_of_mem hq))) (Int.ofNat_dvd_left.mpr (d2.2 _ (List.mem_map_of_mem hq))) ?_)
  have k := h q hq
  have : (f q * g') * b = (f' q * g) * b := by
    calc (f q * g') * b = f q * (g' * b) := Int.mul_assoc _ _ _
      _ = f q * (g * b') := by rw [e1]
      _ = (f q * b') * g := by rw [Int.mul_comm (g : Int), Int.mul_assoc]
      _ = (f' q * b) * g := by rw [k]
      _ = (f' q * g) * b := by rw [Int.mul_assoc, Int.mul_comm (b : Int), ← Int.mul_assoc]
  exact Int.eq_of_mul_eq_mul_right (show (b : Int) ≠ 0 by omega) this
/-! ### the walks of both -/
theorem gl_loop {body : MS} {x0 x1 : Sl} (h : ∀ (g : Nat) (n : Int), body [x0, x1, .d (.int (g : Int)), .d (.int n)] = .ok (.nx [x0, x1, .d (.int ((Nat.gcd g n.natAbs : Nat) : Int)), .d (.int n)])) : ∀ (ns : List Int) (g : Nat) (z : Sl), ∃ z', forL (gN 3) body (ns.map D.int) [x0, x1, .d (.int (g : Int)), z] = .ok (.nx [x0, x1, .d (.int ((gl g ns : Nat) : Int)), z'])
  | [], g, z => ⟨z, rfl⟩
  | n :: ns, g, z => by
    obtain ⟨z', e⟩ := gl_loop h ns (Nat.gcd g n.natAbs) (.d (.int n))
    refine ⟨z', ?_⟩
    rw [List.map_cons, forL]
    show ((body [x0, x1, .d (.int (g : Int)), .d (.int n)]).bind _) = _
    rw [h]
    exact e
theorem sm_nat {g : Nat} {B : Int} (h : g ≤ B.natAbs) (s : sm B) : sm (g : Int) := by
  unfold sm at s ⊢
  rw [Int.natAbs_natCast]
  omega
theorem reduced_eq {ns : List Int} {B : Int} (hB : 0 < B) (s : sm B) (hl : ns.length < 1000) : m__law_reduced [.lst (ns.map D.int), .int B] = .ok (redD ns B) := by
  obtain ⟨b, rfl⟩ := Int.eq_ofNat_of_zero_le (show 0 ≤ B by omega)
  have big : 1000 ≤ sizeLine := by decide
  obtain ⟨z', e⟩ := gl_loop (x0 := .d (.lst (ns.map D.int))) (x1 := .d (.int (b : Int))) (body := sAsg (eCallN m__law_gcd (aCons (eV 2) (aCons (eV 3) aNil))) (gN 2)) (fun g n => by simp [gcd_eq]) ns b .no
  have gp := gl_pos (b := b) (ns := ns) (by omega)
  have gs := sm_nat (B := (b : Int)) (gl_le (b := b) (ns := ns) (by omega)) s
  unfold redD
  rw [Int.natAbs_natCast]
  revert e gp gs
  generalize gl b ns = g
  intro e gp gs
  have g0 : (g : Int) ≠ 0 := by omega
  have dv := fun i => o_fdiv (i := i) g0 gs.fd
  have hc : compL (gN 3) cYes (eOp oFdiv (eV 3) (eV 2)) [.d (.lst (ns.map D.int)), .d (.int (b : Int)), .d (.int (g : Int)), .no] (ns.map D.int) = .ok (ns.map fun n => .int (n.fdiv g)) := by
    rw [compL_map (fun d => match d with | .int n => .int (n.fdiv g) | d => d)]
    · rw [List.map_map]; rfl
    · intro d hd
      obtain ⟨n, _, rfl⟩ := List.mem_map.mp hd
      exact ⟨_, rfl, by simp [dv]⟩
  have hl2 : ns.length ≤ sizeLine := by omega
  have hl3 : ns.length + 1 ≤ sizeLine := by omega
  have l1 : 1 ≤ sizeLine := by decide
  simp [m__law_reduced, runB, e, hc, dv, hl2, hl3, l1]
theorem point_eq {ns : List Int} {B : Int} (hB : 0 < B) (s : sm B) (hl : ns.length < 1000) : m_point [.lst (ns.map D.int), .int B] = .ok (redD ns B) := by
  obtain ⟨b, rfl⟩ := Int.eq_ofNat_of_zero_le (show 0 ≤ B by omega)
  have big : 1000 ≤ sizeLine := by decide
  obtain ⟨z', e⟩ := gl_loop (x0 := .d (.lst (ns.map D.int))) (x1 := .d (.int (b : Int))) (body := sAsg (eFn fGcd (aCons (eV 2) (aCons (eV 3) aNil))) (gN 2)) (fun g n => by simp) ns b .no
  have gp := gl_pos (b := b) (ns := ns) (by omega)
  have gs := sm_nat (B := (b : Int)) (gl_le (b := b) (ns := ns) (by omega)) s
  unfold redD
  rw [Int.natAbs_natCast]
  revert e gp gs
  generalize gl b ns = g
  intro e gp gs
  have g0 : (g : Int) ≠ 0 := by omega
  have dv := fun i => o_fdiv (i := i) g0 gs.fd
  have hc : compL (gN 3) cYes (eOp oFdiv (eV 3) (eV 2)) [.d (.lst (ns.map D.int)), .d (.int (b : Int)), .d (.int (g : Int)), .no] (ns.map D.int) = .ok (ns.map fun n => .int (n.fdiv g)) := by
    rw [compL_map (fun d => match d with | .int n => .int (n.fdiv g) | d => d)]
    · rw [List.map_map]; rfl
    · intro d hd
      obtain ⟨n, _, rfl⟩ := List.mem_map.mp hd
      exact ⟨_, rfl, by simp [dv]⟩
  have hl2 : ns.length ≤ sizeLine := by omega
  have hl3 : ns.length + 1 ≤ sizeLine := by omega
  have l1 : 1 ≤ sizeLine := by decide
  have b0 : b ≠ 0 := by omega
  have bn : ¬ (b : Int) < 0 := by omega
  simp [m_point, runB, b0, bn, e, hc, dv, hl2, hl3, l1]
end L2.DL.K71
namespace L2.DL.K71
open PySem PyProof.Rows PySem.Spec
open TL (tl numL)
abbrev Q := Int × Int
def okQ (qs : List Q) : Prop := ∀ q ∈ qs, 1 ≤ q.2 ∧ q.1.natAbs < 10 ^ 60 ∧ q.2.natAbs < 10 ^ 60
theorem sm_pow {i : Int} {k : Nat} (h : i.natAbs < 10 ^ (60 * k)) (hk : k ≤ 6) : sm i := Nat.lt_of_lt_of_le h (Nat.pow_le_pow_right (by decide) (by omega))
/-- a step that makes the common bottom -/
structure Step (f : Int → Int → Int) : Prop where
  pos : ∀ b c, 0 < b → 0 < c → 0 < f b c
  left : ∀ b c, 0 < b → 0 < c → b ∣ f b c
  right : ∀ b c, 0 < b → 0 < c → c ∣ f b c
  le : ∀ b c, 0 < b → 0 < c → (f b c).natAbs ≤ b.natAbs * c.natAbs
def foldQ (f : Int → Int → Int) (qs : List Q) (b : Int) : Int := qs.foldl (fun b q => f b q.2) b
theorem pow_step {b c : Nat} {k : Nat} (h : b < 10 ^ (60 * k)) (hc : c < 10 ^ 60) : b * c < 10 ^ (60 * (k + 1)) := by
  rw [Nat.mul_succ, Nat.pow_add]
  exact Nat.mul_lt_mul'' h hc
theorem foldQ_ok {f : Int → Int → Int} (F : Step f) : ∀ (qs : List Q) (b : Int) (k : Nat), 0 < b → b.natAbs < 10 ^ (60 * k) → okQ qs → 0 < foldQ f qs b ∧ b ∣ foldQ f qs b ∧ (∀ q ∈ qs, q.2 ∣ foldQ f qs b) ∧ (foldQ f qs b).natAbs < 10 ^ (60 * (k + qs.length))
  | [], b, k, h, hk, _ => ⟨h, Int.dvd_refl _, by simp, hk⟩
  | q :: qs, b, k, h, hk, ok => by
    obtain ⟨q2, _, q3⟩ := ok q (by simp)
    have h1 := F.pos b q.2 h (by omega)
    have hlt : (f b q.2).natAbs < 10 ^ (60 * (k + 1)) := Nat.lt_of_le_of_lt (F.le b q.2 h (by omega)) (pow_step hk q3)
    obtain ⟨a1, a2, a3, a4⟩ := foldQ_ok F qs (f b q.2) (k + 1) h1 hlt fun x hx => ok x (by simp [hx])
    refine ⟨a1, Int.dvd_trans (F.left b q.2 h (by omega)) a2, fun x hx => ?_, ?_⟩
    · rcases List.mem_cons.mp hx with rfl | hx
      · exact Int.dvd_trans (F.right b x.2 h (by omega)) a2
      · exact a3 x hx
    · rw [List.length_cons, ← Nat.add_assoc, Nat.add_right_comm]
      exact a4
def fMulq (b c : Int) : Int := b * c
def fLcm (b c : Int) : Int := (b * c).fdiv (Nat.gcd b.natAbs c.natAbs : Nat)
theorem step_mul : Step fMulq := ⟨fun b c h k => Int.mul_pos h k, fun b c _ _ => Int.dvd_mul_right b c, fun b c _ _ => Int.dvd_mul_left b c, fun b c _ _ => Nat.le_of_eq (Int.natAbs_mul b c)⟩
theorem lcm_eq {b c : Int} (hb : 0 < b) (hc : 0 < c) : fLcm b c = b * (lowest b c).2 ∧ fLcm b c = (lowest b c).1 * c := by
  obtain ⟨_, _, _, _, h1, h2⟩ := lowest_ok (a := b) hc
  have gp : 0 < Nat.gcd b.natAbs c.natAbs := Nat.gcd_pos_of_pos_right _ (by omega)
  unfold fLcm
  revert h1 h2 gp
  generalize (lowest b c).1 = x
  generalize (lowest b c).2 = y
  generalize Nat.gcd b.natAbs c.natAbs = g
  intro h1 h2 gp
  rw [Int.fdiv_eq_ediv_of_nonneg _ (by omega)]
  constructor
  · conv => lhs; rw [← h2]
    rw [← Int.mul_assoc, Int.mul_ediv_cancel _ (by omega)]
  · conv => lhs; rw [← h1]
    rw [Int.mul_right_comm, Int.mul_ediv_cancel _ (by omega)]
theorem step_lcm : Step fLcm := ⟨fun b c h k => by rw [(lcm_eq h k).1]; exact Int.mul_pos h (by have := (lowest_ok (a := b) k).1; omega), fun b c h k => by rw [(lcm_eq h k).1]; exact Int.dvd_mul_right _ _,
  fun b c h k => by rw [(lcm_eq h k).2]; exact Int.dvd_mul_left _ _, fun b c h k => by rw [(lcm_eq h k).1, Int.natAbs_mul]; exact Nat.mul_le_mul_left _ (lowest_ok (a := b) k).2.2.2.1⟩
/-- the point that the fractions make -/
def ptD (f : Int → Int → Int) (qs : List Q) : D := redD (qs.map fun q => q.1 * (foldQ f qs 1).fdiv q.2) (foldQ f qs 1)
theorem pt_same {qs : List Q} (ok : okQ qs) : ptD fMulq qs = ptD fLcm qs := by
  obtain ⟨a1, _, a3, _⟩ := foldQ_ok step_mul qs 1 1 (by decide) (by decide +kernel) ok
  obtain ⟨b1, _, b3, _⟩ := foldQ_ok step_lcm qs 1 1 (by decide) (by decide +kernel) ok
  unfold ptD
  refine red_eq a1 b1 fun q hq => ?_
  obtain ⟨q2, _, _⟩ := ok q hq
  obtain ⟨x, hx⟩ := a3 q hq
  obtain ⟨y, hy⟩ := b3 q hq
  rw [hx, hy, Int.fdiv_eq_ediv_of_nonneg _ (by omega), Int.fdiv_eq_ediv_of_nonneg _ (by omega), Int.mul_ediv_cancel_left _ (by omega), Int.mul_ediv_cancel_left _ (by omega)]
  calc q.1 * x * (q.2 * y) = q.1 * (x * (q.2 * y)) := Int.mul_assoc _ _ _
    _ = q.1 * (y * (q.2 * x)) := by rw [Int.mul_left_comm x, Int.mul_left_comm y, Int.mul_comm x y]
    _ = q.1 * y * (q.2 * x) := (Int.mul_assoc _ _ _).symm
/-- the numerators over the common bottom -/
theorem numers {qs : List Q} {F : Int} {ρ : List Sl} {i j : Nat} (hi : ∀ q : Q, (ρ.set i (.d (pair q)))[i]? = some (.d (pair q))) (hj : ∀ q : Q, (ρ.set i (.d (pair q)))[j]? = some (.d (.int F))) (ok : okQ qs) (sF : sm F) :
    compL (gN i) cYes (eOp oMul (eOp oIx (eV i) (eC (.int 0))) (eOp oFdiv (eV j) (eOp oIx (eV i) (eC (.int 1))))) ρ (qs.map pair) = .ok ((qs.map fun q => q.1 * F.fdiv q.2).map D.int) := by
  rw [compL_map (fun d => match d with | .tup [.int a, .int b] => .int (a * F.fdiv b) | d => d)]
  · rw [List.map_map, List.map_map]; rfl
  · intro d hd
    obtain ⟨⟨a, b⟩, hq, rfl⟩ := List.mem_map.mp hd
    obtain ⟨q2, q1, q3⟩ := ok _ hq
    simp only at q2 q1 q3
    refine ⟨_, rfl, ?_⟩
    have hb : b ≠ 0 := by omega
    have sF2 : sm (F.fdiv b) := by
      rw [Int.fdiv_eq_ediv_of_nonneg _ (by omega)]
      unfold sm at sF ⊢
      exact Nat.lt_of_le_of_lt (Int.natAbs_ediv_le_natAbs F b) sF
    have x0 : oIx (pair (a, b)) (.int 0) = some (.int a) := rfl
    have x1 : oIx (pair (a, b)) (.int 1) = some (.int b) := rfl
    simp [ev_V i (hi (a, b)), ev_V j (hj (a, b)), x0, x1, o_fdiv hb (sm60 q3).fd, o_mul (sm.mu (sm60 q1) sF2)]
    rfl
theorem prod_loop : ∀ (qs : List Q) (b : Int) (k : Nat) (x0 z : Sl), 0 < b → b.natAbs < 10 ^ (60 * k) → k + qs.length ≤ 6 → okQ qs → ∃ z', forL (gN 2) (sAsg (eOp oMul (eV 1) (eOp oIx (eV 2) (eC (.int 1)))) (gN 1)) (qs.map pair) [x0, .d (.int b), z] = .ok (.nx [x0, .d (.int (foldQ fMulq qs b)), z'])
  | [], b, k, x0, z, _, _, _, _ => ⟨z, rfl⟩
  | (a, c) :: qs, b, k, x0, z, hb, hk, hl, ok => by
    obtain ⟨q2, q1, q3⟩ := ok (a, c) (by simp)
    simp only at q2 q1 q3
    rw [List.length_cons] at hl
    have hlt : (b * c).natAbs < 10 ^ (60 * (k + 1)) := by rw [Int.natAbs_mul]; exact pow_step hk q3
    obtain ⟨z', e⟩ := prod_loop qs (b * c) (k + 1) x0 (.d (pair (a, c))) (Int.mul_pos hb (by omega)) hlt (by omega) fun x hx => ok x (by simp [hx])
    refine ⟨z', ?_⟩
    rw [List.map_cons, forL]
    have x1 : oIx (pair (a, c)) (.int 1) = some (.int c) := rfl
    have m := o_mul (sm.mu (sm_pow hk (by omega)) (sm60 q3))
    simp [x1, m, e]
    rfl
theorem pfrom_eq {qs : List Q} (ok : okQ qs) (hl : qs.length ≤ 3) : m_point_from [.lst (qs.map pair)] = .ok (ptD fMulq qs) := by
  have h1 : (1 : Int).natAbs < 10 ^ (60 * 1) := by decide +kernel
  obtain ⟨a1, _, _, a4⟩ := foldQ_ok step_mul qs 1 1 (by decide) h1 ok
  obtain ⟨z', e⟩ := prod_loop qs 1 1 (.d (.lst (qs.map pair))) .no (by decide) h1 (by omega) ok
  have sF : sm (foldQ fMulq qs 1) := sm_pow a4 (by omega)
  unfold ptD
  revert e a1 sF a4
  generalize foldQ fMulq qs 1 = F
  intro a1 a4 e sF
  have big : 1000 ≤ sizeLine := by decide
  have hc := numers (qs := qs) (F := F) (ρ := [.d (.lst (qs.map pair)), .d (.int F), .no]) (i := 2) (j := 1) (fun _ => rfl) (fun _ => rfl) ok sF
  have pe := point_eq (ns := qs.map fun q => q.1 * F.fdiv q.2) a1 sF (by rw [List.length_map]; omega)
  have hl2 : qs.length ≤ sizeLine := by omega
  revert hc pe
  generalize (qs.map fun q => q.1 * F.fdiv q.2) = ns
  intro hc pe
  simp [m_point_from, runB, e, hc, pe, hl2]
end L2.DL.K71
namespace L2.DL.K71
open PySem PyProof.Rows PySem.Spec
open TL (tl numL)
/-! ### a text of words -/
theorem spl_le (S : List Nat) : ∀ (l : List Nat) (k : Nat) (acc : List Nat), ∀ p ∈ TL.spl S k acc l, p.length ≤ acc.length + l.length
  | [], k, acc, p, h => by
    rw [TL.spl_nil, List.mem_singleton] at h
    subst h
    simp
  | c :: l, 0, acc, p, h => by
    cases q : TL.pre S (c :: l) with
    | true =>
      rw [TL.spl_hit q] at h
      (rcases List.mem_cons.mp h with rfl | h)
      · omega
      · have := spl_le S l _ _ p h
        simp only [List.length_cons, List.length_nil] at this ⊢
        omega
    | false =>
      rw [TL.spl_miss q] at h
      have := spl_le S l _ _ p h
      simp only [List.length_append, List.length_cons, List.length_nil] at this ⊢
      omega
  | c :: l, k + 1, acc, p, h => by
    have h : p ∈ TL.spl S k acc l := h
    have := spl_le S l _ _ p h
    rw [List.length_cons]
    omega
theorem kind_space : (" " : Str).cps.all (· < 256) = true := by decide +kernel
theorem space_ne : tl (" " : Str) ≠ [] := by rw [tl_space]; simp
abbrev words (t : Str) : List Str := Txt.split t " "
theorem words_len {t w : Str} (h : w ∈ words t) : w.length ≤ t.length := by
  have e := TL.split_spl t " " space_ne (TL.kind_ok kind_space)
  have hm : tl w ∈ TL.spl (tl (" " : Str)) 0 [] (tl t) := by rw [← e]; exact List.mem_map_of_mem h
  have := spl_le _ _ _ _ _ hm
  rw [TL.len_tl, TL.len_tl t]
  simpa using this
theorem gs2 {t : Str} (h : t.length + 2 ≤ sizeLine) : gSplit t [.str (" " : Str)] = some (.lst (strsD (words t))) := if_pos ⟨by decide +kernel, h⟩
def bad (ws : List Str) : Option Str := ws.find? fun w => (rd w).isNone
def qs_ (ws : List Str) : List Q := ws.map fun w => (rd w).getD (0, 1)
theorem bad_none {ws : List Str} (h : bad ws = none) : ∀ w ∈ ws, rd w = some ((rd w).getD (0, 1)) := fun w hw => by
  have := List.find?_eq_none.mp h w hw
  cases q : rd w with
  | none => rw [q] at this; exact absurd rfl this
  | some p => rfl
theorem qs_ok {ws : List Str} (h : bad ws = none) : okQ (qs_ ws) := fun q hq => by
  obtain ⟨w, hw, rfl⟩ := List.mem_map.mp hq
  have e := bad_none h w hw
  obtain ⟨h1, h2, h3, _⟩ := rd_ok (a := ((rd w).getD (0, 1)).1) (b := ((rd w).getD (0, 1)).2) e
  exact ⟨h1, h2, h3⟩
theorem read_all : ∀ (ws : List Str) (x0 x1 : Sl), (∀ w ∈ ws, w.length ≤ sizeLine) → compLX (gN 2) (eCall m_read_ratio (aCons (eV 2) aNil)) [x0, x1, .no] (strsD ws) = (match bad ws with
    | some w => .ex 2 [("word", .str w)]
    | none => .ok ((qs_ ws).map pair))
  | [], _, _, _ => rfl
  | w :: ws, x0, x1, h => by
    have ih := read_all ws x0 x1 fun x hx => h x (by simp [hx])
    have r := read_eq (h w (by simp))
    unfold readR at r
    show ((lift (gN 2 (D.str w) [x0, x1, .no])).bind _) = _
    have hb : bad (w :: ws) = if (rd w).isNone = true then some w else bad ws := by
      unfold bad
      rw [List.find?_cons]
      cases (rd w).isNone <;> rfl
    rw [hb]
    cases q : rd w with
    | none =>
      rw [q] at r
      simp [r]
    | some p =>
      rw [q] at r
      have ih' : compLX (gN 2) (eCall m_read_ratio (aCons (eV 2) aNil)) [x0, x1, .no] (List.map D.str ws) = _ := ih
      simp [r]
      rw [ih']
      cases k : bad ws with
      | some z => simp
      | none => simp [qs_, q]
/-- the point that a text tells -/
def readPt (t : Str) : Res D := match bad (words t) with
  | some w => .ex 2 [("word", .str w)]
  | none => if 3 < (words t).length then .ex 2 [("word", .str t)] else .ok (ptD fMulq (qs_ (words t)))
def ptAsk (t : Str) : D := match bad (words t) with
  | some w => .lst [.str "bad", .str w, .bl true]
  | none => if 3 < (words t).length then .lst [.str "bad", .str t, .bl true] else .lst [.str "told", ptD fMulq (qs_ (words t))]
theorem words_le2 {t : Str} (h : t.length + 2 ≤ sizeLine) : (words t).length ≤ sizeLine := Nat.le_trans (PyProof.Rows.split_le t " ") h
theorem rpoint_eq {t : Str} (h : t.length + 2 ≤ sizeLine) : m_read_point [.str t] = readPt t := by
  have gs := gs2 h
  have ra := read_all (words t) (.d (.str t)) .no fun w hw => Nat.le_trans (words_len hw) (by omega)
  have wl := words_le2 h
  have sl : (strsD (words t)).length = (words t).length := by unfold strsD; rw [List.length_map]
  unfold readPt
  cases k : bad (words t) with
  | some w =>
    rw [k] at ra
    simp [m_read_point, runB, gs, sl, wl, ra]
  | none =>
    rw [k] at ra
    have ql : ((qs_ (words t)).map pair).length = (words t).length := by unfold qs_; rw [List.length_map, List.length_map]
    have ql2 : (qs_ (words t)).length = (words t).length := by unfold qs_; rw [List.length_map]
    by_cases h3 : 3 < (words t).length
    · have h3' : (3 : Int) < (words t).length := by omega
      simp [m_read_point, runB, gs, sl, wl, ra, ql2, h3, h3']
    · have h3' : ¬ (3 : Int) < (words t).length := by omega
      have pf := pfrom_eq (qs_ok k) (by omega)
      simp [m_read_point, runB, gs, sl, wl, ra, ql2, h3, h3', pf]
theorem pasked_eq {t : Str} (h : t.length + 2 ≤ sizeLine) : m__law_point_asked [.str t] = .ok (ptAsk t) := by
  have l2 : 2 ≤ sizeLine := by decide
  have l3 : 3 ≤ sizeLine := by decide
  have r := rpoint_eq h
  have hx : ∀ w : Str, ([(("word" : Str), D.str w)].lookup ("word" : Str)) = some (.str w) := fun w => by simp [List.lookup]
  unfold readPt at r
  unfold ptAsk
  cases k : bad (words t) with
  | some w =>
    rw [k] at r
    simp [m__law_point_asked, runB, sTry, r, l3, cm_BadWord, eXf, xf_word, eXi, is_CalmError, hx]
  | none =>
    rw [k] at r
    by_cases h3 : 3 < (words t).length
    · simp only [h3, if_true] at r ⊢
      simp [m__law_point_asked, runB, sTry, r, l3, cm_BadWord, eXf, xf_word, eXi, is_CalmError, hx]
    · simp only [h3, if_false] at r ⊢
      simp [m__law_point_asked, runB, sTry, r, l2]
/-! ### the law's own reading of a point -/
theorem none_loop {x0 x1 x2 x4 x5 x6 : Sl} {ws : List Str} (e1 : x1 = .d (.lst (strsD ws))) (e2 : x2 = .d (.lst (ws.map rdD))) : ∀ (r p : List Str) (z : Sl), p ++ r = ws →
    (∀ w, bad r = some w → forL (gN 3) (sIf (cE (eOp oIs (eOp oIx (eV 2) (eV 3)) (eC .non))) (sRet (eFn oLst (aCons (eC (.str ("bad" : Str))) (aCons (eOp oIx (eV 1) (eV 3)) (aCons (eC (.bl true)) aNil))))) sNx) ((List.range' p.length r.length).map fun k => .int (0 + (k : Nat))) [x0, x1, x2, z, x4, x5, x6] = .ok (.rt (.lst [.str "bad", .str w, .bl true]))) ∧
    (bad r = none → ∃ z', forL (gN 3) (sIf (cE (eOp oIs (eOp oIx (eV 2) (eV 3)) (eC .non))) (sRet (eFn oLst (aCons (eC (.str ("bad" : Str))) (aCons (eOp oIx (eV 1) (eV 3)) (aCons (eC (.bl true)) aNil))))) sNx) ((List.range' p.length r.length).map fun k => .int (0 + (k : Nat))) [x0, x1, x2, z, x4, x5, x6] = .ok (.nx [x0, x1, x2, z', x4, x5, x6]))
  | [], p, z, _ => ⟨(fun w h => by cases h), fun _ => ⟨z, rfl⟩⟩
  | w :: r, p, z, e => by
    have ih := none_loop (x0 := x0) (x4 := x4) (x5 := x5) (x6 := x6) e1 e2 r (p ++ [w]) (.d (.int (p.length : Nat))) (by rw [List.append_assoc]; exact e)
    have hp : (p ++ [w]).length = p.length + 1 := by simp
    rw [hp] at ih
    have hr : List.range' p.length (w :: r).length = p.length :: List.range' (p.length + 1) r.length := rfl
    have i1 : oIx (.lst (strsD ws)) (.int (p.length : Nat)) = some (.str w) := by
      show atI (ws.map D.str) (p.length : Nat) = _
      rw [atI_nat (by rw [List.length_map, ← e]; simp), ← e]
      simp
    have i2 : oIx (.lst (ws.map rdD)) (.int (p.length : Nat)) = some (rdD w) := by
      show atI (ws.map rdD) (p.length : Nat) = _
      rw [atI_nat (by rw [List.length_map, ← e]; simp), ← e]
      simp
    have l3 : 3 ≤ sizeLine := by decide
    have hb : bad (w :: r) = if (rd w).isNone = true then some w else bad r := by
      unfold bad
      rw [List.find?_cons]
      cases (rd w).isNone <;> rfl
    subst e1 e2
    rw [hr, List.map_cons, hb, Int.zero_add]
    cases q : rd w with
    | none =>
      have d : rdD w = .non := by unfold rdD; rw [q]
      have is : oIs (rdD w) .non = some (.bl true) := by rw [d]; rfl
      refine ⟨fun w' hw => ?_, fun hw => by simp at hw⟩
      simp at hw
      subst hw
      rw [forL]
      simp [i1, i2, is, l3]
    | some u =>
      have d : rdD w = pair u := by unfold rdD; rw [q]
      have is : oIs (rdD w) .non = some (.bl false) := by rw [d]; rfl
      have go : ∀ X, forL (gN 3) (sIf (cE (eOp oIs (eOp oIx (eV 2) (eV 3)) (eC .non))) (sRet (eFn oLst (aCons (eC (.str ("bad" : Str))) (aCons (eOp oIx (eV 1) (eV 3)) (aCons (eC (.bl true)) aNil))))) sNx) (.int (p.length : Nat) :: X) [x0, .d (.lst (strsD ws)), .d (.lst (ws.map rdD)), z, x4, x5, x6] =
          forL (gN 3) (sIf (cE (eOp oIs (eOp oIx (eV 2) (eV 3)) (eC .non))) (sRet (eFn oLst (aCons (eC (.str ("bad" : Str))) (aCons (eOp oIx (eV 1) (eV 3)) (aCons (eC (.bl true)) aNil))))) sNx) X [x0, .d (.lst (strsD ws)), .d (.lst (ws.map rdD)), .d (.int (p.length : Nat)), x4, x5, x6] := fun X => by
        conv => lhs; rw [forL]
        simp [i2, is]
      rw [go]
      simpa using ih
theorem lcm_loop : ∀ (qs : List Q) (b : Int) (k : Nat) (x0 x1 x2 x3 z x6 : Sl), 0 < b → b.natAbs < 10 ^ (60 * k) → k + qs.length ≤ 6 → okQ qs → ∃ z', forL (gN 5) (sAsg (eOp oFdiv (eOp oMul (eV 4) (eOp oIx (eV 5) (eC (.int 1)))) (eCallN m__law_gcd (aCons (eV 4) (aCons (eOp oIx (eV 5) (eC (.int 1))) aNil)))) (gN 4)) (qs.map pair) [x0, x1, x2, x3, .d (.int b), z, x6] = .ok (.nx [x0, x1, x2, x3, .d (.int (foldQ fLcm qs b)), z', x6])
  | [], b, k, x0, x1, x2, x3, z, x6, _, _, _, _ => ⟨z, rfl⟩
  | (a, c) :: qs, b, k, x0, x1, x2, x3, z, x6, hb, hk, hl, ok => by
    obtain ⟨q2, q1, q3⟩ := ok (a, c) (by simp)
    simp only at q2 q1 q3
    rw [List.length_cons] at hl
    have hlt : (fLcm b c).natAbs < 10 ^ (60 * (k + 1)) := Nat.lt_of_le_of_lt (step_lcm.le b c hb (by omega)) (pow_step hk q3)
    obtain ⟨z', e⟩ := lcm_loop qs (fLcm b c) (k + 1) x0 x1 x2 x3 (.d (pair (a, c))) x6 (step_lcm.pos b c hb (by omega)) hlt (by omega) fun x hx => ok x (by simp [hx])
    refine ⟨z', ?_⟩
    rw [List.map_cons, forL]
    have x1 : oIx (pair (a, c)) (.int 1) = some (.int c) := rfl
    have m := o_mul (sm.mu (sm_pow hk (by omega)) (sm60 q3))
    have ge := gcd_eq b c
    have gp : 0 < Nat.gcd b.natAbs c.natAbs := Nat.gcd_pos_of_pos_right _ (by omega)
    have gs : sm ((Nat.gcd b.natAbs c.natAbs : Nat) : Int) := sm_nat (Nat.gcd_le_right _ (by omega)) (sm60 q3)
    have dv := o_fdiv (i := b * c) (show ((Nat.gcd b.natAbs c.natAbs : Nat) : Int) ≠ 0 by omega) gs.fd
    have hf : (b * c).fdiv ((Nat.gcd b.natAbs c.natAbs : Nat) : Int) = fLcm b c := rfl
    rw [hf] at dv
    revert ge dv
    generalize ((Nat.gcd b.natAbs c.natAbs : Nat) : Int) = g
    intro ge dv
    simp [x1, m, ge, dv, e]
    rfl
theorem due_bad {t : Str} {L R rr : List D} {n : Nat} {X : D} (gs : gSplit t [.str (" " : Str)] = some (.lst L)) (sl : L.length = n) (wl : n ≤ sizeLine) (hc : compL (gN 6) cYes (eCallN m__law_read (aCons (eV 6) aNil)) [.d (.str t), .d (.lst L), .no, .no, .no, .no, .no] L = .ok R) (rg : n < 4611686018427387904) (hr : rangeD 0 n = rr)
    (e : forL (gN 3) (sIf (cE (eOp oIs (eOp oIx (eV 2) (eV 3)) (eC .non))) (sRet (eFn oLst (aCons (eC (.str ("bad" : Str))) (aCons (eOp oIx (eV 1) (eV 3)) (aCons (eC (.bl true)) aNil))))) sNx) rr [.d (.str t), .d (.lst L), .d (.lst R), .no, .no, .no, .no] = .ok (.rt X)) : m__law_point_due [.str t] = .ok X := by
  subst sl
  simp [m__law_point_due, runB, gs, wl, hc, rg, hr, e]
theorem due_eq {t : Str} (h : t.length + 2 ≤ sizeLine) : m__law_point_due [.str t] = .ok (ptAsk t) := by
  have l2 : 2 ≤ sizeLine := by decide
  have l3 : 3 ≤ sizeLine := by decide
  have gs := gs2 h
  have wl := words_le2 h
  have sl : (strsD (words t)).length = (words t).length := by unfold strsD; rw [List.length_map]
  have hc : compL (gN 6) cYes (eCallN m__law_read (aCons (eV 6) aNil)) [.d (.str t), .d (.lst (strsD (words t))), .no, .no, .no, .no, .no] (strsD (words t)) = .ok ((words t).map rdD) := by
    rw [compL_map (fun d => match d with | .str w => rdD w | d => d)]
    · unfold strsD
      rw [List.map_map]
      rfl
    · intro d hd
      obtain ⟨w, hw, rfl⟩ := List.mem_map.mp hd
      have := lread_eq (w := w) (Nat.le_trans (Nat.add_le_add_right (words_len hw) 2) h)
      exact ⟨_, rfl, by simp [this]⟩
  obtain ⟨n1, n2⟩ := none_loop (x0 := .d (.str t)) (x4 := .no) (x5 := .no) (x6 := .no) (ws := words t) rfl rfl (words t) [] .no rfl
  have rg : (words t).length < 4611686018427387904 := by
    have hz : sizeLine ≤ 16777216 := by decide
    omega
  have rgD : rangeD 0 (words t).length = (List.range' 0 (words t).length).map fun k => D.int (0 + (k : Nat)) := by
    unfold rangeD
    rw [List.range_eq_range']
  simp only [List.length_nil] at n1 n2
  rw [← rgD] at n1 n2
  unfold ptAsk
  cases k : bad (words t) with
  | some w =>
    have e := n1 w k
    clear n1 n2 rgD
    revert e
    generalize hr : rangeD 0 (words t).length = rr
    intro e
    exact due_bad gs sl wl hc rg hr e
  | none =>
    obtain ⟨z', e⟩ := n2 k
    have hm : (words t).map rdD = (qs_ (words t)).map pair := by
      unfold qs_
      rw [List.map_map]
      refine List.map_congr_left fun w hw => ?_
      show rdD w = pair _
      have := bad_none k w hw
      unfold rdD
      rw [this]
    rw [hm] at hc e
    have ok := qs_ok k
    have ql : (qs_ (words t)).length = (words t).length := by unfold qs_; rw [List.length_map]
    have wl3 := wl
    revert e
    generalize hr : rangeD 0 (words t).length = rr
    intro e
    by_cases h3 : 3 < (words t).length
    · have h3' : (3 : Int) < (words t).length := by omega
      simp [m__law_point_due, runB, gs, sl, wl, hc, rg, hr, e, h3, h3', l3]
    · have h3' : ¬ (3 : Int) < (words t).length := by omega
      have h1 : (1 : Int).natAbs < 10 ^ (60 * 1) := by decide +kernel
      obtain ⟨z2, e2⟩ := lcm_loop (qs_ (words t)) 1 1 (.d (.str t)) (.d (.lst (strsD (words t)))) (.d (.lst ((qs_ (words t)).map pair))) z' .no .no (by decide) h1 (by omega) ok
      obtain ⟨a1, _, _, a4⟩ := foldQ_ok step_lcm (qs_ (words t)) 1 1 (by decide) h1 ok
      have sF : sm (foldQ fLcm (qs_ (words t)) 1) := sm_pow a4 (by omega)
      rw [pt_same ok]
      unfold ptD
      revert e2 a1 sF
      generalize foldQ fLcm (qs_ (words t)) 1 = F
      intro e2 a1 sF
      have hc2 := numers (qs := qs_ (words t)) (F := F) (ρ := [.d (.str t), .d (.lst (strsD (words t))), .d (.lst ((qs_ (words t)).map pair)), z', .d (.int F), .no, .no]) (i := 5) (j := 4) (fun _ => rfl) (fun _ => rfl) ok sF
      have pe := reduced_eq (ns := (qs_ (words t)).map fun q => q.1 * F.fdiv q.2) a1 sF (by rw [List.length_map]; omega)
      have ql2 : (qs_ (words t)).length ≤ sizeLine := by omega
      revert hc2 pe
      generalize ((qs_ (words t)).map fun q => q.1 * F.fdiv q.2) = ns
      intro hc2 pe
      simp [m__law_point_due, runB, gs, sl, wl, hc, rg, hr, e, h3, h3', e2, hc2, pe, ql, ql2, l2]
end L2.DL.K71
namespace L2.DL.K71
open PySem PyProof.Rows PySem.Spec
open TL (tl numL)
/-! ### a point's text -/
def place (ms : List Int) (b : Int) : D := .tup (ms.map D.int ++ [.int b])
def ptxt (ms : List Int) (b : Int) : Str := Txt.join " " (ms.map fun m => txt (lowest m b))
def fits (ms : List Int) (b : Int) : Prop := (∀ m ∈ ms, m.natAbs < 10 ^ 60) ∧ 0 < b ∧ b.natAbs < 10 ^ 60
theorem toStrs_map (l : List Str) : toStrs (l.map D.str) = some l := by
  induction l with
  | nil => rfl
  | cons a l ih => show (toStrs (l.map D.str)).map _ = _; rw [ih]; rfl
theorem low_fit {m b : Int} (hm : m.natAbs < 10 ^ 60) (hb : 0 < b) (hb2 : b.natAbs < 10 ^ 60) : (lowest m b).1.natAbs < 10 ^ 60 ∧ (lowest m b).2.natAbs < 10 ^ 60 ∧ 1 ≤ (lowest m b).2 ∧ Nat.gcd (lowest m b).1.natAbs (lowest m b).2.natAbs = 1 := by
  obtain ⟨h1, h2, h3, h4, _⟩ := lowest_ok (a := m) hb
  exact ⟨Nat.lt_of_le_of_lt h3 hm, Nat.lt_of_le_of_lt h4 hb2, h1, h2⟩
theorem sum_le {l : List Str} {k : Nat} (h : ∀ w ∈ l, w.length ≤ k) : (l.map (·.length)).sum ≤ l.length * k := by
  induction l with
  | nil => simp
  | cons a l ih =>
    have h1 := h a (by simp)
    have h2 := ih fun w hw => h w (by simp [hw])
    (rw [List.map_cons, List.sum_cons, List.length_cons, Nat.succ_mul])
    omega
theorem space_len : (" " : Str).length = 1 := by decide +kernel
theorem join_ok {l : List Str} (h : ∀ w ∈ l, w.length ≤ 123) (hl : l.length ≤ 1000) : gJoin " " [.lst (l.map D.str)] = some (.str (Txt.join " " l)) := by
  simp only [gJoin, toStrs_map, Option.bind_some]
  have := sum_le h
  have := space_len
  exact if_pos (by rw [space_len]; omega)
theorem parts_fit {ms : List Int} {b : Int} (h : fits ms b) : ∀ w ∈ (ms.map fun m => txt (lowest m b)), w.length ≤ 123 := fun w hw => by
  obtain ⟨m, hm, rfl⟩ := List.mem_map.mp hw
  obtain ⟨h1, h2, _⟩ := low_fit (h.1 m hm) h.2.1 h.2.2
  exact txt_len h1 h2
theorem atI_lastN {xs : List D} {q : D} : atI (xs ++ [q]) ((xs.length : Nat) : Int) = some q := by
  rw [atI_nat (by simp)]
  simp
theorem cut_last {xs : List D} {q : D} : cutL (xs ++ [q]) none (some (-1)) = xs := by
  unfold cutL
  have e : HT.sIx (xs ++ [q]).length (xs ++ [q]).length (some (-1)) = xs.length := by
    show (if (-1 : Int) < 0 then ((-1 : Int) + (((xs ++ [q]).length : Nat) : Int)).toNat else min (-1 : Int).toNat (xs ++ [q]).length) = xs.length
    rw [if_pos (by decide), List.length_append, List.length_singleton]
    omega
  rw [e]
  show ((xs ++ [q]).drop 0).take (xs.length - 0) = xs
  simp
theorem wpoint_eq {ms : List Int} {b : Int} (h : fits ms b) (hl : ms.length ≤ 1000) : m_write_point [place ms b] = .ok (.str (ptxt ms b)) := by
  have big : 1000 ≤ sizeLine := by decide
  have ct : oCut (place ms b) none (some (-1)) = some (.tup (ms.map D.int)) := by
    show some (D.tup (cutL _ _ _)) = _
    rw [cut_last]
  have ix : oIx (place ms b) (.int (-1)) = some (.int b) := atI_last
  have hc : compL (gN 1) cYes (eCallN m_write_ratio (aCons (eCallN m_ratio (aCons (eV 1) (aCons (eOp oIx (eV 0) (eUn oNeg (eC (.int 1)))) aNil))) aNil)) [.d (place ms b), .no] (ms.map D.int) = .ok ((ms.map fun m => txt (lowest m b)).map D.str) := by
    rw [compL_map (fun d => match d with | .int m => .str (txt (lowest m b)) | d => d)]
    · rw [List.map_map, List.map_map]; rfl
    · intro d hd
      obtain ⟨m, hm, rfl⟩ := List.mem_map.mp hd
      obtain ⟨h1, h2, _⟩ := low_fit (h.1 m hm) h.2.1 h.2.2
      have e1 := ratio_pos (a := m) h.2.1 (sm60 h.2.2)
      have e2 := wratio_eq (q := lowest m b) h1 h2
      exact ⟨_, rfl, by simp [ix, e1, e2]⟩
  have jo := join_ok (parts_fit h) (by rw [List.length_map]; exact hl)
  have hl2 : ms.length ≤ sizeLine := by omega
  unfold ptxt
  revert jo hc
  generalize (ms.map fun m => txt (lowest m b)) = ws
  intro hc jo
  simp [m_write_point, runB, ct, hc, hl2, jo]
theorem range_map (n : Nat) : rangeD 0 n = (List.range n).map fun k => D.int (k : Nat) := by
  unfold rangeD
  exact List.map_congr_left fun k _ => by rw [Int.zero_add]
theorem ptext_eq {ms : List Int} {b : Int} (h : fits ms b) (hl : ms.length ≤ 1000) : m__law_place_text [place ms b] = .ok (.str (ptxt ms b)) := by
  have big : 1000 ≤ sizeLine := by decide
  have le : fLen [place ms b] = some (.int ((ms.length : Nat) + 1 : Int)) := by
    show some (D.int _) = _
    rw [List.length_append, List.length_map]
    rfl
  have sub : ((ms.length : Nat) + 1 : Int) - 1 = (ms.length : Nat) := by omega
  have ix : oIx (place ms b) (.int (ms.length : Nat)) = some (.int b) := by
    have := atI_lastN (xs := ms.map D.int) (q := .int b)
    rw [List.length_map] at this
    exact this
  have hc : compL (gN 2) cYes (eCallN m__law_ratio_text (aCons (eOp oIx (eV 0) (eV 2)) (aCons (eOp oIx (eV 0) (eV 1)) aNil))) [.d (place ms b), .d (.int (ms.length : Nat)), .no] (rangeD 0 ms.length) = .ok ((ms.map fun m => txt (lowest m b)).map D.str) := by
    rw [compL_map (fun d => match d with | .int k => (match ms[k.toNat]? with | some m => .str (txt (lowest m b)) | none => .non) | d => d)]
    · congr 1
      rw [range_map, List.map_map, List.map_map]
      apply List.ext_getElem
      · simp
      · intro k h1 h2
        have hk : k < ms.length := by simpa using h1
        simp [hk]
    · intro d hd
      rw [range_map] at hd
      obtain ⟨k, hk, rfl⟩ := List.mem_map.mp hd
      have hk := List.mem_range.mp hk
      have e : ms[((k : Nat) : Int).toNat]? = some ms[k] := by simp [hk]
      have ik : oIx (place ms b) (.int (k : Nat)) = some (.int ms[k]) := by
        show atI (ms.map D.int ++ [.int b]) (k : Nat) = _
        rw [atI_nat (by simp; omega), List.getElem?_append_left (by simpa using hk)]
        simp [hk]
      have e1 := rtext_eq (a := ms[k]) h.2.1 (h.1 _ (List.getElem_mem _)) h.2.2
      refine ⟨_, rfl, ?_⟩
      simp only [e]
      simp [ik, ix, e1]
  have jo := join_ok (parts_fit h) (by rw [List.length_map]; exact hl)
  have hl2 : (rangeD 0 ms.length).length ≤ sizeLine := by rw [range_map, List.length_map, List.length_range]; omega
  have rg : ms.length < 4611686018427387904 := by omega
  unfold ptxt
  revert jo hc hl2
  generalize hr : rangeD 0 ms.length = rr
  generalize (ms.map fun m => txt (lowest m b)) = ws
  intro hc jo hl2
  simp [m__law_place_text, runB, le, sub, rg, hr, hc, hl2, jo]
/-! ### read back -/
theorem txt_signs {q : Q} : 32 ∉ tl (txt q) := by
  have no : ∀ i : Int, 32 ∉ tl (numS i) := fun i => by
    cases i with
    | ofNat n => exact (TL.tl_num n).symm ▸ TL.numL_free (.inl (by decide))
    | negSucc m =>
      rw [tl_neg]
      intro h
      rcases List.mem_cons.mp h with h | h
      · exact absurd h (by decide)
      · exact TL.numL_free (.inl (by decide)) h
  unfold txt
  split
  · exact no _
  · rw [TL.tl_append, TL.tl_append, tl_slash]
    intro h
    (rcases List.mem_append.mp h with h | h)
    · (rcases List.mem_append.mp h with h | h)
      · exact no _ h
      · exact absurd (List.mem_singleton.mp h) (by decide)
    · exact no _ h
theorem ptxt_words {ms : List Int} {b : Int} (hne : ms ≠ []) : words (ptxt ms b) = ms.map fun m => txt (lowest m b) := by
  refine TL.split_join tl_space kind_space (fun e => hne (List.map_eq_nil_iff.mp e)) fun p hp => ?_
  obtain ⟨m, _, rfl⟩ := List.mem_map.mp hp
  exact txt_signs
theorem ints_inj : ∀ {xs ys : List Int}, xs.map D.int = ys.map D.int → xs = ys
  | [], [], _ => rfl
  | [], _ :: _, h => by cases h
  | _ :: _, [], h => by cases h
  | x :: xs, y :: ys, h => by
    obtain ⟨h1, h2⟩ := List.cons.inj h
    rw [D.int.inj h1, ints_inj h2]
/-- a point in lowest terms, written and read -/
theorem read_back {ns : List Int} {B : Int} {ms : List Int} {b : Int} (hB : 0 < B) (hp : redD ns B = place ms b) (h : fits ms b) (hne : ms ≠ []) (hl : ms.length ≤ 3) : ptAsk (ptxt ms b) = .lst [.str "told", place ms b] := by
  have hw := ptxt_words (b := b) hne
  have hrd : ∀ m ∈ ms, rd (txt (lowest m b)) = some (lowest m b) := fun m hm => by
    obtain ⟨h1, h2, h3, h4⟩ := low_fit (h.1 m hm) h.2.1 h.2.2
    exact rd_txt h1 h2 h3 h4
  have hb : bad (ms.map fun m => txt (lowest m b)) = none := by
    refine List.find?_eq_none.mpr fun w hw => ?_
    obtain ⟨m, hm, rfl⟩ := List.mem_map.mp hw
    rw [hrd m hm]
    exact Bool.false_ne_true
  have hq : qs_ (ms.map fun m => txt (lowest m b)) = ms.map fun m => lowest m b := by
    unfold qs_
    rw [List.map_map]
    refine List.map_congr_left fun m hm => ?_
    show (rd (txt (lowest m b))).getD (0, 1) = _
    rw [hrd m hm]
    rfl
  unfold ptAsk
  rw [hw, hb]
  show (if _ then _ else _) = _
  rw [if_neg (by rw [List.length_map]; omega), hq]
  have ok : okQ (ms.map fun m => lowest m b) := fun q hq => by
    obtain ⟨m, hm, rfl⟩ := List.mem_map.mp hq
    obtain ⟨h1, h2, h3, h4⟩ := low_fit (h.1 m hm) h.2.1 h.2.2
    exact ⟨h3, h1, h2⟩
  obtain ⟨a1, _, a3, _⟩ := foldQ_ok step_mul (ms.map fun m => lowest m b) 1 1 (by decide) (by decide +kernel) ok
  have key : ptD fMulq (ms.map fun m => lowest m b) = place ms b := by
    rw [← hp]
    unfold ptD
    revert a1 a3
    generalize foldQ fMulq (ms.map fun m => lowest m b) 1 = F
    intro a1 a3
    rw [List.map_map]
    -- over the bottom b
    have e1 : redD (ms.map fun m => (lowest m b).1 * F.fdiv (lowest m b).2) F = redD (ms.map fun m => m) b := by
      refine red_eq a1 h.2.1 fun m hm => ?_
      obtain ⟨l1, _, _, _, l5, l6⟩ := lowest_ok (a := m) h.2.1
      obtain ⟨x, hx⟩ := a3 _ (List.mem_map_of_mem hm)
      revert l1 l5 l6 hx
      generalize (lowest m b).1 = p
      generalize (lowest m b).2 = q
      generalize ((Nat.gcd m.natAbs b.natAbs : Nat) : Int) = g
      intro l1 l5 l6 hx
      rw [hx, Int.fdiv_eq_ediv_of_nonneg _ (by omega), Int.mul_ediv_cancel_left _ (by omega), ← l5, ← l6]
      calc p * x * (q * g) = p * (x * (q * g)) := Int.mul_assoc _ _ _
        _ = p * (g * (q * x)) := by rw [Int.mul_left_comm x, Int.mul_left_comm g, Int.mul_comm x g]
        _ = p * g * (q * x) := (Int.mul_assoc _ _ _).symm
    -- in lowest terms already
    have e2 : redD (ms.map fun m => m) b = redD ns B := by
      have gp := gl_pos (b := B.natAbs) (ns := ns) (by omega)
      have gd := gl_dvd ns B.natAbs
      have hm : ms.map D.int ++ [.int b] = ns.map (fun n => D.int (n.fdiv (gl B.natAbs ns : Nat))) ++ [.int (B.fdiv (gl B.natAbs ns : Nat))] := by
        have := hp.symm
        unfold redD place at this
        exact D.tup.inj this
      revert gp gd hm
      generalize gl B.natAbs ns = g
      intro gp gd hm
      obtain ⟨hm1, hm2⟩ := List.append_inj' hm rfl
      have hm2 : b = B.fdiv g := by
        have := (List.cons.inj hm2).1
        exact D.int.inj this
      have hm1 : ms = ns.map fun n => n.fdiv g := by
        apply ints_inj
        rw [hm1, List.map_map]
        rfl
      have eB : b * g = B := by
        rw [hm2, Int.fdiv_eq_ediv_of_nonneg _ (by omega)]
        exact Int.ediv_mul_cancel (Int.ofNat_dvd_left.mpr gd.1)
      rw [hm1, List.map_map]
      have : ns = ns.map fun n => n := by simp
      conv => rhs; rw [this]
      refine red_eq h.2.1 hB fun n hn => ?_
      show n.fdiv g * B = n * b
      have en : n.fdiv g * g = n := by
        rw [Int.fdiv_eq_ediv_of_nonneg _ (by omega)]
        exact Int.ediv_mul_cancel (Int.ofNat_dvd_left.mpr (gd.2 n hn))
      conv => rhs; rw [← en]
      rw [← eB, Int.mul_comm b, Int.mul_assoc]
    exact e1.trans e2
  rw [key]
end L2.DL.K71
namespace L2.DL.K71
open PySem PyProof.Rows PySem.Spec
open TL (tl numL)
def isS : D → Bool
  | .str w => decide (w.length ≤ 1000000)
  | _ => false
theorem isS_str {w : Str} (h : w.length ≤ 1000000) : isS (.str w) = true := decide_eq_true h
theorem isS_of {d : D} (h : isS d = true) : ∃ w, d = .str w ∧ w.length ≤ 1000000 := by
  cases d with
  | str w => exact ⟨w, rfl, of_decide_eq_true h⟩
  | _ => cases h
/-! ### names -/
def TAK : List Str := ["half", "quota", "lots", "veto", "both", "either", "opposite", "with", "along", "times"]
theorem in_tak (w : Str) : oIn (.str w) c_TAKEN = some (.bl (decide (w ∈ TAK))) := by
  show (inB (.str w) (.tup (TAK.map D.str))).map D.bl = _
  rw [in_tupS]
  rfl
theorem in_tak2 (w : Str) : oIn (.str w) (.lst [.str ("half" : Str), .str ("quota" : Str), .str ("lots" : Str), .str ("veto" : Str), .str ("both" : Str), .str ("either" : Str), .str ("opposite" : Str), .str ("with" : Str), .str ("along" : Str), .str ("times" : Str)]) = some (.bl (decide (w ∈ TAK))) := by
  show (inB (.str w) (.lst (TAK.map D.str))).map D.bl = _
  rw [in_lstS]
  rfl
theorem lett_len : ("abcdefghijklmnopqrstuvwxyz" : Str).length = 26 := by decide +kernel
theorem fig_len : ("0123456789" : Str).length = 10 := by decide +kernel
theorem name_both {w : Str} (h : w.length ≤ sizeLine) : ∃ b, m_is_name [.str w] = .ok (.bl b) ∧ m__law_is_name [.str w] = .ok (.bl b) := by
  have l10 : 10 ≤ sizeLine := by decide
  have big : 1000 ≤ sizeLine := by decide
  have ap : oAdd (.str ("abcdefghijklmnopqrstuvwxyz" : Str)) (.str ("0123456789" : Str)) = some (.str (("abcdefghijklmnopqrstuvwxyz" : Str) ++ ("0123456789" : Str))) := o_adds (by rw [lett_len, fig_len]; omega)
  have t1 := in_tak w
  have t2 := in_tak2 w
  by_cases h1 : (w.length : Int) < 1
  · exact ⟨false, by simp [m_is_name, runB, h, h1], by simp [m__law_is_name, runB, h, h1, l10]⟩
  · by_cases h2 : (8 : Int) < w.length
    · exact ⟨false, by simp [m_is_name, runB, h, h1, h2], by simp [m__law_is_name, runB, h, h1, h2, l10]⟩
    · by_cases h3 : w ∈ TAK
      · exact ⟨false, by simp [m_is_name, runB, h, h1, h2, t1, h3], by simp [m__law_is_name, runB, h, h1, h2, l10, t2, h3]⟩
      · obtain ⟨c, r, q, ix⟩ := ix0 h (by omega)
        have al := all_in_eq w (("abcdefghijklmnopqrstuvwxyz" : Str) ++ ("0123456789" : Str))
        obtain ⟨bs, hb, ha⟩ := any_out w (("abcdefghijklmnopqrstuvwxyz" : Str) ++ ("0123456789" : Str)) (fun c => decide (c ∈ (("abcdefghijklmnopqrstuvwxyz" : Str) ++ ("0123456789" : Str)).cps.toList)) (fun _ => rfl)
          (ρ := [.d (.str w), .d (.lst [.str ("half" : Str), .str ("quota" : Str), .str ("lots" : Str), .str ("veto" : Str), .str ("both" : Str), .str ("either" : Str), .str ("opposite" : Str), .str ("with" : Str), .str ("along" : Str), .str ("times" : Str)]), .d (.str ("abcdefghijklmnopqrstuvwxyz" : Str)), .no]) (i := 3) (te := eOp oNotIn (eV 3) (eOp oAdd (eV 2) (eC (.str ("0123456789" : Str))))) fun c => by
            simp [ap, oNotIn]
        have hf := f_any bs (blsD_map bs)
        have sl : (signsD w).length ≤ sizeLine := by rw [signs_len]; exact h
        have io : oIn (.str ⟨#[c]⟩) (.str ("abcdefghijklmnopqrstuvwxyz" : Str)) = some (.bl (decide (c ∈ ("abcdefghijklmnopqrstuvwxyz" : Str).cps.toList))) := rfl
        have ino : oNotIn (.str ⟨#[c]⟩) (.str ("abcdefghijklmnopqrstuvwxyz" : Str)) = some (.bl (!decide (c ∈ ("abcdefghijklmnopqrstuvwxyz" : Str).cps.toList))) := rfl
        have ha : bs.any id = !((tl w).all fun c => decide (c ∈ tl (("abcdefghijklmnopqrstuvwxyz" : Str) ++ ("0123456789" : Str)))) := ha
        revert al ha io ino
        generalize ((tl w).all fun c => decide (c ∈ tl (("abcdefghijklmnopqrstuvwxyz" : Str) ++ ("0123456789" : Str)))) = k
        cases decide (c ∈ ("abcdefghijklmnopqrstuvwxyz" : Str).cps.toList) with
        | false =>
          intro al io ino ha
          exact ⟨false, by simp [m_is_name, runB, h, h1, h2, t1, h3, ix, io], by simp [m__law_is_name, runB, h, h1, h2, l10, t2, h3, ix, ino]⟩
        | true =>
          intro al io ino ha
          exact ⟨k, by simp [m_is_name, runB, h, h1, h2, t1, h3, ix, io, ap, al], by simp [m__law_is_name, runB, h, h1, h2, l10, t2, h3, ix, ino, hb, sl, hf, ha]⟩
theorem truth_eq (b : Bool) : m__law_truth [.bl b, .bl b] = .ok (.bl true) := by cases b <;> rfl
/-- a sign of a text -/
theorem ix_any {z : Str} {k : Int} (h : z.length ≤ sizeLine) (h0 : 0 ≤ k) (h1 : k < z.length) : ∃ c, oIx (.str z) (.int k) = some (.str ⟨#[c]⟩) := by
  (obtain ⟨n, rfl⟩ := Int.eq_ofNat_of_zero_le h0)
  have hn : n < z.cps.toList.length := by
    have : z.length = z.cps.toList.length := TL.len_tl z
    omega
  refine ⟨z.cps.toList[n], ?_⟩
  show (if _ then (atI z.cps.toList (n : Int)).map _ else _) = _
  rw [if_pos h, atI_nat hn, List.getElem?_eq_getElem hn]
  rfl
theorem fmod_in (i : Int) {k : Int} (hk : 0 < k) : 0 ≤ i.fmod k ∧ i.fmod k < k := by
  (rw [Int.fmod_eq_emod_of_nonneg _ (by omega)])
  exact ⟨Int.emod_nonneg _ (by omega), Int.emod_lt_of_pos _ hk⟩
theorem one_len (c : Nat) : (⟨#[c]⟩ : Str).length = 1 := rfl
theorem z9_len : ("0z9" : Str).length = 3 := by decide +kernel
theorem name_eq (n : Int) : ∃ w, m__law_name [.int n] = .ok (.str w) ∧ w.length ≤ 10 := by
  have big : 1000 ≤ sizeLine := by decide
  have L := lett_len
  have F := fig_len
  have f26 := fmod_in n (k := 26) (by decide)
  obtain ⟨c1, e1⟩ := ix_any (z := ("abcdefghijklmnopqrstuvwxyz" : Str)) (k := n.fmod 26) (by omega) f26.1 (by omega)
  obtain ⟨r, hr⟩ : ∃ r, r = n.fdiv 26 := ⟨_, rfl⟩
  have d26 : oFdiv (.int n) (.int 26) = some (.int r) := by rw [hr]; exact o_fdiv (by decide) (by decide)
  have m26 : oMod (.int n) (.int 26) = some (.int (n.fmod 26)) := o_mod (by decide)
  have m4 : oMod (.int r) (.int 4) = some (.int (r.fmod 4)) := o_mod (by decide)
  have f4 := fmod_in r (k := 4) (by decide)
  have d4 : oFdiv (.int r) (.int 4) = some (.int (r.fdiv 4)) := o_fdiv (by decide) (by decide)
  have m10 : oMod (.int (r.fdiv 4)) (.int 10) = some (.int ((r.fdiv 4).fmod 10)) := o_mod (by decide)
  have f10 := fmod_in (r.fdiv 4) (k := 10) (by decide)
  obtain ⟨c2, e2⟩ := ix_any (z := ("0123456789" : Str)) (k := (r.fdiv 4).fmod 10) (by omega) f10.1 (by omega)
  have d40 : oFdiv (.int r) (.int 40) = some (.int (r.fdiv 40)) := o_fdiv (by decide) (by decide)
  have m26a : oMod (.int (r.fdiv 40)) (.int 26) = some (.int ((r.fdiv 40).fmod 26)) := o_mod (by decide)
  have f26a := fmod_in (r.fdiv 40) (k := 26) (by decide)
  obtain ⟨c3, e3⟩ := ix_any (z := ("abcdefghijklmnopqrstuvwxyz" : Str)) (k := (r.fdiv 40).fmod 26) (by omega) f26a.1 (by omega)
  have d1040 : oFdiv (.int r) (.int 1040) = some (.int (r.fdiv 1040)) := o_fdiv (by decide) (by decide)
  have m26b : oMod (.int (r.fdiv 1040)) (.int 26) = some (.int ((r.fdiv 1040).fmod 26)) := o_mod (by decide)
  have f26b := fmod_in (r.fdiv 1040) (k := 26) (by decide)
  obtain ⟨c4, e4⟩ := ix_any (z := ("abcdefghijklmnopqrstuvwxyz" : Str)) (k := (r.fdiv 1040).fmod 26) (by omega) f26b.1 (by omega)
  have a2 : oAdd (.str ⟨#[c1]⟩) (.str ⟨#[c2]⟩) = some (.str ((⟨#[c1]⟩ : Str) ++ ⟨#[c2]⟩)) := o_adds (by simp only [one_len]; omega)
  have a3 : oAdd (.str ((⟨#[c1]⟩ : Str) ++ ⟨#[c2]⟩)) (.str ⟨#[c3]⟩) = some (.str ((⟨#[c1]⟩ : Str) ++ ⟨#[c2]⟩ ++ ⟨#[c3]⟩)) := o_adds (by simp only [one_len, len_app]; omega)
  have a4 : oAdd (.str ((⟨#[c1]⟩ : Str) ++ ⟨#[c2]⟩ ++ ⟨#[c3]⟩)) (.str ⟨#[c4]⟩) = some (.str ((⟨#[c1]⟩ : Str) ++ ⟨#[c2]⟩ ++ ⟨#[c3]⟩ ++ ⟨#[c4]⟩)) := o_adds (by simp only [one_len, len_app]; omega)
  have a5 : oAdd (.str ((⟨#[c1]⟩ : Str) ++ ⟨#[c2]⟩ ++ ⟨#[c3]⟩ ++ ⟨#[c4]⟩)) (.str ("0z9" : Str)) = some (.str ((⟨#[c1]⟩ : Str) ++ ⟨#[c2]⟩ ++ ⟨#[c3]⟩ ++ ⟨#[c4]⟩ ++ ("0z9" : Str))) := o_adds (by simp only [one_len, len_app, z9_len]; omega)
  revert e1 e2 e3 e4 m26 m4 m10 m26a m26b d4 d40 d1040 f4
  generalize n.fmod 26 = k1
  generalize (r.fdiv 4).fmod 10 = k2
  generalize (r.fdiv 40).fmod 26 = k3
  generalize (r.fdiv 1040).fmod 26 = k4
  generalize r.fmod 4 = q
  intro e1 m26 m4 f4 d4 m10 e2 d40 m26a e3 d1040 m26b e4
  by_cases q0 : (0 : Int) < q
  · by_cases q1 : (1 : Int) < q
    · by_cases q3 : q = 3
      · subst q3
        exact ⟨_, by simp [m__law_name, runB, m26, e1, d26, m4, d4, m10, e2, a2, d40, m26a, e3, a3, d1040, m26b, e4, a4, a5]; rfl, by simp only [one_len, len_app, z9_len]; omega⟩
      · exact ⟨_, by simp [m__law_name, runB, m26, e1, d26, m4, q0, q1, q3, d4, m10, e2, a2, d40, m26a, e3, a3]; rfl, by simp only [one_len, len_app]; omega⟩
    · have q3 : ¬ q = 3 := by omega
      exact ⟨_, by simp [m__law_name, runB, m26, e1, d26, m4, q0, q1, q3, d4, m10, e2, a2]; rfl, by simp only [one_len, len_app]; omega⟩
  · have q1 : ¬ (1 : Int) < q := by omega
    have q3 : ¬ q = 3 := by omega
    exact ⟨_, by simp [m__law_name, runB, m26, e1, d26, m4, q0, q1, q3]; rfl, by simp only [one_len]; omega⟩
end L2.DL.K71
namespace L2.DL.K71
open PySem PyProof.Rows PySem.Spec
open TL (tl numL)
theorem add_ok {z w : Str} (hz : z.length ≤ 20000) (hw : w.length ≤ 20000) : oAdd (.str z) (.str w) = some (.str (z ++ w)) := o_adds (by
  have : 1000000 ≤ sizeLine := by decide
  omega)
theorem rep_ok {z : Str} {n : Int} (h : 1 < n ∧ 0 < z.length ∧ z.length * n.toNat ≤ 1000000) : oMul (.str z) (.int n) = some (.str ⟨(List.replicate n.toNat z.cps).foldl (· ++ ·) #[]⟩) := if_pos h
theorem cut_len {z : Str} {lo hi : Option Int} : (cutS z lo hi).length ≤ z.length := by
  rw [TL.len_tl, TL.len_tl z]
  show ((z.cps.toList.drop _).take _).length ≤ z.cps.toList.length
  (rw [List.length_take, List.length_drop])
  omega
theorem size_big : 1000000 ≤ sizeLine := by decide
theorem upper_len (z : Str) : (Txt.upper z).length ≤ 3 * z.length := PyProof.Rows.len_upper z
theorem truths (xs : List D) (ρ : List Sl) (h : xs.all isS = true) (h2 : ρ.length = 3) : compL (gN 2) cYes (eCallN m__law_truth (aCons (eCallN m_is_name (aCons (eV 2) aNil)) (aCons (eCallN m__law_is_name (aCons (eV 2) aNil)) aNil))) ρ xs = .ok (xs.map fun _ => D.bl true) := by
  exact compL_map (fun _ => .bl true) xs fun d hd => by
    obtain ⟨w, rfl, hw⟩ := isS_of (List.all_eq_true.mp h d hd)
    have sb := size_big
    obtain ⟨b, e1, e2⟩ := name_both (w := w) (by omega)
    match ρ, h2 with
    | [a0, a1, a2], _ => exact ⟨_, rfl, by simp [e1, e2, truth_eq]⟩
theorem all_true (xs : List D) : fAll [.lst (xs.map fun _ => D.bl true)] = some (.bl true) := by
  have e : (xs.map fun _ => D.bl true) = (xs.map fun _ => true).map D.bl := by rw [List.map_map]; rfl
  rw [e, f_all _ (blsD_map _)]
  congr 2
  induction xs with
  | nil => rfl
  | cons x xs ih => simp
theorem z8_ex : ∃ s, oMul (.str ("z" : Str)) (.int 8) = some (.str s) ∧ s.length ≤ 1000000 := ⟨_, rep_ok (by decide +kernel), by decide +kernel⟩
theorem z9_ex : ∃ s, oMul (.str ("z" : Str)) (.int 9) = some (.str s) ∧ s.length ≤ 1000000 := ⟨_, rep_ok (by decide +kernel), by decide +kernel⟩
theorem names_eq (a b c : Int) : m__law_names_right [.lst [.int a, .int b, .int c]] = .ok (.bl true) := by
  have sb := size_big
  obtain ⟨w1, e1, n1⟩ := name_eq a
  obtain ⟨w2, e2, n2⟩ := name_eq b
  obtain ⟨w3, e3, n3⟩ := name_eq c
  obtain ⟨z8, m8, k8⟩ := z8_ex
  obtain ⟨z9, m9, k9⟩ := z9_ex
  have a23 : oAdd (.str w2) (.str w3) = some (.str (w2 ++ w3)) := add_ok (by omega) (by omega)
  have up : gUpper w1 [] = some (.str (Txt.upper w1)) := if_pos (by omega)
  have lu := upper_len w1
  have l7 : 7 ≤ sizeLine := by omega
  have l11 : 11 ≤ sizeLine := by omega
  have l9 : 9 ≤ sizeLine := by omega
  have l18 : 18 ≤ sizeLine := by omega
  have l27 : 27 ≤ sizeLine := by omega
  have hall : ([.str w1, .str (w2 ++ w3), .str (Txt.upper w1), .str ("" : Str), .str ("a b" : Str), .str ("ann\n" : Str), .str ("a-b" : Str), .str ("half" : Str), .str ("quota" : Str), .str ("lots" : Str), .str ("veto" : Str), .str ("both" : Str), .str ("either" : Str), .str ("opposite" : Str), .str ("with" : Str), .str ("along" : Str), .str ("times" : Str), .str ("halfs" : Str), .str ("council" : Str), .str ("abcdefgh" : Str), .str ("abcdefghi" : Str), .str ("9a" : Str), .str ("a9" : Str), .str z8, .str z9, .str ("_a" : Str), .str ("a_" : Str)] : List D).all isS = true := by
    have f : ([.str ("" : Str), .str ("a b" : Str), .str ("ann\n" : Str), .str ("a-b" : Str), .str ("half" : Str), .str ("quota" : Str), .str ("lots" : Str), .str ("veto" : Str), .str ("both" : Str), .str ("either" : Str), .str ("opposite" : Str), .str ("with" : Str), .str ("along" : Str), .str ("times" : Str), .str ("halfs" : Str), .str ("council" : Str), .str ("abcdefgh" : Str), .str ("abcdefghi" : Str), .str ("9a" : Str), .str ("a9" : Str), .str ("_a" : Str), .str ("a_" : Str)] : List D).all isS = true := by decide +kernel
    simp only [List.all_cons, List.all_nil, Bool.and_true, Bool.and_eq_true] at f ⊢
    have s1 : isS (.str w1) = true := isS_str (by omega)
    have s2 : isS (.str (w2 ++ w3)) = true := isS_str (by rw [len_app]; omega)
    have s3 : isS (.str (Txt.upper w1)) = true := isS_str (by omega)
    have s8 : isS (.str z8) = true := isS_str k8
    have s9 : isS (.str z9) = true := isS_str k9
    simp only [f, s1, s2, s3, s8, s9, and_self]
  have key := fun ρ h2 => truths _ ρ hall h2
  have al := all_true [.str w1, .str (w2 ++ w3), .str (Txt.upper w1), .str ("" : Str), .str ("a b" : Str), .str ("ann\n" : Str), .str ("a-b" : Str), .str ("half" : Str), .str ("quota" : Str), .str ("lots" : Str), .str ("veto" : Str), .str ("both" : Str), .str ("either" : Str), .str ("opposite" : Str), .str ("with" : Str), .str ("along" : Str), .str ("times" : Str), .str ("halfs" : Str), .str ("council" : Str), .str ("abcdefgh" : Str), .str ("abcdefghi" : Str), .str ("9a" : Str), .str ("a9" : Str), .str z8, .str z9, .str ("_a" : Str), .str ("a_" : Str)]
  have hl : ([.str w1, .str (w2 ++ w3), .str (Txt.upper w1), .str ("" : Str), .str ("a b" : Str), .str ("ann\n" : Str), .str ("a-b" : Str), .str ("half" : Str), .str ("quota" : Str), .str ("lots" : Str), .str ("veto" : Str), .str ("both" : Str), .str ("either" : Str), .str ("opposite" : Str), .str ("with" : Str), .str ("along" : Str), .str ("times" : Str), .str ("halfs" : Str), .str ("council" : Str), .str ("abcdefgh" : Str), .str ("abcdefghi" : Str), .str ("9a" : Str), .str ("a9" : Str), .str z8, .str z9, .str ("_a" : Str), .str ("a_" : Str)] : List D).length = 27 := rfl
  revert key al hl
  have ev : ∀ ρ : List Sl, True := fun _ => trivial
  generalize hX : ([.str w1, .str (w2 ++ w3), .str (Txt.upper w1), .str ("" : Str), .str ("a b" : Str), .str ("ann\n" : Str), .str ("a-b" : Str), .str ("half" : Str), .str ("quota" : Str), .str ("lots" : Str), .str ("veto" : Str), .str ("both" : Str), .str ("either" : Str), .str ("opposite" : Str), .str ("with" : Str), .str ("along" : Str), .str ("times" : Str), .str ("halfs" : Str), .str ("council" : Str), .str ("abcdefgh" : Str), .str ("abcdefghi" : Str), .str ("9a" : Str), .str ("a9" : Str), .str z8, .str z9, .str ("_a" : Str), .str ("a_" : Str)] : List D) = X
  intro key al hl
  have kc := key [.d (.lst [.int a, .int b, .int c]), .d (.lst X), .no] rfl
  have hlx : X.length ≤ sizeLine := by omega
  simp [m__law_names_right, runB, e1, e2, e3, a23, up, m8, m9, l7, l11, l9, l18, l27, hX]
  simp [kc, hlx, al]
end L2.DL.K71
namespace L2.DL.K71
open PySem PyProof.Rows PySem.Spec
open TL (tl numL)
theorem sml {i : Int} (h : i.natAbs ≤ 1000000000000000000000000000000) : sm i := Nat.lt_of_le_of_lt h (by decide +kernel)
/-! ### the script's cells -/
theorem cell_loop {x0 x1 : Sl} : ∀ (ns : List Int) (s : Int) (z : Sl), 0 ≤ s → s < 1000003 → ∃ s' z', 0 ≤ s' ∧ s' < 1000003 ∧ forL (gN 3) (sAsg (eOp oMod (eFn fInt (aCons (eOp oAdd (eOp oMul (eV 2) (eC (.int 31))) (eOp oMod (eFn fInt (aCons (eV 3) aNil)) (eC (.int 1000003)))) aNil)) (eC (.int 1000003))) (gN 2)) (ns.map D.int) [x0, x1, .d (.int s), z] = .ok (.nx [x0, x1, .d (.int s'), z'])
  | [], s, z, h0, h1 => ⟨s, z, h0, h1, rfl⟩
  | n :: ns, s, z, h0, h1 => by
    obtain ⟨y, hy⟩ : ∃ y, y = n.fmod 1000003 := ⟨_, rfl⟩
    have f := fmod_in (s * 31 + y) (k := 1000003) (by decide)
    obtain ⟨s', z', a, b, e⟩ := cell_loop (x0 := x0) (x1 := x1) ns ((s * 31 + y).fmod 1000003) (.d (.int n)) f.1 f.2
    refine ⟨s', z', a, b, ?_⟩
    have m := o_mul (i := s) (j := 31) (sm.mu (sml (by omega)) (sml (by decide)))
    have m1 : oMod (.int n) (.int 1000003) = some (.int y) := by rw [hy]; exact o_mod (by decide)
    have m2 : oMod (.int (s * 31 + y)) (.int 1000003) = some (.int ((s * 31 + y).fmod 1000003)) := o_mod (by decide)
    clear hy
    rw [List.map_cons, forL]
    simp [m, m1, m2, e]
theorem cell_eq (ns : List Int) (k : Nat) (hk : k ≤ 1000) : ∃ c, m__law_cell [script ns, .int k] = .ok (.int c) := by
  have hl : ((ns.map D.int).length : Int) = ns.length := by rw [List.length_map]
  by_cases h : (k : Int) < ns.length
  · have ix : oIx (script ns) (.int k) = some (.int ns[k]) := by
      show atI (ns.map D.int) (k : Int) = _
      rw [atI_nat (by rw [List.length_map]; omega)]
      simp [show k < ns.length by omega]
    exact ⟨ns[k], by simp [m__law_cell, runB, h, ix]⟩
  · obtain ⟨s', z', a, b, e⟩ := cell_loop (x0 := .d (script ns)) (x1 := .d (.int k)) ns 17 .no (by decide) (by decide)
    have m1 := o_mul (i := s' + 7) (j := (k : Int) + 3) (sm.mu (sml (by omega)) (sml (by omega)))
    have hb : ((s' + 7) * ((k : Int) + 3)).natAbs ≤ 1000010 * 1003 := by
      rw [Int.natAbs_mul]
      exact Nat.mul_le_mul (by omega) (by omega)
    have m2 := o_mul (i := (s' + 7) * ((k : Int) + 3)) (j := 69621) (sm.mu (sml (by omega)) (sml (by decide)))
    have m3 : oMod (.int ((s' + 7) * ((k : Int) + 3) * 69621)) (.int 2147483647) = some (.int (((s' + 7) * ((k : Int) + 3) * 69621).fmod 2147483647)) := o_mod (by decide)
    revert m2 m3
    generalize ((s' + 7) * ((k : Int) + 3) * 69621) = y
    intro m2 m3
    exact ⟨_, by simp [m__law_cell, runB, h, e, m1, m2, m3]; rfl⟩
/-! ### digits -/
def Fit : List Int → List Int → Prop
  | [], [] => True
  | r :: rs, s :: ss => 0 ≤ r ∧ r < s ∧ Fit rs ss
  | _, _ => False
def sizesOk (ss : List Int) : Prop := ∀ s ∈ ss, 0 < s ∧ s ≤ 1000000000
theorem dig_loop1 {x0 x1 x4 x5 x7 : Sl} : ∀ (ss : List Int) (acc : List D) (r : Int) (z : Sl), sizesOk ss → acc.length + ss.length ≤ 1000 → ∃ row r' z', Fit row ss ∧ forL (gN 6) (sSeq (sApp 2 (eOp oMod (eFn fInt (aCons (eV 3) aNil)) (eV 6))) (sAsg (eOp oFdiv (eFn fInt (aCons (eV 3) aNil)) (eV 6)) (gN 3))) (ss.map D.int) [x0, x1, .bl acc, .d (.int r), x4, x5, z, x7] =
      .ok (.nx [x0, x1, .bl (acc ++ row.map D.int), .d (.int r'), x4, x5, z', x7])
  | [], acc, r, z, _, _ => ⟨[], r, z, trivial, by simp [forL]⟩
  | s :: ss, acc, r, z, ok, hl => by
    obtain ⟨s0, s1⟩ := ok s (by simp)
    rw [List.length_cons] at hl
    have sb := size_big
    obtain ⟨row, r', z', ft, e⟩ := dig_loop1 (x0 := x0) (x1 := x1) (x4 := x4) (x5 := x5) (x7 := x7) ss (acc ++ [.int (r.fmod s)]) (r.fdiv s) (.d (.int s)) (fun x hx => ok x (by simp [hx])) (by simp; omega)
    have f := fmod_in r s0
    refine ⟨r.fmod s :: row, r', z', ⟨f.1, f.2, ft⟩, ?_⟩
    have m := o_mod (i := r) (j := s) (by omega)
    have d := o_fdiv (i := r) (j := s) (by omega) (sml (by omega)).fd
    have hs : acc.length < sizeLine := by omega
    have ea : acc ++ List.map D.int (r.fmod s :: row) = acc ++ [.int (r.fmod s)] ++ List.map D.int row := by simp
    rw [ea, ← e, List.map_cons, forL]
    simp [m, d, hs]
theorem dig_loop2 {x0 x3 x6 : Sl} {S : List Int} (hS : S.length ≤ 1000) (okS : sizesOk S) : ∀ (ss p : List Int) (acc : List D) (s : Int) (z z7 : Sl), p ++ ss = S → acc.length = p.length → 0 ≤ s → s < 2147483648 →
    ∃ row s' z' z7', Fit row ss ∧ forL (gN 5) (sSeq (sAsg (eOp oMod (eFn fInt (aCons (eOp oAdd (eOp oAdd (eOp oMul (eV 4) (eC (.int 48271))) (eOp oMul (eC (.int 974711)) (eV 5))) (eC (.int 12345))) aNil)) (eC (.int 2147483647))) (gN 4))
      (sSeq (sAsg (eOp oMod (eFn fInt (aCons (eOp oMul (eV 4) (eOp oAdd (eOp oFdiv (eV 4) (eC (.int 65537))) (eC (.int 3)))) aNil)) (eC (.int 2147483629))) (gN 7))
        (sApp 2 (eOp oMod (eOp oFdiv (eV 7) (eC (.int 19))) (eOp oIx (eV 1) (eV 5)))))) ((List.range' p.length ss.length).map fun k => .int (0 + (k : Nat))) [x0, .d (.lst (S.map D.int)), .bl acc, x3, .d (.int s), z, x6, z7] =
      .ok (.nx [x0, .d (.lst (S.map D.int)), .bl (acc ++ row.map D.int), x3, .d (.int s'), z', x6, z7'])
  | [], p, acc, s, z, z7, _, _, _, _ => ⟨[], s, z, z7, trivial, by simp [forL]⟩
  | c :: ss, p, acc, s, z, z7, e, ha, h0, h1 => by
    have sb := size_big
    have hp : p.length < S.length := by rw [← e]; simp
    obtain ⟨c0, c1⟩ := okS c (by rw [← e]; simp)
    obtain ⟨t, ht⟩ : ∃ t, t = (s * 48271 + 974711 * (p.length : Nat) + 12345).fmod 2147483647 := ⟨_, rfl⟩
    have ft := fmod_in (s * 48271 + 974711 * (p.length : Nat) + 12345) (k := 2147483647) (by decide)
    rw [← ht] at ft
    obtain ⟨u, hu⟩ : ∃ u, u = (t * (t.fdiv 65537 + 3)).fmod 2147483629 := ⟨_, rfl⟩
    have fc := fmod_in (u.fdiv 19) c0
    obtain ⟨row, s', z', z7', fit, q⟩ := dig_loop2 (x0 := x0) (x3 := x3) (x6 := x6) hS okS ss (p ++ [c]) (acc ++ [.int ((u.fdiv 19).fmod c)]) t (.d (.int (p.length : Nat))) (.d (.int u)) (by rw [List.append_assoc]; exact e) (by simp [ha]) ft.1 (by omega)
    refine ⟨(u.fdiv 19).fmod c :: row, s', z', z7', ⟨fc.1, fc.2, fit⟩, ?_⟩
    have hp1 : (p ++ [c]).length = p.length + 1 := by simp
    rw [hp1] at q
    have hr : List.range' p.length (c :: ss).length = p.length :: List.range' (p.length + 1) ss.length := rfl
    have ea : acc ++ List.map D.int ((u.fdiv 19).fmod c :: row) = acc ++ [.int ((u.fdiv 19).fmod c)] ++ List.map D.int row := by simp
    have m1 := o_mul (i := s) (j := 48271) (sm.mu (sml (by omega)) (sml (by decide)))
    have m2 := o_mul (i := 974711) (j := ((p.length : Nat) : Int)) (sm.mu (sml (by decide)) (sml (by omega)))
    have m3 : oMod (.int (s * 48271 + 974711 * (p.length : Nat) + 12345)) (.int 2147483647) = some (.int t) := by rw [ht]; exact o_mod (by decide)
    have d1 : oFdiv (.int t) (.int 65537) = some (.int (t.fdiv 65537)) := o_fdiv (by decide) (by decide)
    have bt : 0 ≤ t.fdiv 65537 ∧ t.fdiv 65537 ≤ t := by
      (rw [Int.fdiv_eq_ediv_of_nonneg _ (by decide)])
      omega
    have m4 := o_mul (i := t) (j := t.fdiv 65537 + 3) (sm.mu (sml (by omega)) (sml (by omega)))
    have m5 : oMod (.int (t * (t.fdiv 65537 + 3))) (.int 2147483629) = some (.int u) := by rw [hu]; exact o_mod (by decide)
    have d2 : oFdiv (.int u) (.int 19) = some (.int (u.fdiv 19)) := o_fdiv (by decide) (by decide)
    have ix : oIx (.lst (S.map D.int)) (.int (p.length : Nat)) = some (.int c) := by
      show atI (S.map D.int) (p.length : Nat) = _
      rw [atI_nat (by rw [List.length_map]; exact hp), ← e]
      simp
    have m6 := o_mod (i := u.fdiv 19) (j := c) (by omega)
    have hs : acc.length < sizeLine := by omega
    clear ht hu
    rw [ea, ← q, hr, List.map_cons, Int.zero_add, forL]
    revert m1 m2 m3 d1 m4 m5 d2 m6
    generalize s * 48271 = y1
    generalize 974711 * ((p.length : Nat) : Int) = y2
    generalize t.fdiv 65537 = y3
    generalize t * (y3 + 3) = y4
    generalize u.fdiv 19 = y5
    generalize y5.fmod c = y6
    intro m1 m2 m3 d1 m4 m5 d2 m6
    simp [m1, m2, m3, d1, m4, m5, d2, ix, m6, hs]
theorem p18 : oPowD (.int 10) (.int 18) = some (.int 1000000000000000000) := rfl
theorem digits_eq (c : Int) (S : List Int) (hS : S.length ≤ 1000) (okS : sizesOk S) : ∃ row, Fit row S ∧ m__law_digits [.int c, .lst (S.map D.int)] = .ok (.lst (row.map D.int)) := by
  have sb := size_big
  have z0 : 0 ≤ sizeLine := by omega
  by_cases h : (1000000000000000000 : Int) ≤ c
  · obtain ⟨row, r', z', ft, e⟩ := dig_loop1 (x0 := .d (.int c)) (x1 := .d (.lst (S.map D.int))) (x4 := .no) (x5 := .no) (x7 := .no) S [] (c - 1000000000000000000) .no okS (by simpa using hS)
    rw [List.nil_append] at e
    exact ⟨row, ft, by simp [m__law_digits, runB, p18, h, e]⟩
  · have fs := fmod_in c (k := 2147483629) (by decide)
    have m0 : oMod (.int c) (.int 2147483629) = some (.int (c.fmod 2147483629)) := o_mod (by decide)
    obtain ⟨row, s', z', z7', ft, e⟩ := dig_loop2 (x0 := .d (.int c)) (x3 := .d (.int c)) (x6 := .no) hS okS S [] [] (c.fmod 2147483629) .no .no rfl rfl fs.1 (by omega)
    rw [List.nil_append] at e
    have rg : S.length < 4611686018427387904 := by omega
    have hr : rangeD 0 S.length = (List.range' 0 S.length).map fun k => D.int (0 + (k : Nat)) := by
      unfold rangeD
      rw [List.range_eq_range']
    rw [List.length_nil, ← hr] at e
    revert e
    generalize hq : rangeD 0 S.length = rr
    intro e
    exact ⟨row, ft, by simp [m__law_digits, runB, p18, h, m0, rg, hq, e]⟩
end L2.DL.K71
namespace L2.DL.K71
open PySem PyProof.Rows PySem.Spec
open TL (tl numL)
theorem p45 : oPowD (.int 10) (.int 45) = some (.int 1000000000000000000000000000000000000000000000) := rfl
theorem p22 : oPowD (.int 10) (.int 22) = some (.int 10000000000000000000000) := rfl
theorem p9 : oPowD (.int 10) (.int 9) = some (.int 1000000000) := rfl
theorem smm {i : Int} (h : i.natAbs ≤ 1000000000000000000000000000000000000000000000000000000) : sm i := Nat.lt_of_le_of_lt h (by decide +kernel)
def small55 (t : Int) : Prop := t.natAbs < 1000000000000000000000000000000000000000000000000000000000
theorem s55 {t : Int} (h : small55 t) : t.natAbs < 10 ^ 60 := Nat.lt_of_lt_of_le h (by decide +kernel)
theorem big_eq {a b c d : Int} (ha : 0 ≤ a ∧ a < 96) (hb : 0 ≤ b ∧ b < 1000000000) (hc : 0 ≤ c ∧ c < 1000000000) (hd : 0 ≤ d ∧ d < 1000000000) : ∃ t, m__law_big [.lst [.int a, .int b, .int c, .int d]] = .ok (.int t) ∧ small55 t := by
  have l4 : 4 ≤ sizeLine := by decide
  have m13 : oMod (.int b) (.int 13) = some (.int (b.fmod 13)) := o_mod (by decide)
  have f13 := fmod_in b (k := 13) (by decide)
  have m1009 : oMod (.int b) (.int 1009) = some (.int (b.fmod 1009)) := o_mod (by decide)
  have f1009 := fmod_in b (k := 1009) (by decide)
  have x18 := o_mul (i := b) (j := 1000000000000000000) (sm.mu (sml (by omega)) (sml (by decide)))
  have x45 := o_mul (i := b) (j := 1000000000000000000000000000000000000000000000) (sm.mu (sml (by omega)) (smm (by decide)))
  have x22 := o_mul (i := c) (j := 10000000000000000000000) (sm.mu (sml (by omega)) (sml (by decide)))
  have m4 : oMod (.int a) (.int 4) = some (.int (a.fmod 4)) := o_mod (by decide)
  have f4 := fmod_in a (k := 4) (by decide)
  have d4 : oFdiv (.int a) (.int 4) = some (.int (a.fdiv 4)) := o_fdiv (by decide) (by decide)
  have m44 : oMod (.int (a.fdiv 4)) (.int 4) = some (.int ((a.fdiv 4).fmod 4)) := o_mod (by decide)
  have d16 : oFdiv (.int a) (.int 16) = some (.int (a.fdiv 16)) := o_fdiv (by decide) (by decide)
  have m2 : oMod (.int (a.fdiv 16)) (.int 2) = some (.int ((a.fdiv 16).fmod 2)) := o_mod (by decide)
  revert m13 f13 m1009 f1009 m4 f4 d4 m44 d16 m2
  generalize b.fmod 13 = y1
  generalize b.fmod 1009 = y2
  generalize (a.fdiv 4).fmod 4 = y4
  generalize a.fdiv 4 = y3
  generalize (a.fdiv 16).fmod 2 = y6
  generalize a.fdiv 16 = y5
  generalize a.fmod 4 = q
  intro m13 f13 m1009 f1009 m4 f4 d4 m44 d16 m2
  -- the number told first
  have pick : ∃ t, oIx (.lst [.int y1, .int y2, .int b, .int (b * 1000000000000000000 + c)]) (.int q) = some (.int t) ∧ small55 t := by
    have : q = 0 ∨ q = 1 ∨ q = 2 ∨ q = 3 := by omega
    rcases this with rfl | rfl | rfl | rfl
    · exact ⟨_, at0, by unfold small55; omega⟩
    · exact ⟨_, at1, by unfold small55; omega⟩
    · exact ⟨_, at2, by unfold small55; omega⟩
    · exact ⟨_, at3, by unfold small55; omega⟩
  obtain ⟨t, ht, bt⟩ := pick
  by_cases h3 : y4 = 3
  · subst h3
    by_cases h1 : y6 = 1
    · subst h1
      exact ⟨-(b * 1000000000000000000000000000000000000000000000 + c * 10000000000000000000000 + d), by simp [m__law_big, runB, l4, m13, m1009, p18, x18, m4, ht, d4, m44, p45, p22, x45, x22, d16, m2], by unfold small55; omega⟩
    · exact ⟨b * 1000000000000000000000000000000000000000000000 + c * 10000000000000000000000 + d, by simp [m__law_big, runB, l4, m13, m1009, p18, x18, m4, ht, d4, m44, p45, p22, x45, x22, d16, m2, h1], by unfold small55; omega⟩
  · by_cases h1 : y6 = 1
    · subst h1
      exact ⟨-t, by simp [m__law_big, runB, l4, m13, m1009, p18, x18, m4, ht, d4, m44, h3, d16, m2], by unfold small55 at bt ⊢; omega⟩
    · exact ⟨t, by simp [m__law_big, runB, l4, m13, m1009, p18, x18, m4, ht, d4, m44, h3, d16, m2, h1], bt⟩
/-! ### a motion -/
theorem bottoms {r : Int} (h : 0 ≤ r ∧ r < 12) : ∃ b : Int, oIx (.lst [.int 1, .int 2, .int 3, .int 1, .int 4, .int 5, .int 1, .int 6, .int 2, .int 7, .int 10, .int 12]) (.int r) = some (.int b) ∧ 0 < b ∧ b ≤ 12 := by
  have : r = 0 ∨ r = 1 ∨ r = 2 ∨ r = 3 ∨ r = 4 ∨ r = 5 ∨ r = 6 ∨ r = 7 ∨ r = 8 ∨ r = 9 ∨ r = 10 ∨ r = 11 := by omega
  rcases this with rfl | rfl | rfl | rfl | rfl | rfl | rfl | rfl | rfl | rfl | rfl | rfl <;> exact ⟨_, rfl, by decide, by decide⟩
theorem motion_eq {r0 r1 r2 r3 : Int} (h : 0 ≤ r0 ∧ r0 < 12) {size : Int} (hs : 1 ≤ size ∧ size ≤ 3) : ∃ ns b, m__law_motion [.lst [.int r0, .int r1, .int r2, .int r3], .int size, .int 40] = .ok (redD ns b) ∧ 0 < b ∧ b ≤ 12 ∧ ns ≠ [] ∧ ns.length ≤ 3 ∧ ∀ n ∈ ns, n.natAbs ≤ 1000 := by
  have l12 : 12 ≤ sizeLine := by decide
  have l1 : 1 ≤ sizeLine := by decide
  have l2 : 2 ≤ sizeLine := by decide
  have l3 : 3 ≤ sizeLine := by decide
  obtain ⟨b, ix, b0, b1⟩ := bottoms h
  have e80 : oMul (.int 2) (.int 40) = some (.int 80) := rfl
  have m80 := o_mul (i := 80) (j := b) (sm.mu (sml (by decide)) (sml (by omega)))
  have m40 := o_mul (i := 40) (j := b) (sm.mu (sml (by decide)) (sml (by omega)))
  have w0 : (80 * b + 1 : Int) ≠ 0 := by omega
  have mw := fun i => o_mod (i := i) w0
  have sb : sm b := sml (by omega)
  have f1 := fmod_in r1 (k := 80 * b + 1) (by omega)
  have f2 := fmod_in r2 (k := 80 * b + 1) (by omega)
  have f3 := fmod_in r3 (k := 80 * b + 1) (by omega)
  have hm1 := mw r1
  have hm2 := mw r2
  have hm3 := mw r3
  clear mw
  revert f1 f2 f3 hm1 hm2 hm3
  generalize r1.fmod (80 * b + 1) = v1
  generalize r2.fmod (80 * b + 1) = v2
  generalize r3.fmod (80 * b + 1) = v3
  intro f1 f2 f3 hm1 hm2 hm3
  have rd1 : rangeD 0 1 = [.int 0] := rfl
  have rd2 : rangeD 0 2 = [.int 0, .int 1] := rfl
  have rd3 : rangeD 0 3 = [.int 0, .int 1, .int 2] := rfl
  have : size = 1 ∨ size = 2 ∨ size = 3 := by omega
  rcases this with rfl | rfl | rfl
  · have re := reduced_eq (ns := [v1 - 40 * b]) b0 sb (by simp)
    refine ⟨[v1 - 40 * b], b, ?_, b0, b1, by simp, by simp, ?_⟩
    · have re : m__law_reduced [D.lst [D.int (v1 - 40 * b)], D.int b] = _ := re
      simp [m__law_motion, runB, l12, ix, e80, m80, m40, rd1, compL, hm1, l1, re]
    · intro n hn
      rw [List.mem_singleton.mp hn]
      omega
  · have re := reduced_eq (ns := [v1 - 40 * b, v2 - 40 * b]) b0 sb (by simp)
    refine ⟨[v1 - 40 * b, v2 - 40 * b], b, ?_, b0, b1, by simp, by simp, ?_⟩
    · have re : m__law_reduced [D.lst [D.int (v1 - 40 * b), D.int (v2 - 40 * b)], D.int b] = _ := re
      simp [m__law_motion, runB, l12, ix, e80, m80, m40, rd2, compL, hm1, hm2, l2, re]
    · intro n hn
      rcases List.mem_cons.mp hn with rfl | hn
      · omega
      · rw [List.mem_singleton.mp hn]; omega
  · have re := reduced_eq (ns := [v1 - 40 * b, v2 - 40 * b, v3 - 40 * b]) b0 sb (by simp)
    refine ⟨[v1 - 40 * b, v2 - 40 * b, v3 - 40 * b], b, ?_, b0, b1, by simp, by simp, ?_⟩
    · have re : m__law_reduced [D.lst [D.int (v1 - 40 * b), D.int (v2 - 40 * b), D.int (v3 - 40 * b)], D.int b] = _ := re
      simp [m__law_motion, runB, l12, ix, e80, m80, m40, rd3, compL, hm1, hm2, hm3, l3, re]
    · intro n hn
      rcases List.mem_cons.mp hn with rfl | hn
      · omega
      · rcases List.mem_cons.mp hn with rfl | hn
        · omega
        · rw [List.mem_singleton.mp hn]; omega
end L2.DL.K71
namespace L2.DL.K71
open PySem PyProof.Rows PySem.Spec
open TL (tl numL)
theorem rep_ex {z : Str} {n : Int} (h : 1 < n ∧ 0 < z.length ∧ z.length * n.toNat ≤ 1000000) (h2 : (⟨(List.replicate n.toNat z.cps).foldl (· ++ ·) #[]⟩ : Str).length ≤ 100) : ∃ s, oMul (.str z) (.int n) = some (.str s) ∧ s.length ≤ 100 := ⟨_, rep_ok h, h2⟩
theorem r61 : ∃ s, oMul (.str ("1" : Str)) (.int 61) = some (.str s) ∧ s.length ≤ 100 := rep_ex (by decide +kernel) (by decide +kernel)
theorem r60 : ∃ s, oMul (.str ("1" : Str)) (.int 60) = some (.str s) ∧ s.length ≤ 100 := rep_ex (by decide +kernel) (by decide +kernel)
theorem n60 : ∃ s, oMul (.str ("9" : Str)) (.int 60) = some (.str s) ∧ s.length ≤ 100 := rep_ex (by decide +kernel) (by decide +kernel)
theorem n61 : ∃ s, oMul (.str ("9" : Str)) (.int 61) = some (.str s) ∧ s.length ≤ 100 := rep_ex (by decide +kernel) (by decide +kernel)
theorem t60 : ∃ s, oMul (.str ("3" : Str)) (.int 60) = some (.str s) ∧ s.length ≤ 100 := rep_ex (by decide +kernel) (by decide +kernel)
theorem t61 : ∃ s, oMul (.str ("3" : Str)) (.int 61) = some (.str s) ∧ s.length ≤ 100 := rep_ex (by decide +kernel) (by decide +kernel)
theorem spoilt_eq {w : Str} (h : w.length ≤ 5000) (r : Int) : ∃ xs, m__law_spoilt [.str w, .lst [.int r]] = .ok (.lst xs) ∧ xs.all isS = true := by
  have sb := size_big
  obtain ⟨s1, e1, k1⟩ := r61
  obtain ⟨s2, e2, k2⟩ := r60
  obtain ⟨s3, e3, k3⟩ := n60
  obtain ⟨s4, e4, k4⟩ := n61
  obtain ⟨s5, e5, k5⟩ := t60
  obtain ⟨s6, e6, k6⟩ := t61
  have w0 : (w.length : Int) + 1 ≠ 0 := by omega
  have m := o_mod (i := r) w0
  obtain ⟨a, ha⟩ : ∃ a, a = r.fmod ((w.length : Int) + 1) := ⟨_, rfl⟩
  rw [← ha] at m
  clear ha
  have hl : w.length ≤ sizeLine := by omega
  have c1 : oCut (.str w) none (some a) = some (.str (cutS w none (some a))) := cut_some hl
  have c2 : oCut (.str w) (some a) none = some (.str (cutS w (some a) none)) := cut_some hl
  have c3 : oCut (.str w) (some (a + 1)) none = some (.str (cutS w (some (a + 1)) none)) := cut_some hl
  have q1 : (cutS w none (some a)).length ≤ 5000 := Nat.le_trans cut_len h
  have q2 : (cutS w (some a) none).length ≤ 5000 := Nat.le_trans cut_len h
  have q3 : (cutS w (some (a + 1)) none).length ≤ 5000 := Nat.le_trans cut_len h
  revert c1 c2 c3 q1 q2 q3
  generalize cutS w none (some a) = u1
  generalize cutS w (some a) none = u2
  generalize cutS w (some (a + 1)) none = u3
  intro c1 c2 c3 q1 q2 q3
  have up : gUpper w [] = some (.str (Txt.upper w)) := if_pos (by omega)
  have lu := upper_len w
  revert up lu
  generalize Txt.upper w = uw
  intro up lu
  have l0 : ("0" : Str).length = 1 := by decide +kernel
  have l1_ : ("/" : Str).length = 1 := by decide +kernel
  have f1 : oAdd (.str ("0" : Str)) (.str w) = some (.str (("0" : Str) ++ w)) := add_ok (by first | decide +kernel | omega | (rw [len_app, l0]; omega) | (rw [len_app, l1_]; omega)) (by first | decide +kernel | omega)
  have f2 : oAdd (.str ("+" : Str)) (.str w) = some (.str (("+" : Str) ++ w)) := add_ok (by first | decide +kernel | omega | (rw [len_app, l0]; omega) | (rw [len_app, l1_]; omega)) (by first | decide +kernel | omega)
  have f3 : oAdd (.str ("-" : Str)) (.str w) = some (.str (("-" : Str) ++ w)) := add_ok (by first | decide +kernel | omega | (rw [len_app, l0]; omega) | (rw [len_app, l1_]; omega)) (by first | decide +kernel | omega)
  have f4 : oAdd (.str w) (.str ("/1" : Str)) = some (.str (w ++ ("/1" : Str))) := add_ok (by first | decide +kernel | omega | (rw [len_app, l0]; omega) | (rw [len_app, l1_]; omega)) (by first | decide +kernel | omega)
  have f5 : oAdd (.str w) (.str ("/0" : Str)) = some (.str (w ++ ("/0" : Str))) := add_ok (by first | decide +kernel | omega | (rw [len_app, l0]; omega) | (rw [len_app, l1_]; omega)) (by first | decide +kernel | omega)
  have f6 : oAdd (.str w) (.str ("/" : Str)) = some (.str (w ++ ("/" : Str))) := add_ok (by first | decide +kernel | omega | (rw [len_app, l0]; omega) | (rw [len_app, l1_]; omega)) (by first | decide +kernel | omega)
  have f7 : oAdd (.str ("/" : Str)) (.str w) = some (.str (("/" : Str) ++ w)) := add_ok (by first | decide +kernel | omega | (rw [len_app, l0]; omega) | (rw [len_app, l1_]; omega)) (by first | decide +kernel | omega)
  have f8 : oAdd (.str w) (.str (" " : Str)) = some (.str (w ++ (" " : Str))) := add_ok (by first | decide +kernel | omega | (rw [len_app, l0]; omega) | (rw [len_app, l1_]; omega)) (by first | decide +kernel | omega)
  have f9 : oAdd (.str (" " : Str)) (.str w) = some (.str ((" " : Str) ++ w)) := add_ok (by first | decide +kernel | omega | (rw [len_app, l0]; omega) | (rw [len_app, l1_]; omega)) (by first | decide +kernel | omega)
  have f10 : oAdd (.str w) (.str ("\n" : Str)) = some (.str (w ++ ("\n" : Str))) := add_ok (by first | decide +kernel | omega | (rw [len_app, l0]; omega) | (rw [len_app, l1_]; omega)) (by first | decide +kernel | omega)
  have f11 : oAdd (.str w) (.str ("a" : Str)) = some (.str (w ++ ("a" : Str))) := add_ok (by first | decide +kernel | omega | (rw [len_app, l0]; omega) | (rw [len_app, l1_]; omega)) (by first | decide +kernel | omega)
  have f12 : oAdd (.str u1) (.str ("0" : Str)) = some (.str (u1 ++ ("0" : Str))) := add_ok (by first | decide +kernel | omega | (rw [len_app, l0]; omega) | (rw [len_app, l1_]; omega)) (by first | decide +kernel | omega)
  have f13 : oAdd (.str (u1 ++ ("0" : Str))) (.str u2) = some (.str ((u1 ++ ("0" : Str)) ++ u2)) := add_ok (by first | decide +kernel | omega | (rw [len_app, l0]; omega) | (rw [len_app, l1_]; omega)) (by first | decide +kernel | omega)
  have f14 : oAdd (.str u1) (.str u3) = some (.str (u1 ++ u3)) := add_ok (by first | decide +kernel | omega | (rw [len_app, l0]; omega) | (rw [len_app, l1_]; omega)) (by first | decide +kernel | omega)
  have f15 : oAdd (.str u1) (.str ("/" : Str)) = some (.str (u1 ++ ("/" : Str))) := add_ok (by first | decide +kernel | omega | (rw [len_app, l0]; omega) | (rw [len_app, l1_]; omega)) (by first | decide +kernel | omega)
  have f16 : oAdd (.str (u1 ++ ("/" : Str))) (.str u2) = some (.str ((u1 ++ ("/" : Str)) ++ u2)) := add_ok (by first | decide +kernel | omega | (rw [len_app, l0]; omega) | (rw [len_app, l1_]; omega)) (by first | decide +kernel | omega)
  have f17 : oAdd (.str ("-" : Str)) (.str s3) = some (.str (("-" : Str) ++ s3)) := add_ok (by first | decide +kernel | omega | (rw [len_app, l0]; omega) | (rw [len_app, l1_]; omega)) (by first | decide +kernel | omega)
  have f18 : oAdd (.str ("-" : Str)) (.str s4) = some (.str (("-" : Str) ++ s4)) := add_ok (by first | decide +kernel | omega | (rw [len_app, l0]; omega) | (rw [len_app, l1_]; omega)) (by first | decide +kernel | omega)
  have f19 : oAdd (.str ("1/" : Str)) (.str s5) = some (.str (("1/" : Str) ++ s5)) := add_ok (by first | decide +kernel | omega | (rw [len_app, l0]; omega) | (rw [len_app, l1_]; omega)) (by first | decide +kernel | omega)
  have f20 : oAdd (.str ("1/" : Str)) (.str s6) = some (.str (("1/" : Str) ++ s6)) := add_ok (by first | decide +kernel | omega | (rw [len_app, l0]; omega) | (rw [len_app, l1_]; omega)) (by first | decide +kernel | omega)
  have f21 : oAdd (.str w) (.str ("/" : Str)) = some (.str (w ++ ("/" : Str))) := add_ok (by first | decide +kernel | omega | (rw [len_app, l0]; omega) | (rw [len_app, l1_]; omega)) (by first | decide +kernel | omega)
  have f22 : oAdd (.str (w ++ ("/" : Str))) (.str w) = some (.str ((w ++ ("/" : Str)) ++ w)) := add_ok (by first | decide +kernel | omega | (rw [len_app, l0]; omega) | (rw [len_app, l1_]; omega)) (by first | decide +kernel | omega)
  have n9 : 9 ≤ sizeLine := by omega
  have n8 : 8 ≤ sizeLine := by omega
  have n6 : 6 ≤ sizeLine := by omega
  have n17 : 17 ≤ sizeLine := by omega
  have n25 : 25 ≤ sizeLine := by omega
  have n31 : 31 ≤ sizeLine := by omega
  refine ⟨[.str (("0" : Str) ++ w), .str (("+" : Str) ++ w), .str (("-" : Str) ++ w), .str (w ++ ("/1" : Str)), .str (w ++ ("/0" : Str)), .str (w ++ ("/" : Str)), .str (("/" : Str) ++ w), .str (w ++ (" " : Str)), .str ((" " : Str) ++ w), .str (w ++ ("\n" : Str)), .str (w ++ ("a" : Str)), .str ((u1 ++ ("0" : Str)) ++ u2), .str (u1 ++ u3), .str ("" : Str), .str ("-0" : Str), .str ("-" : Str), .str ("00" : Str), .str ((u1 ++ ("/" : Str)) ++ u2), .str ("2/4" : Str), .str ("0/5" : Str), .str ("-3/6" : Str), .str s1, .str s2, .str (("-" : Str) ++ s3), .str (("-" : Str) ++ s4), .str (("1/" : Str) ++ s5), .str (("1/" : Str) ++ s6), .str uw, .str ("7_0" : Str), .str ("1.0" : Str), .str ((w ++ ("/" : Str)) ++ w)], ?_, ?_⟩
  · simp [m__law_spoilt, runB, m, hl, c1, c2, c3, e1, e2, e3, e4, e5, e6, up, f1, f2, f3, f4, f5, f6, f7, f8, f9, f10, f11, f12, f13, f14, f15, f16, f17, f18, f19, f20, f21, f22, n9, n8, n6, n17, n25, n31]
  · simp only [List.all_cons, List.all_nil, Bool.and_true, Bool.and_eq_true]
    have z0 : ("/1" : Str).length ≤ 2 := by decide +kernel
    have z1 : ("/0" : Str).length ≤ 2 := by decide +kernel
    have z2 : (" " : Str).length ≤ 2 := by decide +kernel
    have z3 : ("\n" : Str).length ≤ 2 := by decide +kernel
    have z4 : ("a" : Str).length ≤ 2 := by decide +kernel
    have z5 : ("+" : Str).length ≤ 2 := by decide +kernel
    have z6 : ("-" : Str).length ≤ 2 := by decide +kernel
    have z7 : ("0" : Str).length ≤ 2 := by decide +kernel
    have z8 : ("/" : Str).length ≤ 2 := by decide +kernel
    have z9 : ("1/" : Str).length ≤ 2 := by decide +kernel
    exact ⟨isS_str (by simp only [len_app]; omega), isS_str (by simp only [len_app]; omega), isS_str (by simp only [len_app]; omega), isS_str (by simp only [len_app]; omega), isS_str (by simp only [len_app]; omega), isS_str (by simp only [len_app]; omega), isS_str (by simp only [len_app]; omega), isS_str (by simp only [len_app]; omega), isS_str (by simp only [len_app]; omega), isS_str (by simp only [len_app]; omega), isS_str (by simp only [len_app]; omega), isS_str (by simp only [len_app]; omega), isS_str (by simp only [len_app]; omega), by decide +kernel, by decide +kernel, by decide +kernel, by decide +kernel, isS_str (by simp only [len_app]; omega), by decide +kernel, by decide +kernel, by decide +kernel, isS_str (by omega), isS_str (by omega), isS_str (by simp only [len_app]; omega), isS_str (by simp only [len_app]; omega), isS_str (by simp only [len_app]; omega), isS_str (by simp only [len_app]; omega), isS_str (by omega), by decide +kernel, by decide +kernel, isS_str (by simp only [len_app]; omega)⟩
end L2.DL.K71
namespace L2.DL.K71
open PySem PyProof.Rows PySem.Spec
open TL (tl numL)
theorem nb {w : Str} : oNe (.lst [.str ("bad" : Str), .str w, .bl true]) (.lst [.str ("bad" : Str), .str w, .bl true]) = some (.bl false) := n_refl rfl
theorem nt {q : Q} : oNe (.lst [.str ("told" : Str), pair q]) (.lst [.str ("told" : Str), pair q]) = some (.bl false) := n_refl rfl
abbrev inB_ : MS := sSeq (sAsg (eCallN m__law_read (aCons (eV 8) aNil)) (gN 11))
    (sSeq (sIf (cAnd (cE (eOp oIs (eV 11) (eC .non))) (cE (eOp oNe (eCallN m__law_asked (aCons (eV 8) aNil)) (eFn oLst (aCons (eC (.str ("bad" : Str))) (aCons (eV 8) (aCons (eC (.bl true)) aNil))))))) (sRet (eC (.bl false))) sNx)
    (sIf (cAnd (cE (eOp oIsNot (eV 11) (eC .non))) (cE (eOp oNe (eCallN m__law_asked (aCons (eV 8) aNil)) (eFn oLst (aCons (eC (.str ("told" : Str))) (aCons (eV 11) aNil)))))) (sRet (eC (.bl false))) sNx))
theorem in_step {w : Str} (h : w.length ≤ 1000000) {x0 x1 x2 x3 x4 x5 x6 x7 x9 x10 y11 : Sl} : ∃ z, inB_ [x0, x1, x2, x3, x4, x5, x6, x7, .d (.str w), x9, x10, y11] = .ok (.nx [x0, x1, x2, x3, x4, x5, x6, x7, .d (.str w), x9, x10, z]) := by
  have sb := size_big
  have hz : 1000002 ≤ sizeLine := by decide
  have l2 : 2 ≤ sizeLine := by omega
  have l3 : 3 ≤ sizeLine := by omega
  have r := lread_eq (w := w) (by omega)
  have a := asked_eq (w := w) (by omega)
  unfold rdD at r
  unfold askD at a
  cases q : rd w with
  | none =>
    rw [q] at r a
    have i1 : oIs .non .non = some (.bl true) := rfl
    have i2 : oIsNot .non .non = some (.bl false) := rfl
    exact ⟨.d .non, by simp [r, a, i1, i2, l3, nb]⟩
  | some p =>
    rw [q] at r a
    have i1 : oIs (pair p) .non = some (.bl false) := rfl
    have i2 : oIsNot (pair p) .non = some (.bl true) := rfl
    exact ⟨.d (pair p), by simp [r, a, i1, i2, l2, nt]⟩
theorem in_loop {x0 x1 x2 x3 x4 x5 x6 x7 x9 x10 : Sl} : ∀ (xs : List D) (y8 y11 : Sl), xs.all isS = true → ∃ z8 z11, forL (gN 8) inB_ xs [x0, x1, x2, x3, x4, x5, x6, x7, y8, x9, x10, y11] = .ok (.nx [x0, x1, x2, x3, x4, x5, x6, x7, z8, x9, x10, z11])
  | [], y8, y11, _ => ⟨y8, y11, rfl⟩
  | d :: xs, y8, y11, h => by
    (rw [List.all_cons, Bool.and_eq_true] at h)
    obtain ⟨w, rfl, hw⟩ := isS_of h.1
    obtain ⟨z, e⟩ := in_step hw (x0 := x0) (x1 := x1) (x2 := x2) (x3 := x3) (x4 := x4) (x5 := x5) (x6 := x6) (x7 := x7) (x9 := x9) (x10 := x10) (y11 := y11)
    obtain ⟨z8, z11, e2⟩ := in_loop (x0 := x0) (x1 := x1) (x2 := x2) (x3 := x3) (x4 := x4) (x5 := x5) (x6 := x6) (x7 := x7) (x9 := x9) (x10 := x10) xs (.d (.str w)) z h.2
    refine ⟨z8, z11, ?_⟩
    rw [forL]
    show ((inB_ [x0, x1, x2, x3, x4, x5, x6, x7, .d (.str w), x9, x10, y11]).bind _) = _
    rw [e]
    exact e2
/-- a pair in lowest terms -/
def good (q : Q) : Prop := q.1.natAbs < 10 ^ 60 ∧ q.2.natAbs < 10 ^ 60 ∧ 1 ≤ q.2 ∧ Nat.gcd q.1.natAbs q.2.natAbs = 1
theorem good_low {a b : Int} (ha : a.natAbs < 10 ^ 60) (hb : 0 < b) (hb2 : b.natAbs < 10 ^ 60) : good (lowest a b) := low_fit ha hb hb2
abbrev pairB : MS := sSeq (sAsg (eCallN m__law_ratio_text (aCons (eOp oIx (eV 4) (eC (.int 0))) (aCons (eOp oIx (eV 4) (eC (.int 1))) aNil))) (gN 10))
    (sSeq (sIf (cOr (cE (eOp oNe (eCallN m_write_ratio (aCons (eV 4) aNil)) (eV 10))) (cE (eOp oNe (eCallN m__law_asked (aCons (eV 10) aNil)) (eFn oLst (aCons (eC (.str ("told" : Str))) (aCons (eV 4) aNil)))))) (sRet (eC (.bl false))) sNx)
    (sFor (iSq (eCallN m__law_spoilt (aCons (eV 10) (aCons (eCallN m__law_digits (aCons (eCallN m__law_cell (aCons (eV 0) (aCons (eC (.int 2)) aNil))) (aCons (eFn oLst (aCons (eC (.int 997)) aNil)) aNil))) aNil)))) (gN 8) inB_))
theorem fit_cons {row ss : List Int} {s : Int} (h : Fit row (s :: ss)) : ∃ a r, row = a :: r ∧ 0 ≤ a ∧ a < s ∧ Fit r ss := by
  cases row with
  | nil => exact h.elim
  | cons a r => exact ⟨a, r, rfl, h.1, h.2.1, h.2.2⟩
theorem fit_nil {row : List Int} (h : Fit row []) : row = [] := by
  cases row with
  | nil => rfl
  | cons a r => exact h.elim
theorem dig1 (c s : Int) (hs : 0 < s ∧ s ≤ 1000000000) : ∃ r, m__law_digits [.int c, .lst [.int s]] = .ok (.lst [.int r]) := by
  obtain ⟨row, f, e⟩ := digits_eq c [s] (by simp) fun x hx => by rw [List.mem_singleton.mp hx]; exact hs
  obtain ⟨a, r, rfl, _, _, f⟩ := fit_cons f
  cases fit_nil f
  exact ⟨a, e⟩
theorem pair_step {ns : List Int} {q : Q} (g : good q) {x1 x2 x3 x5 x6 x7 x9 y8 y10 y11 : Sl} : ∃ z8 z10 z11, pairB [.d (script ns), x1, x2, x3, .d (pair q), x5, x6, x7, y8, x9, y10, y11] = .ok (.nx [.d (script ns), x1, x2, x3, .d (pair q), x5, x6, x7, z8, x9, z10, z11]) := by
  obtain ⟨g1, g2, g3, g4⟩ := g
  have sb := size_big
  have l1 : 1 ≤ sizeLine := by omega
  have l2 : 2 ≤ sizeLine := by omega
  have ix0 : oIx (pair q) (.int 0) = some (.int q.1) := rfl
  have ix1 : oIx (pair q) (.int 1) = some (.int q.2) := rfl
  have rt := rtext_eq (a := q.1) (b := q.2) (by omega) g1 g2
  rw [lowest_self g4] at rt
  have wr := wratio_eq g1 g2
  have tl_ := txt_len g1 g2
  have as := asked_eq (w := txt q) (by omega)
  have ad : askD (txt q) = .lst [.str "told", pair q] := by unfold askD; rw [rd_txt g1 g2 g3 g4]
  rw [ad] at as
  obtain ⟨c, hc⟩ := cell_eq ns 2 (by decide)
  have hc : m__law_cell [script ns, .int 2] = .ok (.int c) := hc
  obtain ⟨r, hr⟩ := dig1 c 997 (by decide)
  obtain ⟨xs, hx, ha⟩ := spoilt_eq (w := txt q) (by omega) r
  obtain ⟨z8, z11, e⟩ := in_loop (x0 := .d (script ns)) (x1 := x1) (x2 := x2) (x3 := x3) (x4 := .d (pair q)) (x5 := x5) (x6 := x6) (x7 := x7) (x9 := x9) (x10 := .d (.str (txt q))) xs y8 y11 ha
  have rt : m__law_ratio_text [.int q.1, .int q.2] = .ok (.str (txt q)) := rt
  refine ⟨z8, .d (.str (txt q)), z11, ?_⟩
  revert rt wr as hx e
  generalize txt q = w
  generalize hB : inB_ = B
  intro rt wr as hx e
  simp [pairB, hB, ix0, ix1, rt, wr, as, l1, l2, nt, hc, hr, hx, e]
end L2.DL.K71
namespace L2.DL.K71
open PySem PyProof.Rows PySem.Spec
open TL (tl numL)
theorem join_snoc (S p : List Nat) : ∀ l : List (List Nat), l ≠ [] → TL.joinL S (l ++ [p]) = TL.joinL S l ++ (S ++ p)
  | [], h => absurd rfl h
  | [a], _ => rfl
  | a :: b :: l, _ => by
    have ih := join_snoc S p (b :: l) (by simp)
    show a ++ (S ++ TL.joinL S ((b :: l) ++ [p])) = a ++ (S ++ TL.joinL S (b :: l)) ++ (S ++ p)
    rw [ih, List.append_assoc, List.append_assoc]
theorem join_len (S : List Nat) (k : Nat) : ∀ l : List (List Nat), (∀ p ∈ l, p.length ≤ k) → (TL.joinL S l).length ≤ l.length * (k + S.length)
  | [], _ => by simp [TL.joinL]
  | [a], h => by
    have := h a (by simp)
    show a.length ≤ _
    (simp only [List.length_cons, List.length_nil])
    omega
  | a :: b :: l, h => by
    have h1 := h a (by simp)
    have ih := join_len S k (b :: l) fun p hp => h p (by simp [hp])
    show (a ++ (S ++ TL.joinL S (b :: l))).length ≤ (l.length + 1 + 1) * (k + S.length)
    rw [List.length_append, List.length_append, Nat.succ_mul]
    rw [List.length_cons] at ih
    omega
theorem tl_ptxt (ms : List Int) (b : Int) : tl (ptxt ms b) = TL.joinL [32] ((ms.map fun m => txt (lowest m b)).map tl) := by
  unfold ptxt
  rw [TL.join_eq, TL.tl_join, tl_space]
theorem ptxt_len {ms : List Int} {b : Int} (h : fits ms b) (hl : ms.length ≤ 3) : (ptxt ms b).length ≤ 1000 := by
  rw [TL.len_tl, tl_ptxt]
  refine Nat.le_trans (join_len [32] 123 _ fun p hp => ?_) ?_
  · obtain ⟨w, hw, rfl⟩ := List.mem_map.mp hp
    rw [← TL.len_tl]
    exact parts_fit h w hw
  · rw [List.length_map, List.length_map]
    show ms.length * 124 ≤ 1000
    omega
theorem tl_more : tl (" 1 2 3" : Str) = [32, 49, 32, 50, 32, 51] := by decide +kernel
theorem more_words {ms : List Int} {b : Int} (hne : ms ≠ []) : words (ptxt ms b ++ " 1 2 3") = (ms.map fun m => txt (lowest m b)) ++ (["1", "2", "3"] : List Str) := by
  have e : ptxt ms b ++ " 1 2 3" = Txt.join " " ((ms.map fun m => txt (lowest m b)) ++ (["1", "2", "3"] : List Str)) := by
    refine TL.ext_tl ?_
    have n1 : (ms.map fun m => txt (lowest m b)).map tl ≠ [] := fun e => hne (List.map_eq_nil_iff.mp (List.map_eq_nil_iff.mp e))
    have t1 : tl ("1" : Str) = [49] := by decide +kernel
    have t2 : tl ("2" : Str) = [50] := by decide +kernel
    have t3 : tl ("3" : Str) = [51] := by decide +kernel
    rw [TL.tl_append, tl_ptxt, tl_more, TL.join_eq, TL.tl_join, tl_space, List.map_append]
    show _ = TL.joinL [32] (_ ++ [tl ("1" : Str), tl ("2" : Str), tl ("3" : Str)])
    rw [t1, t2, t3]
    generalize (ms.map fun m => txt (lowest m b)).map tl = l at n1
    have e3 : l ++ [[49], [50], [51]] = ((l ++ [[49]]) ++ [[50]]) ++ [[51]] := by simp
    rw [e3, join_snoc _ _ _ (by simp), join_snoc _ _ _ (by simp), join_snoc _ _ _ n1]
    simp
  rw [e]
  refine TL.split_join tl_space kind_space (by simp) fun p hp => ?_
  (rcases List.mem_append.mp hp with hp | hp)
  · obtain ⟨m, _, rfl⟩ := List.mem_map.mp hp
    exact txt_signs
  · simp only [List.mem_cons, List.not_mem_nil, or_false] at hp
    rcases hp with rfl | rfl | rfl <;> decide +kernel
theorem r1s : (rd "1").isNone = false := by decide +kernel
theorem r2s : (rd "2").isNone = false := by decide +kernel
theorem r3s : (rd "3").isNone = false := by decide +kernel
theorem more_ask {ms : List Int} {b : Int} (h : fits ms b) (hne : ms ≠ []) : ptAsk (ptxt ms b ++ " 1 2 3") = .lst [.str "bad", .str (ptxt ms b ++ " 1 2 3"), .bl true] := by
  have hw := more_words (b := b) hne
  have hb : bad ((ms.map fun m => txt (lowest m b)) ++ (["1", "2", "3"] : List Str)) = none := by
    refine List.find?_eq_none.mpr fun w hw => ?_
    rcases List.mem_append.mp hw with hw | hw
    · obtain ⟨m, hm, rfl⟩ := List.mem_map.mp hw
      obtain ⟨h1, h2, h3, h4⟩ := low_fit (h.1 m hm) h.2.1 h.2.2
      rw [rd_txt h1 h2 h3 h4]
      exact Bool.false_ne_true
    · simp only [List.mem_cons, List.not_mem_nil, or_false] at hw
      rcases hw with rfl | rfl | rfl
      · rw [r1s]; exact Bool.false_ne_true
      · rw [r2s]; exact Bool.false_ne_true
      · rw [r3s]; exact Bool.false_ne_true
  unfold ptAsk
  rw [hw, hb]
  show (if _ then _ else _) = _
  rw [if_pos]
  rw [List.length_append, List.length_map]
  have : ms.length ≠ 0 := fun e => hne (List.length_eq_zero_iff.mp e)
  show 3 < ms.length + 3
  omega
theorem xy : bad (words "1 x y") = some ("x" : Str) := by decide +kernel
theorem xy_ask : ptAsk "1 x y" = .lst [.str "bad", .str "x", .bl true] := by
  unfold ptAsk
  rw [xy]
theorem dep_red (ns : List Int) (B : Int) (n : Nat) : (redD ns B).dep (n + 1) = true := by
  show (ns.map _ ++ [D.int _]).all (D.dep n) = true
  rw [List.all_append]
  have : (ns.map fun m => D.int (m.fdiv (gl B.natAbs ns : Nat))) = (ns.map fun m => m.fdiv (gl B.natAbs ns : Nat)).map D.int := by rw [List.map_map]; rfl
  rw [this, dep_ints]
  cases n <;> rfl
theorem dep_ask (t : Str) : (ptAsk t).dep 30 = true := by
  unfold ptAsk
  split
  · rfl
  · split
    · rfl
    · show ([D.str "told", ptD fMulq _] : List D).all (D.dep 29) = true
      rw [List.all_cons, List.all_cons]
      unfold ptD
      rw [dep_red]
      rfl
abbrev ptB : MS := sIf (cE (eOp oNe (eCallN m__law_point_asked (aCons (eV 8) aNil)) (eCallN m__law_point_due (aCons (eV 8) aNil)))) (sRet (eC (.bl false))) sNx
theorem pt_loop {x0 x1 x2 x3 x4 x5 x6 x7 x9 x10 x11 : Sl} : ∀ (xs : List D) (y8 : Sl), xs.all isS = true → ∃ z8, forL (gN 8) ptB xs [x0, x1, x2, x3, x4, x5, x6, x7, y8, x9, x10, x11] = .ok (.nx [x0, x1, x2, x3, x4, x5, x6, x7, z8, x9, x10, x11])
  | [], y8, _ => ⟨y8, rfl⟩
  | d :: xs, y8, h => by
    (rw [List.all_cons, Bool.and_eq_true] at h)
    obtain ⟨w, rfl, hw⟩ := isS_of h.1
    have hz : 1000002 ≤ sizeLine := by decide
    have e1 := pasked_eq (t := w) (by omega)
    have e2 := due_eq (t := w) (by omega)
    have e3 := n_refl (dep_ask w)
    obtain ⟨z8, e⟩ := pt_loop (x0 := x0) (x1 := x1) (x2 := x2) (x3 := x3) (x4 := x4) (x5 := x5) (x6 := x6) (x7 := x7) (x9 := x9) (x10 := x10) (x11 := x11) xs (.d (.str w)) h.2
    refine ⟨z8, ?_⟩
    have st : ptB [x0, x1, x2, x3, x4, x5, x6, x7, .d (.str w), x9, x10, x11] = .ok (.nx [x0, x1, x2, x3, x4, x5, x6, x7, .d (.str w), x9, x10, x11]) := by
      revert e1 e2 e3
      generalize ptAsk w = a
      intro e1 e2 e3
      simp [e1, e2, e3]
    rw [forL]
    show ((ptB [x0, x1, x2, x3, x4, x5, x6, x7, .d (.str w), x9, x10, x11]).bind _) = _
    rw [st]
    exact e
theorem pair_loop {ns : List Int} {x1 x2 x3 x5 x6 x7 x9 : Sl} : ∀ (qs : List Q) (y4 y8 y10 y11 : Sl), (∀ q ∈ qs, good q) → ∃ z4 z8 z10 z11, forL (gN 4) pairB (qs.map pair) [.d (script ns), x1, x2, x3, y4, x5, x6, x7, y8, x9, y10, y11] = .ok (.nx [.d (script ns), x1, x2, x3, z4, x5, x6, x7, z8, x9, z10, z11])
  | [], y4, y8, y10, y11, _ => ⟨y4, y8, y10, y11, rfl⟩
  | q :: qs, y4, y8, y10, y11, h => by
    obtain ⟨z8, z10, z11, e⟩ := pair_step (ns := ns) (h q (by simp)) (x1 := x1) (x2 := x2) (x3 := x3) (x5 := x5) (x6 := x6) (x7 := x7) (x9 := x9) (y8 := y8) (y10 := y10) (y11 := y11)
    obtain ⟨w4, w8, w10, w11, e2⟩ := pair_loop (ns := ns) (x1 := x1) (x2 := x2) (x3 := x3) (x5 := x5) (x6 := x6) (x7 := x7) (x9 := x9) qs (.d (pair q)) z8 z10 z11 fun x hx => h x (by simp [hx])
    refine ⟨w4, w8, w10, w11, ?_⟩
    rw [List.map_cons, forL]
    show ((pairB [.d (script ns), x1, x2, x3, .d (pair q), x5, x6, x7, y8, x9, y10, y11]).bind _) = _
    rw [e]
    exact e2
end L2.DL.K71
namespace L2.DL.K71
open PySem PyProof.Rows PySem.Spec
open TL (tl numL)
theorem fit9 {row : List Int} {s0 s1 s2 s3 s4 s5 s6 s7 s8 : Int} (h : Fit row [s0, s1, s2, s3, s4, s5, s6, s7, s8]) : ∃ a0 a1 a2 a3 a4 a5 a6 a7 a8, row = [a0, a1, a2, a3, a4, a5, a6, a7, a8] ∧ (0 ≤ a0 ∧ a0 < s0) ∧ (0 ≤ a1 ∧ a1 < s1) ∧ (0 ≤ a2 ∧ a2 < s2) ∧ (0 ≤ a3 ∧ a3 < s3) ∧ (0 ≤ a4 ∧ a4 < s4) ∧ (0 ≤ a5 ∧ a5 < s5) ∧ (0 ≤ a6 ∧ a6 < s6) ∧ (0 ≤ a7 ∧ a7 < s7) ∧ (0 ≤ a8 ∧ a8 < s8) := by
  obtain ⟨a0, r0, rfl, p0, q0, h⟩ := fit_cons h
  obtain ⟨a1, r1, rfl, p1, q1, h⟩ := fit_cons h
  obtain ⟨a2, r2, rfl, p2, q2, h⟩ := fit_cons h
  obtain ⟨a3, r3, rfl, p3, q3, h⟩ := fit_cons h
  obtain ⟨a4, r4, rfl, p4, q4, h⟩ := fit_cons h
  obtain ⟨a5, r5, rfl, p5, q5, h⟩ := fit_cons h
  obtain ⟨a6, r6, rfl, p6, q6, h⟩ := fit_cons h
  obtain ⟨a7, r7, rfl, p7, q7, h⟩ := fit_cons h
  obtain ⟨a8, r8, rfl, p8, q8, h⟩ := fit_cons h
  cases fit_nil h
  exact ⟨a0, a1, a2, a3, a4, a5, a6, a7, a8, rfl, ⟨p0, q0⟩, ⟨p1, q1⟩, ⟨p2, q2⟩, ⟨p3, q3⟩, ⟨p4, q4⟩, ⟨p5, q5⟩, ⟨p6, q6⟩, ⟨p7, q7⟩, ⟨p8, q8⟩⟩
theorem fit4 {row : List Int} {s0 s1 s2 s3 : Int} (h : Fit row [s0, s1, s2, s3]) : ∃ a0 a1 a2 a3, row = [a0, a1, a2, a3] ∧ (0 ≤ a0 ∧ a0 < s0) ∧ (0 ≤ a1 ∧ a1 < s1) ∧ (0 ≤ a2 ∧ a2 < s2) ∧ (0 ≤ a3 ∧ a3 < s3) := by
  obtain ⟨a0, r0, rfl, p0, q0, h⟩ := fit_cons h
  obtain ⟨a1, r1, rfl, p1, q1, h⟩ := fit_cons h
  obtain ⟨a2, r2, rfl, p2, q2, h⟩ := fit_cons h
  obtain ⟨a3, r3, rfl, p3, q3, h⟩ := fit_cons h
  cases fit_nil h
  exact ⟨a0, a1, a2, a3, rfl, ⟨p0, q0⟩, ⟨p1, q1⟩, ⟨p2, q2⟩, ⟨p3, q3⟩⟩
theorem fit3 {row : List Int} {s0 s1 s2 : Int} (h : Fit row [s0, s1, s2]) : ∃ a0 a1 a2, row = [a0, a1, a2] := by
  obtain ⟨a0, r0, rfl, p0, q0, h⟩ := fit_cons h
  obtain ⟨a1, r1, rfl, p1, q1, h⟩ := fit_cons h
  obtain ⟨a2, r2, rfl, p2, q2, h⟩ := fit_cons h
  cases fit_nil h
  exact ⟨a0, a1, a2, rfl⟩
theorem sizes_all {S : List Int} (h : S.all (fun s => decide (0 < s) && decide (s ≤ 1000000000)) = true) : sizesOk S := fun s hs => by
  have := List.all_eq_true.mp h s hs
  simpa using this
/-- the motion's place -/
theorem motion_place {ns : List Int} {b : Int} (b0 : 0 < b) (b1 : b ≤ 12) (h : ∀ n ∈ ns, n.natAbs ≤ 1000) : ∃ ms b', redD ns b = place ms b' ∧ fits ms b' ∧ ms.length = ns.length := by
  have gp := gl_pos (b := b.natAbs) (ns := ns) (by omega)
  have gd := gl_dvd ns b.natAbs
  refine ⟨ns.map fun n => n.fdiv (gl b.natAbs ns : Nat), b.fdiv (gl b.natAbs ns : Nat), ?_, ⟨fun m hm => ?_, ?_, ?_⟩, by simp⟩
  · unfold redD place
    rw [List.map_map]
    rfl
  · obtain ⟨n, hn, rfl⟩ := List.mem_map.mp hm
    have := h n hn
    rw [Int.fdiv_eq_ediv_of_nonneg _ (by omega)]
    refine Nat.lt_of_le_of_lt (Int.natAbs_ediv_le_natAbs n _) (Nat.lt_of_le_of_lt this (by decide +kernel))
  · rw [Int.fdiv_eq_ediv_of_nonneg _ (by omega)]
    have hd : ((gl b.natAbs ns : Nat) : Int) ∣ b := Int.ofNat_dvd_left.mpr gd.1
    have e := Int.ediv_mul_cancel hd
    have nn : 0 ≤ b / ((gl b.natAbs ns : Nat) : Int) := Int.ediv_nonneg (by omega) (by omega)
    have nz : b / ((gl b.natAbs ns : Nat) : Int) ≠ 0 := fun z => by rw [z, Int.zero_mul] at e; omega
    omega
  · rw [Int.fdiv_eq_ediv_of_nonneg _ (by omega)]
    exact Nat.lt_of_le_of_lt (Int.natAbs_ediv_le_natAbs b _) (Nat.lt_of_le_of_lt (show b.natAbs ≤ 12 by omega) (by decide +kernel))
theorem nt2 {ns : List Int} {b : Int} : oNe (.lst [.str ("told" : Str), redD ns b]) (.lst [.str ("told" : Str), redD ns b]) = some (.bl false) := n_refl (by
  show ([D.str "told", redD ns b] : List D).all (D.dep 29) = true
  rw [List.all_cons, List.all_cons, dep_red]
  rfl)
theorem law_true (ns : List Int) : m_law [script ns] = .ok (.bl true) := by
  have sb := size_big
  have hz : 1000002 ≤ sizeLine := by decide
  obtain ⟨c0, hc0⟩ := cell_eq ns 0 (by decide)
  obtain ⟨c1, hc1⟩ := cell_eq ns 1 (by decide)
  obtain ⟨c3, hc3⟩ := cell_eq ns 3 (by decide)
  obtain ⟨c4, hc4⟩ := cell_eq ns 4 (by decide)
  obtain ⟨c5, hc5⟩ := cell_eq ns 5 (by decide)
  have hc0 : m__law_cell [script ns, .int 0] = .ok (.int c0) := hc0
  have hc1 : m__law_cell [script ns, .int 1] = .ok (.int c1) := hc1
  have hc3 : m__law_cell [script ns, .int 3] = .ok (.int c3) := hc3
  have hc4 : m__law_cell [script ns, .int 4] = .ok (.int c4) := hc4
  have hc5 : m__law_cell [script ns, .int 5] = .ok (.int c5) := hc5
  -- rows
  obtain ⟨row0, f0, d0⟩ := digits_eq c0 [96, 1000000000, 1000000000, 1000000000, 96, 1000000000, 1000000000, 1000000000, 3] (by decide) (sizes_all (by decide))
  obtain ⟨a0, a1, a2, a3, a4, a5, a6, a7, a8, rfl, k0, k1, k2, k3, k4, k5, k6, k7, k8⟩ := fit9 f0
  obtain ⟨row1, f1, d1⟩ := digits_eq c1 [199, 30, 199, 30] (by decide) (sizes_all (by decide))
  obtain ⟨b0, b1, b2, b3, rfl, j0, j1, j2, j3⟩ := fit4 f1
  obtain ⟨row3, f3, d3⟩ := digits_eq c3 [12, 4001, 4001, 4001] (by decide) (sizes_all (by decide))
  obtain ⟨r0, r1, r2, r3, rfl, i0, i1, i2, i3⟩ := fit4 f3
  obtain ⟨e4, d4⟩ := dig1 c4 997 (by decide)
  obtain ⟨row5, f5, d5⟩ := digits_eq c5 [200000, 200000, 200000] (by decide) (sizes_all (by decide))
  obtain ⟨g0, g1, g2, rfl⟩ := fit3 f5
  clear f0 f1 f3 f5
  have d0 : m__law_digits [.int c0, .lst [.int 96, .int 1000000000, .int 1000000000, .int 1000000000, .int 96, .int 1000000000, .int 1000000000, .int 1000000000, .int 3]] = .ok (.lst [.int a0, .int a1, .int a2, .int a3, .int a4, .int a5, .int a6, .int a7, .int a8]) := d0
  have d1 : m__law_digits [.int c1, .lst [.int 199, .int 30, .int 199, .int 30]] = .ok (.lst [.int b0, .int b1, .int b2, .int b3]) := d1
  have d3 : m__law_digits [.int c3, .lst [.int 12, .int 4001, .int 4001, .int 4001]] = .ok (.lst [.int r0, .int r1, .int r2, .int r3]) := d3
  have d5 : m__law_digits [.int c5, .lst [.int 200000, .int 200000, .int 200000]] = .ok (.lst [.int g0, .int g1, .int g2]) := d5
  -- sizes
  have u9 : oMul (.lst [.int 1000000000]) (.int 3) = some (.lst [.int 1000000000, .int 1000000000, .int 1000000000]) := rfl
  have u4 : oMul (.lst [.int 4001]) (.int 3) = some (.lst [.int 4001, .int 4001, .int 4001]) := rfl
  have u2 : oMul (.lst [.int 200000]) (.int 3) = some (.lst [.int 200000, .int 200000, .int 200000]) := rfl
  -- the pairs
  obtain ⟨t1, big1, s1⟩ := big_eq k0 k1 k2 k3
  obtain ⟨t2, big2, s2⟩ := big_eq k4 k5 k6 k7
  have cut1 : oCut (.lst [.int a0, .int a1, .int a2, .int a3, .int a4, .int a5, .int a6, .int a7, .int a8]) none (some 4) = some (.lst [.int a0, .int a1, .int a2, .int a3]) := rfl
  have cut2 : oCut (.lst [.int a0, .int a1, .int a2, .int a3, .int a4, .int a5, .int a6, .int a7, .int a8]) (some 4) (some 8) = some (.lst [.int a4, .int a5, .int a6, .int a7]) := rfl
  have q8 : oIx (.lst [.int a0, .int a1, .int a2, .int a3, .int a4, .int a5, .int a6, .int a7, .int a8]) (.int 8) = some (.int a8) := rfl
  obtain ⟨v, hv⟩ : ∃ v, v = (t2.natAbs : Int) := ⟨_, rfl⟩
  have ab : fAbs [.int t2] = some (.int v) := by rw [hv]; rfl
  have s2' : small55 v := by unfold small55 at s2 ⊢; rw [hv, Int.natAbs_natCast]; exact s2
  have v0 : 0 ≤ v := by omega
  clear hv
  have v60 : (v + 1).natAbs < 10 ^ 60 := Nat.lt_of_lt_of_le (show (v + 1).natAbs < 1000000000000000000000000000000000000000000000000000000000000 by unfold small55 at s2'; omega) (by decide +kernel)
  have fr1 := fraction_eq (a := t1) (b := v + 1) (by omega) (sm60 v60)
  have fr2 := fraction_eq (a := b0 - 99) (b := 1 + b1) (by omega) (sml (by omega))
  have fr3 := fraction_eq (a := b2 - 99) (b := 1) (by omega) (sml (by omega))
  have lt60 : ∀ i : Int, i.natAbs ≤ 1000 → i.natAbs < 10 ^ 60 := fun i h => Nat.lt_of_le_of_lt h (by decide +kernel)
  have gq1 := good_low (a := t1) (b := v + 1) (s55 s1) (by omega) v60
  have gq2 := good_low (a := b0 - 99) (b := 1 + b1) (lt60 _ (by omega)) (by omega) (lt60 _ (by omega))
  have gq3 := good_low (a := b2 - 99) (b := 1) (lt60 _ (by omega)) (by omega) (lt60 _ (by decide))
  revert fr1 fr2 fr3 gq1 gq2 gq3
  generalize lowest t1 (v + 1) = q1
  generalize lowest (b0 - 99) (1 + b1) = q2
  generalize lowest (b2 - 99) 1 = q3
  intro fr1 fr2 fr3 gq1 gq2 gq3
  obtain ⟨z4, z8, z10, z11, lp1⟩ := pair_loop (ns := ns) (x1 := .d (.lst [.int a0, .int a1, .int a2, .int a3, .int a4, .int a5, .int a6, .int a7, .int a8])) (x2 := .d (.lst [pair q1, pair q2, pair q3])) (x3 := .d (.lst [.int b0, .int b1, .int b2, .int b3])) (x5 := .no) (x6 := .no) (x7 := .no) (x9 := .no) [q1, q2, q3] .no .no .no .no (by
    intro q hq
    (rcases List.mem_cons.mp hq with rfl | hq)
    · exact gq1
    · (rcases List.mem_cons.mp hq with rfl | hq)
      · exact gq2
      · rw [List.mem_singleton.mp hq]; exact gq3)
  have lp1 : forL (gN 4) pairB [pair q1, pair q2, pair q3] [.d (script ns), .d (.lst [.int a0, .int a1, .int a2, .int a3, .int a4, .int a5, .int a6, .int a7, .int a8]), .d (.lst [pair q1, pair q2, pair q3]), .d (.lst [.int b0, .int b1, .int b2, .int b3]), .no, .no, .no, .no, .no, .no, .no, .no] = _ := lp1
  -- the place
  obtain ⟨ms0, bb, mo, bb0, bb1, mne, ml, mb⟩ := motion_eq (r0 := r0) (r1 := r1) (r2 := r2) (r3 := r3) i0 (size := 1 + a8) (by omega)
  obtain ⟨ms, b, hp, hfit, hlen⟩ := motion_place bb0 bb1 mb
  have ne : ms ≠ [] := fun e => mne (List.length_eq_zero_iff.mp (by rw [← hlen, e]; rfl))
  have wp := wpoint_eq hfit (by omega)
  have pt := ptext_eq hfit (by omega)
  have rb := read_back bb0 hp hfit ne (by omega)
  rw [← hp] at wp pt rb
  have wl := ptxt_len hfit (by omega)
  have ask1 := pasked_eq (t := ptxt ms b) (by omega)
  rw [rb] at ask1
  obtain ⟨xs, hx, ha⟩ := spoilt_eq (w := ptxt ms b) (by omega) e4
  have m6 : (" 1 2 3" : Str).length = 6 := by decide +kernel
  have am : oAdd (.str (ptxt ms b)) (.str (" 1 2 3" : Str)) = some (.str (ptxt ms b ++ (" 1 2 3" : Str))) := add_ok (by omega) (by omega)
  have ask2 := pasked_eq (t := ptxt ms b ++ (" 1 2 3" : Str)) (by rw [len_app]; omega)
  rw [more_ask hfit ne] at ask2
  have l5 : ("1 x y" : Str).length = 5 := by decide +kernel
  have ask3 := pasked_eq (t := ("1 x y" : Str)) (by omega)
  rw [xy_ask] at ask3
  have nm := names_eq g0 g1 g2
  have nx : oNe (.lst [.str ("bad" : Str), .str ("x" : Str), .bl true]) (.lst [.str ("bad" : Str), .str ("x" : Str), .bl true]) = some (.bl false) := nb
  have n1 : 1 ≤ sizeLine := by omega
  have n2 : 2 ≤ sizeLine := by omega
  have n3 : 3 ≤ sizeLine := by omega
  have n4 : 4 ≤ sizeLine := by omega
  have n5 : 5 ≤ sizeLine := by omega
  have n8 : 8 ≤ sizeLine := by omega
  have n9 : 9 ≤ sizeLine := by omega
  have m1 : 1 < sizeLine := by omega
  have m2 : 2 < sizeLine := by omega
  have nt' := nt2 (ns := ms0) (b := bb)
  revert wp pt ask1 hx am ask2 mo nt'
  generalize hR : redD ms0 bb = RR
  generalize ptxt ms b = w
  generalize w ++ (" 1 2 3" : Str) = w2
  intro wp pt ask1 hx am ask2 mo nt'
  obtain ⟨y8, lp2⟩ := pt_loop (x0 := .d (script ns)) (x1 := .d (.lst [.int a0, .int a1, .int a2, .int a3, .int a4, .int a5, .int a6, .int a7, .int a8])) (x2 := .d (.lst [pair q1, pair q2, pair q3])) (x3 := .d (.lst [.int b0, .int b1, .int b2, .int b3])) (x4 := z4) (x5 := .d (.int (1 + a8))) (x6 := .d RR) (x7 := .d (.str w)) (x9 := .no) (x10 := z10) (x11 := z11) xs z8 ha
  delta pairB inB_ at lp1
  delta ptB at lp2
  simp [m_law, runB, hc0, hc1, hc3, hc4, hc5, d0, d1, d3, d4, d5, p9, u9, u4, u2, big1, big2, cut1, cut2, q8, ab, fr1, fr2, fr3, n1, n2, n3, n4, n5, n8, n9, m1, m2, lp1, mo, pt, wp, ask1, nt', hx, lp2, am, ask2, ask3, nb, nx, nm]
end L2.DL.K71
open PySem PySem.W PyProof.Rows PySem.Calls
theorem PySem.Challenge.cw_calmspot_k71_signs_holds : PySem.Challenge.rw_calmspot_k71_signs.Holds := by
  w_on; o_law
  refine HandSHeadRun.head_imp (r := OpenLaw.row PySem.Challenge.rw_calmspot_k71_signs) (q := L2.DL.K71.vw) (H := L2.DL.K71.hk) (ob := L2.DL.K71.ob) (M := 4000) (loose := L2.DL.K71.lo) (d := HandSHeadRun.topDef (OpenLaw.row PySem.Challenge.rw_calmspot_k71_signs).prog 44) (kwd := []) L2.DL.K71.ob_eq
    L2.DL.K71.run (by kernel_rfl) (by kernel_rfl) (by kernel_rfl) (by rfl) (by first | assumption | decide +kernel) (by decide +kernel) ⟨rfl, rfl, rfl, rfl, rfl, by decide +kernel⟩ ?hw ?hc
  case hw => w_witness2
  case hc =>
    refine L2.DL.walk_w (l := PySem.Challenge.rw_calmspot_k71_signs) (most := 63) (lev := 8) (x := "script") (CXw := fun w => L2.CX PySem.Challenge.rw_calmspot_k71_signs.prog w) rfl (by decide) (by kernel_rfl) ⟨rfl, by decide, by decide⟩ ?F (fun _ _ _ _ _ z => L2.DL.cx_none z)
    intro w mg fa h Y G hmg0
    obtain ⟨K, KX, c⟩ := Y
    have named : mg ("law" : PySem.Str) = some (.ref fa) := by
      have e : (HandSHeadRun.topDef (OpenLaw.row PySem.Challenge.rw_calmspot_k71_signs).prog 44).name = ("law" : PySem.Str) := by kernel_rfl
      rw [← e]
      exact hmg0
    cases named.symm.trans (L2.DL.K71.law_at KX G c)
    obtain ⟨fd, hb, hF⟩ := L2.DL.K71.cal (P := (PySem.Challenge.rw_calmspot_k71_signs).prog) (w := w) KX G c
    exact ⟨K, fd, _, KX, hb, fun H a ns hl _ hS => L2.DL.law_sp (L2.DL.K71.law_true ns) hS, fun base _ _ => hF base⟩
