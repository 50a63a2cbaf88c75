import PyProof.Rows.All
import Wide.All
import OpenK.AllK
import Wide.FinOn
import HandS.ForMost
import HandS.Wide
import HandS.Gcd
import HandS.Exc
import HandS.TryOnly
import HandS.ExcInit
import HandS.ExcOwn
import HandS.ExcIs
import HandS.ExcField
import HandS.WordsExc
import KE.DataEq
import HandS.TupAny
import HandS.Style
import HandS.Defaults
import HandS.Zip
import HandS.Conv
import KE.KTupSum
import KE.KExcIs
import KE.SortKeyHeap
import HandS.DictComp
import HandS.IsInst
import HandS.SortKw
import HandS.Keys
import HandS.ClsMeth
import HandS.More
import HandS.HeadEnd
import HandS.HeadHook4
import HandS.Head0
import HandS.Head1
import HandS.Head2
import HandS.Head3
import HandS.HeadNt
import PySem.Challenge.RW_calmspot_k87_fewest_on_a_line
import KE.OsArith
set_option Elab.async false
set_option linter.all false
set_option maxRecDepth 100000
set_option maxHeartbeats 0
/-! DL: a data layer over the hand layer. Values as plain data, defs as functions on data. -/
namespace L2.DL
open PySem PyProof.Rows PySem.Spec

/-! ### data, results -/
/-- plain data: what a value stands for -/
inductive D where
  | non | bl (b : Bool) | int (i : Int) | str (x : Str)
  | lst (xs : List D) | ro (xs : List D) | tup (xs : List D) | dct (kvs : List (Key × D)) | obj (c : Nat) (fs : List (Str × D))
/-- what a piece of code comes to -/
inductive Res (α : Type) where
  | ok (a : α) | ex (c : Nat) (fs : List (Str × D)) | stuck
@[inline] def Res.bind {α β : Type} (x : Res α) (f : α → Res β) : Res β := match x with
  | .ok a => f a
  | .ex c fs => .ex c fs
  | .stuck => .stuck
/-- a local name: nothing, data, a list or a dict that is being made, an instance that is being made -/
inductive Sl where
  | no | d (x : D) | bl (xs : List D) | bd (kvs : List (Key × D)) | bo (c : Nat) (fs : List (Str × D))
inductive O where
  | nx (ρ : List Sl) | rt (d : D) | bk (ρ : List Sl) | ct (ρ : List Sl)

/-! ### what stands for what -/
structure RC where
  K : PySem.W.Frag
  cls : Nat → Addr
mutual
inductive Rep (R : RC) (S : Hp) : V → D → Prop
  | non : Rep R S .non .non
  | bl (b : Bool) : Rep R S (.bl b) (.bl b)
  | int (i : Int) : Rep R S (.int i) (.int i)
  | str (x : Str) : Rep R S (.str x) (.str x)
  | lst {a : Addr} {vs : List V} {ds : List D} : S a = some (.lst vs) → Reps R S vs ds → Rep R S (.ref a) (.lst ds)
  | ro {a : Addr} {vs : List V} {ds : List D} : SqL R.K S a vs → Reps R S vs ds → Rep R S (.ref a) (.ro ds)
  | tup {a : Addr} {vs : List V} {ds : List D} : SqT R.K S a vs → Reps R S vs ds → Rep R S (.ref a) (.tup ds)
  | dct {a : Addr} {kvs : List (Key × V)} {ds : List (Key × D)} : S a = some (.dK kvs) → RepK R S kvs ds → Rep R S (.ref a) (.dct ds)
  | obj {a dx : Addr} {c : Nat} {vfs : List (Str × V)} {fs : List (Str × D)} : S a = some (.ins (R.cls c) dx vfs) → RepF R S vfs fs → Rep R S (.ref a) (.obj c fs)
inductive Reps (R : RC) (S : Hp) : List V → List D → Prop
  | nil : Reps R S [] []
  | cons {v : V} {d : D} {vs : List V} {ds : List D} : Rep R S v d → Reps R S vs ds → Reps R S (v :: vs) (d :: ds)
inductive RepK (R : RC) (S : Hp) : List (Key × V) → List (Key × D) → Prop
  | nil : RepK R S [] []
  | cons {k : Key} {v : V} {d : D} {vs : List (Key × V)} {ds : List (Key × D)} : Rep R S v d → RepK R S vs ds → RepK R S ((k, v) :: vs) ((k, d) :: ds)
inductive RepF (R : RC) (S : Hp) : List (Str × V) → List (Str × D) → Prop
  | nil : RepF R S [] []
  | cons {k : Str} {v : V} {d : D} {vs : List (Str × V)} {ds : List (Str × D)} : Rep R S v d → RepF R S vs ds → RepF R S ((k, v) :: vs) ((k, d) :: ds)
end
theorem same_rd {H H' : Hp} {a : Addr} {u : HO} (e : Same H H') (h : Rd H a u) : Rd H' a u := by
  rcases h with h | ⟨o, h⟩
  · exact .inl (e _ _ h)
  · exact .inr ⟨o, e _ _ h⟩
theorem same_sqL {K : PySem.W.Frag} {H H' : Hp} {a : Addr} {xs : List V} (e : Same H H') (h : SqL K H a xs) : SqL K H' a xs := by
  rcases h with h | h
  · exact .inl (same_rd e h)
  · exact .inr h
theorem same_sqT {K : PySem.W.Frag} {H H' : Hp} {a : Addr} {xs : List V} (e : Same H H') (h : SqT K H a xs) : SqT K H' a xs := by
  rcases h with h | h
  · exact .inl (same_rd e h)
  · exact .inr h
mutual
theorem Rep.mono {R : RC} {S S' : Hp} (e : Same S S') {v : V} {d : D} (h : Rep R S v d) : Rep R S' v d := match h with
  | .non => .non
  | .bl b => .bl b
  | .int i => .int i
  | .str x => .str x
  | .lst h1 h2 => .lst (e _ _ h1) (h2.mono e)
  | .ro h1 h2 => .ro (same_sqL e h1) (h2.mono e)
  | .tup h1 h2 => .tup (same_sqT e h1) (h2.mono e)
  | .dct h1 h2 => .dct (e _ _ h1) (h2.mono e)
  | .obj h1 h2 => .obj (e _ _ h1) (h2.mono e)
theorem Reps.mono {R : RC} {S S' : Hp} (e : Same S S') {v : List V} {d : List D} (h : Reps R S v d) : Reps R S' v d := match h with
  | .nil => .nil
  | .cons h1 h2 => .cons (h1.mono e) (h2.mono e)
theorem RepK.mono {R : RC} {S S' : Hp} (e : Same S S') {v : List (Key × V)} {d : List (Key × D)} (h : RepK R S v d) : RepK R S' v d := match h with
  | .nil => .nil
  | .cons h1 h2 => .cons (h1.mono e) (h2.mono e)
theorem RepF.mono {R : RC} {S S' : Hp} (e : Same S S') {v : List (Str × V)} {d : List (Str × D)} (h : RepF R S v d) : RepF R S' v d := match h with
  | .nil => .nil
  | .cons h1 h2 => .cons (h1.mono e) (h2.mono e)
end

/-! ### how heaps grow -/
/-- S: what stands still; H: all that is tracked -/
structure Ext (S H S' H' : Hp) : Prop where
  s : Same S S'
  h : Same H H'
  new : ∀ b o, S' b = some o → S b = none → H b = none
structure Sub (S H : Hp) : Prop where
  sub : Same S H
theorem Ext.refl (S H : Hp) : Ext S H S H := ⟨fun _ _ e => e, fun _ _ e => e, fun b o e n => by rw [n] at e; cases e⟩
theorem Ext.trans {S H S1 H1 S2 H2 : Hp} (a : Ext S H S1 H1) (b : Ext S1 H1 S2 H2) : Ext S H S2 H2 :=
  ⟨a.s.trans b.s, a.h.trans b.h, fun x o e n => by
    cases q : S1 x with
    | some o1 => exact a.new x o1 q n
    | none => exact a.h.free (b.new x o e q)⟩
/-- a new object -/
theorem Ext.laid {S H : Hp} {p : Addr} {o : HO} (sub : Same S H) (hp : H p = none) : Ext S H (upd S p o) (upd H p o) := by
  have sp : S p = none := sub.free hp
  refine ⟨fun b u e => ?_, fun b u e => ?_, fun b u e n => ?_⟩
  · rw [upd_ne (ne_of_none e sp)]; exact e
  · rw [upd_ne (ne_of_none e hp)]; exact e
  · by_cases hb : b = p
    · rw [hb]; exact hp
    · rw [upd_ne hb, n] at e; cases e
theorem same_upd {S H : Hp} {p : Addr} {o : HO} (sub : Same S H) : Same (upd S p o) (upd H p o) := fun b u e => by
  by_cases hb : b = p
  · subst hb; rw [upd_same] at e ⊢; exact e
  · rw [upd_ne hb] at e ⊢; exact sub _ _ e

/-! ### local names -/
def SlOk (R : RC) (slf : Addr) (S H : Hp) (o : Option V) : Sl → Prop
  | .no => True
  | .d x => ∃ v, o = some v ∧ Rep R S v x
  | .bl xs => ∃ p vs, o = some (.ref p) ∧ S p = none ∧ H p = some (.lst vs) ∧ Reps R S vs xs
  | .bd kvs => ∃ p vs, o = some (.ref p) ∧ S p = none ∧ H p = some (.dK vs) ∧ RepK R S vs kvs
  | .bo c fs => ∃ dx vfs, o = some (.ref slf) ∧ S slf = none ∧ H slf = some (.ins (R.cls c) dx vfs) ∧ RepF R S vfs fs
def Sl.own : Sl → Bool
  | .no => false
  | .d _ => false
  | _ => true
/-- the ghost state of a def: the heaps at its entry -/
structure GC where
  cls : Nat → Addr
  H0 : Hp
  S0 : Hp
  /-- within an except suite: the name's slot, the exception, its dict, its class, its fields -/
  ex : Option (Nat × Addr × Option Addr × Nat × List (Str × D))
  /-- the object that this def makes -/
  slf : Addr
abbrev GC.R (G : GC) (K : PySem.W.Frag) : RC := ⟨K, G.cls⟩
/-- the own dict of an exception -/
def XdAt (R : RC) (S H : Hp) (dd : Option Addr) (fs : List (Str × D)) : Prop := (fs = [] ∧ dd = none) ∨ ∃ a vfs, dd = some a ∧ H a = some (.xd vfs) ∧ RepF R S vfs fs
structure RE (K : PySem.W.Frag) (G : GC) (S H : Hp) (σ : St) (ρ : List Sl) : Prop where
  sub : Same S H
  ext : Ext G.S0 G.H0 S H
  len : σ.length = ρ.length
  sl : ∀ (i : Nat) x, ρ[i]? = some x → ∃ o, σ[i]? = some o ∧ SlOk (G.R K) G.slf S H o x
  own : ∀ (i : Nat) x p, ρ[i]? = some x → x.own = true → σ[i]? = some (some (.ref p)) → G.H0 p = none ∧ ∀ (j : Nat) y, ρ[j]? = some y → y.own = true → σ[j]? = some (some (.ref p)) → j = i
  exn : ∀ i a dd c fs, G.ex = some (i, a, dd, c, fs) → σ[i]? = some (some (.ref a)) ∧ XdAt (G.R K) S H dd fs
theorem XdAt.ext {R : RC} {S H S' H' : Hp} {dd : Option Addr} {fs : List (Str × D)} (e : Ext S H S' H') (h : XdAt R S H dd fs) : XdAt R S' H' dd fs := by
  rcases h with h | ⟨a, vfs, h1, h2, h3⟩
  · exact .inl h
  · exact .inr ⟨a, vfs, h1, e.h _ _ h2, h3.mono e.s⟩
theorem SlOk.ext {R : RC} {slf : Addr} {S H S' H' : Hp} {o : Option V} {x : Sl} (e : Ext S H S' H') (h : SlOk R slf S H o x) : SlOk R slf S' H' o x := by
  have fr : ∀ p u, S p = none → H p = some u → S' p = none := fun p u n q => by
    cases z : S' p with
    | none => rfl
    | some w =>
      have := e.new p w z n
      rw [q] at this; cases this
  cases x with
  | no => trivial
  | d x => obtain ⟨v, h1, h2⟩ := h; exact ⟨v, h1, h2.mono e.s⟩
  | bl xs => obtain ⟨p, vs, h1, h2, h3, h4⟩ := h; exact ⟨p, vs, h1, fr _ _ h2 h3, e.h _ _ h3, h4.mono e.s⟩
  | bd xs => obtain ⟨p, vs, h1, h2, h3, h4⟩ := h; exact ⟨p, vs, h1, fr _ _ h2 h3, e.h _ _ h3, h4.mono e.s⟩
  | bo c xs => obtain ⟨dx, vs, h1, h2, h3, h4⟩ := h; exact ⟨dx, vs, h1, fr _ _ h2 h3, e.h _ _ h3, h4.mono e.s⟩
section
variable {K : PySem.W.Frag} {G : GC} {S H S' H' : Hp} {σ : St} {ρ : List Sl}
theorem RE.grow (r : RE K G S H σ ρ) (e : Ext S H S' H') (sub : Same S' H') : RE K G S' H' σ ρ :=
  ⟨sub, r.ext.trans e, r.len, fun i x h => let ⟨o, h1, h2⟩ := r.sl i x h; ⟨o, h1, h2.ext e⟩, r.own, fun i a dd c fs h => let ⟨h1, h2⟩ := r.exn i a dd c fs h; ⟨h1, h2.ext e⟩⟩
/-- a name gets data -/
theorem RE.set (hG : G.ex = none) (r : RE K G S H σ ρ) (i : Nat) {v : V} {x : D} (h : Rep (G.R K) S v x) : RE K G S H (σ.set i (some v)) (ρ.set i (.d x)) := by
  refine ⟨r.sub, r.ext, by simp [r.len], fun j y e => ?_, fun j y p e o s => ?_, fun i a dd c fs h => by rw [hG] at h; cases h⟩
  · by_cases hj : i = j
    · subst hj
      have hl : i < (ρ.set i (.d x)).length := (List.getElem?_eq_some_iff.mp e).1
      rw [List.length_set] at hl
      rw [List.getElem?_set_self hl] at e
      cases e
      exact ⟨_, List.getElem?_set_self (by rw [r.len]; exact hl), v, rfl, h⟩
    · rw [List.getElem?_set_ne hj] at e ⊢
      exact r.sl j y e
  · have ne : ∀ (k : Nat) z, (ρ.set i (.d x))[k]? = some z → z.own = true → i ≠ k := fun k z ez oz q => by
      subst q
      have hl : i < (ρ.set i (.d x)).length := (List.getElem?_eq_some_iff.mp ez).1
      rw [List.length_set] at hl
      rw [List.getElem?_set_self hl] at ez
      cases ez; cases oz
    have hj := ne j y e o
    rw [List.getElem?_set_ne hj] at e s
    obtain ⟨h1, h2⟩ := r.own j y p e o s
    refine ⟨h1, fun k z ez oz sz => ?_⟩
    have hk := ne k z ez oz
    rw [List.getElem?_set_ne hk] at ez sz
    exact h2 k z ez oz sz
end

/-! ### readings -/
abbrev ME := List Sl → Res D
abbrev MA := List Sl → Res (List D)
abbrev MT := List Sl → Res Bool
abbrev MS := List Sl → Res O
/-- what is wanted of an exception -/
def Want (K : PySem.W.Frag) (G : GC) (W : WX) (S H : Hp) (σ : St) (c : Nat) (fs : List (Str × D)) : Prop :=
  ∀ dd S' H', Ext S H S' H' → Same S' H' → XdAt (G.R K) S' H' dd fs → W (.ref (G.cls c)) dd σ H'
def After {α : Type} (K : PySem.W.Frag) (G : GC) (W : WX) (S H : Hp) (σ : St) (r : Res α) (k : α → Prop) : Prop := match r with
  | .ok a => k a
  | .ex c fs => Want K G W S H σ c fs
  | .stuck => False
def tD (K : PySem.W.Frag) (G : GC) (W : WX) (m : ME) : TE := fun σ H Q => ∃ S ρ, RE K G S H σ ρ ∧
  After K G W S H σ (m ρ) fun d => ∀ v S' H', Ext S H S' H' → Same S' H' → Rep (G.R K) S' v d → Q v H'
def tDT (K : PySem.W.Frag) (G : GC) (W : WX) (m : MT) : TT := fun σ H Q => ∃ S ρ, RE K G S H σ ρ ∧
  After K G W S H σ (m ρ) fun b => ∀ S' H', Ext S H S' H' → Same S' H' → Q b H'
def tDA (K : PySem.W.Frag) (G : GC) (W : WX) (m : MA) : TA := fun σ H Q => ∃ S ρ, RE K G S H σ ρ ∧
  After K G W S H σ (m ρ) fun ds => ∀ vs S' H', Ext S H S' H' → Same S' H' → Reps (G.R K) S' vs ds → Q vs H'
def WantS (K : PySem.W.Frag) (G : GC) (W : WX) (c : Nat) (fs : List (Str × D)) : Prop :=
  ∀ dd σ' S' H', Ext G.S0 G.H0 S' H' → Same S' H' → XdAt (G.R K) S' H' dd fs → W (.ref (G.cls c)) dd σ' H'
def AfterS {α : Type} (K : PySem.W.Frag) (G : GC) (W : WX) (r : Res α) (k : α → Prop) : Prop := match r with
  | .ok a => k a
  | .ex c fs => WantS K G W c fs
  | .stuck => False
/-- what a statement's outcome is to bring -/
def Fin (K : PySem.W.Frag) (G : GC) (De : Ends) (S : Hp) : O → Prop
  | .nx ρ' => ∀ σ' S' H', Same S S' → RE K G S' H' σ' ρ' → De.nx σ' H'
  | .bk ρ' => ∀ σ' S' H', Same S S' → RE K G S' H' σ' ρ' → De.bk σ' H'
  | .ct ρ' => ∀ σ' S' H', Same S S' → RE K G S' H' σ' ρ' → De.ct σ' H'
  | .rt d => ∀ v S' H', Ext G.S0 G.H0 S' H' → Same S' H' → Rep (G.R K) S' v d → De.rt v H'
def tDS (K : PySem.W.Frag) (G : GC) (W : WX) (m : MS) : TS := fun De σ H => ∃ S ρ, RE K G S H σ ρ ∧ AfterS K G W (m ρ) (Fin K G De S)
end L2.DL
namespace L2.DL
open PySem PyProof.Rows PySem.Spec

/-! ### glue -/
theorem pe_weak {X : Cx} {e : Expr} {t t' : TE} (h : PE X e t) (i : ∀ σ H Q, t' σ H Q → t σ H Q) : PE X e t' := ⟨fun pins s σ H Q I q => h.run pins s σ H Q I (i σ H Q q)⟩
theorem pt_weak {X : Cx} {e : Expr} {t t' : TT} (h : PT X e t) (i : ∀ σ H Q, t' σ H Q → t σ H Q) : PT X e t' := ⟨fun pins s σ H Q I q => h.run pins s σ H Q I (i σ H Q q)⟩
theorem pw_weak {X : Cx} {e : Expr} {t t' : TT} (h : PW X e t) (i : ∀ σ H Q, t' σ H Q → t σ H Q) : PW X e t' := ⟨fun w pins s σ H Q I q => h.run w pins s σ H Q I (i σ H Q q)⟩
theorem pa_weak {X : Cx} {e : List Expr} {t t' : TA} (h : PA X e t) (i : ∀ σ H Q, t' σ H Q → t σ H Q) : PA X e t' := ⟨fun p pins s σ H Q I q => h.run p pins s σ H Q I (i σ H Q q)⟩
theorem ps_weak {X : Cx} {e : Stmt} {t t' : TS} (h : PS X e t) (i : ∀ D σ H, t' D σ H → t D σ H) : PS X e t' := ⟨fun pins s σ H D I q => h.run pins s σ H D I (i D σ H q)⟩
theorem pss_weak {X : Cx} {e : List Stmt} {t t' : TS} (h : PSs X e t) (i : ∀ D σ H, t' D σ H → t D σ H) : PSs X e t' := ⟨fun pins s σ H D I q => h.run pins s σ H D I (i D σ H q)⟩
theorem Want.ext {K : PySem.W.Frag} {G : GC} {W : WX} {S H S' H' : Hp} {σ : St} {c : Nat} {fs : List (Str × D)} (e : Ext S H S' H') (h : Want K G W S H σ c fs) : Want K G W S' H' σ c fs :=
  fun dd S2 H2 e2 s2 x => h dd S2 H2 (e.trans e2) s2 x
theorem After.bind {α β : Type} {K : PySem.W.Frag} {G : GC} {W : WX} {S H : Hp} {σ : St} {r : Res α} {f : α → Res β} {k : β → Prop} {k' : α → Prop} (h : After K G W S H σ (r.bind f) k) (i : ∀ a, After K G W S H σ (f a) k → k' a) : After K G W S H σ r k' := by
  cases r with
  | ok a => exact i a h
  | ex c fs => exact h
  | stuck => exact h
theorem After.imp {α : Type} {K : PySem.W.Frag} {G : GC} {W : WX} {S H : Hp} {σ : St} {r : Res α} {k k' : α → Prop} (h : After K G W S H σ r k) (i : ∀ a, k a → k' a) : After K G W S H σ r k' := by
  cases r with
  | ok a => exact i a h
  | ex c fs => exact h
  | stuck => exact h
theorem After.ext {α : Type} {K : PySem.W.Frag} {G : GC} {W : WX} {S H S' H' : Hp} {σ : St} {r : Res α} {k k' : α → Prop} (e : Ext S H S' H') (h : After K G W S H σ r k) (i : ∀ a, k a → k' a) : After K G W S' H' σ r k' := by
  cases r with
  | ok a => exact i a h
  | ex c fs => exact Want.ext e h
  | stuck => exact h

/-! ### combinators: expressions -/
def lift {α : Type} : Option α → Res α
  | some a => .ok a
  | none => .stuck
def eV (i : Nat) : ME := fun ρ => match ρ[i]? with
  | some (.d x) => .ok x
  | _ => .stuck
def eC (d : D) : ME := fun _ => .ok d
def eOp (g : D → D → Option D) (a b : ME) : ME := fun ρ => (a ρ).bind fun x => (b ρ).bind fun y => lift (g x y)
def eUn (g : D → Option D) (a : ME) : ME := fun ρ => (a ρ).bind fun x => lift (g x)
/-- a list of expressions -/
def aNil : MA := fun _ => .ok []
def aCons (a : ME) (as : MA) : MA := fun ρ => (a ρ).bind fun x => (as ρ).bind fun xs => .ok (x :: xs)
def eFn (g : List D → Option D) (as : MA) : ME := fun ρ => (as ρ).bind fun xs => lift (g xs)
def eMt (g : D → List D → Option D) (a : ME) (as : MA) : ME := fun ρ => (a ρ).bind fun x => (as ρ).bind fun xs => lift (g x xs)
def eCall (f : List D → Res D) (as : MA) : ME := fun ρ => (as ρ).bind f
/-- tests -/
def toB : D → Option Bool
  | .bl b => some b
  | _ => none
def cE (a : ME) : MT := fun ρ => (a ρ).bind fun x => lift (toB x)
def cAnd (a b : MT) : MT := fun ρ => (a ρ).bind fun x => if x = true then b ρ else .ok false
def cOr (a b : MT) : MT := fun ρ => (a ρ).bind fun x => if x = true then .ok true else b ρ
def cNot (a : MT) : MT := fun ρ => (a ρ).bind fun x => .ok (!x)
def eIf (c : MT) (a b : ME) : ME := fun ρ => (c ρ).bind fun x => if x = true then a ρ else b ρ
/-- a and b, a or b, not a as values (bools) -/
def eAnd (a b : ME) : ME := fun ρ => (a ρ).bind fun x => (lift (toB x)).bind fun k => if k = true then b ρ else .ok (.bl false)
def eOr (a b : ME) : ME := fun ρ => (a ρ).bind fun x => (lift (toB x)).bind fun k => if k = true then .ok (.bl true) else b ρ
def eNot (a : ME) : ME := fun ρ => (a ρ).bind fun x => (lift (toB x)).bind fun k => .ok (.bl (!k))

/-! ### operations by values -/
/-- what is wanted of the value that stands for z -/
def Give (R : RC) (S H : Hp) (z : D) (Q : VK) : Prop := ∀ u S' H', Ext S H S' H' → Same S' H' → Rep R S' u z → Q u H'
def rD2 (R : RC) (g : D → D → Option D) : R2 := fun v w H Q => ∃ S x y z, Same S H ∧ Rep R S v x ∧ Rep R S w y ∧ g x y = some z ∧ Give R S H z Q
def rD1 (R : RC) (g : D → Option D) : V → Hp → VK → Prop := fun v H Q => ∃ S x z, Same S H ∧ Rep R S v x ∧ g x = some z ∧ Give R S H z Q
def rDn (R : RC) (g : List D → Option D) : List V → Hp → VK → Prop := fun vs H Q => ∃ S xs z, Same S H ∧ Reps R S vs xs ∧ g xs = some z ∧ Give R S H z Q
def rDm (R : RC) (g : D → List D → Option D) : V → List V → Hp → VK → Prop := fun v vs H Q => ∃ S x xs z, Same S H ∧ Rep R S v x ∧ Reps R S vs xs ∧ g x xs = some z ∧ Give R S H z Q
theorem OpR.weak {X : Cx} {f : Value → Value → Sem Value} {r r' : R2} (h : OpR X f r) (i : ∀ x y H Q, r' x y H Q → r x y H Q) : OpR X f r' := fun pins s σ H x y v u Q I rx ry q => h pins s σ H x y v u Q I rx ry (i _ _ _ _ q)
theorem UnR.weak {X : Cx} {f : Value → Sem Value} {r r' : V → Hp → VK → Prop} (h : UnR X f r) (i : ∀ x H Q, r' x H Q → r x H Q) : UnR X f r' := fun pins s σ H x v Q I rx q => h pins s σ H x v Q I rx (i _ _ _ q)
theorem CallR.weak {X : Cx} {f : Value} {r r' : List V → Hp → VK → Prop} (h : CallR X f r) (i : ∀ x H Q, r' x H Q → r x H Q) : CallR X f r' := fun pins s σ H x v Q I rx q => h pins s σ H x v Q I rx (i _ _ _ q)
theorem IxR.weak {X : Cx} {r r' : R2} (h : IxR X r) (i : ∀ x y H Q, r' x y H Q → r x y H Q) : IxR X r' := fun va sl pins s σ H x y v u Q I rx ry q => h va sl pins s σ H x y v u Q I rx ry (i _ _ _ _ q)

section
variable {X : Cx} {G : GC} {W : WX} {a b c : Expr} {ma mb mc : ME} {pos : Pos}
abbrev DE (X : Cx) (G : GC) (W : WX) (e : Expr) (m : ME) : Prop := PE X e (tD X.K G W m)
abbrev DT (X : Cx) (G : GC) (W : WX) (e : Expr) (m : MT) : Prop := PT X e (tDT X.K G W m)
abbrev DW (X : Cx) (G : GC) (W : WX) (e : Expr) (m : MT) : Prop := PW X e (tDT X.K G W m)
abbrev DA (X : Cx) (G : GC) (W : WX) (e : List Expr) (m : MA) : Prop := PA X e (tDA X.K G W m)
abbrev DS (X : Cx) (G : GC) (W : WX) (e : Stmt) (m : MS) : Prop := PS X e (tDS X.K G W m)
abbrev DSs (X : Cx) (G : GC) (W : WX) (e : List Stmt) (m : MS) : Prop := PSs X e (tDS X.K G W m)

theorem dv {x : Str} (i : Nat) (hN : X.N[i]? = some x := by rfl) (hv : Vis X.env.scope x := by first | exact Or.inl rfl | exact Or.inr (Or.inl rfl) | exact Or.inr (Or.inr rfl)) (hd : (x == ("__debug__" : Str)) = false := by decide) (hcd : (x == ("__classdict__" : Str)) = false := by decide) :
    DE X G W (.Name x pos) (eV i) := pe_weak (pe_var hN hv hd hcd) fun σ H Q ⟨S, ρ, re, h⟩ => by
  unfold eV at h
  cases e : ρ[i]? with
  | none => rw [e] at h; exact h.elim
  | some x =>
    rw [e] at h
    cases x with
    | d x =>
      obtain ⟨o, h1, v, h2, h3⟩ := re.sl i _ e
      subst h2
      exact ⟨v, h1, h v S H (.refl _ _) re.sub h3⟩
    | no => exact h.elim
    | bl _ => exact h.elim
    | bd _ => exact h.elim
    | bo _ _ => exact h.elim
theorem tC_of {v : V} {d : D} (r : ∀ R S, Rep R S v d) {σ : St} {H : Hp} {Q : VK} {K : PySem.W.Frag} : tD K G W (eC d) σ H Q → tC v σ H Q := fun ⟨S, ρ, re, h⟩ => h v S H (.refl _ _) re.sub (r _ _)
theorem de_int {i j} : DE X G W (.Constant (.int i) j pos) (eC (.int i)) := pe_weak pe_int fun _ _ _ => tC_of fun _ _ => .int _
theorem de_bl {i j} : DE X G W (.Constant (.bool i) j pos) (eC (.bl i)) := pe_weak pe_bl fun _ _ _ => tC_of fun _ _ => .bl _
theorem de_str {i j} : DE X G W (.Constant (.str i) j pos) (eC (.str i)) := pe_weak pe_str fun _ _ _ => tC_of fun _ _ => .str _
theorem de_non {j} : DE X G W (.Constant .none j pos) (eC .non) := pe_weak pe_non fun _ _ _ => tC_of fun _ _ => .non
/-- a module's constant that is a text, a number -/
theorem de_globS {x : Str} {z : Str} (hg : Gl X x) (hm : ∃ t, X.mg x = some (.str z t)) (hd : (x == ("__debug__" : Str)) = false := by decide) : DE X G W (.Name x pos) (eC (.str z)) := by
  obtain ⟨t, hm⟩ := hm
  exact pe_weak (pe_glob (v := .str z) hg hm ⟨_, rfl⟩ hd) fun _ _ _ => tC_of fun _ _ => .str _
theorem de_globI {x : Str} {z : Int} (hg : Gl X x) (hm : ∃ t, X.mg x = some (.int z t)) (hd : (x == ("__debug__" : Str)) = false := by decide) : DE X G W (.Name x pos) (eC (.int z)) := by
  obtain ⟨t, hm⟩ := hm
  exact pe_weak (pe_glob (v := .int z) hg hm ⟨_, rfl⟩ hd) fun _ _ _ => tC_of fun _ _ => .int _
/-- a module's constant, an object -/
theorem de_globR {x : Str} {a : Addr} {d : D} (hg : Gl X x) (hm : X.mg x = some (.ref a)) (r : ∀ S, Rep (G.R X.K) S (.ref a) d) (hd : (x == ("__debug__" : Str)) = false := by decide) : DE X G W (.Name x pos) (eC d) :=
  pe_weak (pe_glob (v := .ref a) hg hm rfl hd) fun σ H Q ⟨S, ρ, re, h⟩ => h _ S H (.refl _ _) re.sub (r _)


theorem After.lift {K : PySem.W.Frag} {S H : Hp} {σ : St} {o : Option D} {k : D → Prop} (h : After K G W S H σ (lift o) k) : ∃ z, o = some z ∧ k z := by
  cases o with
  | none => exact h.elim
  | some z => exact ⟨z, rfl, h⟩
theorem After.liftB {K : PySem.W.Frag} {S H : Hp} {σ : St} {o : Option Bool} {k : Bool → Prop} (h : After K G W S H σ (DL.lift o) k) : ∃ z, o = some z ∧ k z := by
  cases o with
  | none => exact h.elim
  | some z => exact ⟨z, rfl, h⟩

/-! ### operators -/
theorem t_op {K : PySem.W.Frag} {g : D → D → Option D} {σ : St} {H : Hp} {Q : VK} : tD K G W (eOp g ma mb) σ H Q → tOp (rD2 (G.R K) g) (tD K G W ma) (tD K G W mb) σ H Q := fun ⟨S, ρ, re, h⟩ => by
  refine ⟨S, ρ, re, After.bind h fun x h v S1 H1 e1 s1 r1 => ?_⟩
  refine ⟨S1, ρ, re.grow e1 s1, After.bind (After.ext e1 h fun _ q => q) fun y h w S2 H2 e2 s2 r2 => ?_⟩
  obtain ⟨z, hz, q⟩ := After.lift h
  exact ⟨S2, x, y, z, s2, r1.mono e2.s, r2, hz, fun u S3 H3 e3 s3 r3 => q u S3 H3 ((e1.trans e2).trans e3) s3 r3⟩
theorem de_op {op : Operator} {g : D → D → Option D} (ho : OpR X (binaryOp op) (rD2 (G.R X.K) g)) (ha : DE X G W a ma) (hb : DE X G W b mb) : DE X G W (.BinOp a op b pos) (eOp g ma mb) :=
  pe_weak (pe_op ho ha hb) fun _ _ _ => t_op
theorem de_cmp {op : CmpOp} {g : D → D → Option D} (ho : OpR X (compareOp op) (rD2 (G.R X.K) g)) (ha : DE X G W a ma) (hb : DE X G W b mb) (hm : behindInMarks op b = false := by first | exact nomark _ | rfl | with_unfolding_all rfl) : DE X G W (.Compare a [op] [b] pos) (eOp g ma mb) :=
  pe_weak (pe_cmpR ho ha hb hm) fun _ _ _ => t_op
theorem de_un {op : UnaryOp} {g : D → Option D} (ho : UnR X (unaryOp op) (rD1 (G.R X.K) g)) (ha : DE X G W a ma) : DE X G W (.UnaryOp op a pos) (eUn g ma) :=
  pe_weak (pe_un ho ha) fun σ H Q ⟨S, ρ, re, h⟩ => by
    refine ⟨S, ρ, re, After.bind h fun x h v S1 H1 e1 s1 r1 => ?_⟩
    obtain ⟨z, hz, q⟩ := After.lift h
    exact ⟨S1, x, z, s1, r1, hz, fun u S3 H3 e3 s3 r3 => q u S3 H3 (e1.trans e3) s3 r3⟩
theorem de_ix {g : D → D → Option D} (hr : IxR X (rD2 (G.R X.K) g)) (ha : DE X G W a ma) (hb : DE X G W b mb) (hs : PlainIx b := by exact fun _ _ => rfl) : DE X G W (.Subscript a b pos) (eOp g ma mb) :=
  pe_weak (pe_ix hr ha hb hs) fun _ _ _ => t_op

/-! ### tests -/
theorem t_test {K : PySem.W.Frag} {σ : St} {H : Hp} {Q : Bool → Hp → Prop} : tDT K G W (cE ma) σ H Q → tB (tD K G W ma) σ H Q := fun ⟨S, ρ, re, h⟩ => by
  refine ⟨S, ρ, re, After.bind h fun x h v S1 H1 e1 s1 r1 => ?_⟩
  obtain ⟨z, hz, q⟩ := After.liftB h
  cases x <;> simp only [toB, Option.some.injEq, reduceCtorEq] at hz
  subst hz
  cases r1
  exact ⟨_, rfl, q S1 H1 e1 s1⟩
theorem dt_val (ha : DE X G W a ma) (he : ∀ whole, isTrue a X.env whole = (do let v ← whole; standAt a.pos; holding [v] (truthy v)) := by intro _; rfl) : DT X G W a (cE ma) :=
  pt_weak (pt_val ha he) fun _ _ _ => t_test
theorem dt_cmp {op : CmpOp} {g : D → D → Option D} (ho : OpR X (compareOp op) (rD2 (G.R X.K) g)) (ha : DE X G W a ma) (hb : DE X G W b mb) (hm : behindInMarks op b = false := by first | exact nomark _ | rfl | with_unfolding_all rfl) : DT X G W (.Compare a [op] [b] pos) (cE (eOp g ma mb)) :=
  pt_weak (pt_cmpR ho ha hb hm) fun σ H Q h => t_op (Q := fun x H' => ∃ k, x = .bl k ∧ Q k H') (by
    obtain ⟨S, ρ, re, h⟩ := h
    refine ⟨S, ρ, re, After.bind h fun x h v S1 H1 e1 s1 r1 => ?_⟩
    obtain ⟨z, hz, q⟩ := After.liftB h
    cases x <;> simp only [toB, Option.some.injEq, reduceCtorEq] at hz
    subst hz
    cases r1
    exact ⟨_, rfl, q S1 H1 e1 s1⟩)
section
variable {rest : List Expr} {cA cB : MT}
theorem dt_pw (h : DW X G W a cA) : DT X G W a cA := h.pt
theorem dw_and1 (ha : DT X G W a cA) : DW X G W (.BoolOp .And [a] pos) cA := pw_and1 ha
theorem dw_or1 (ha : DT X G W a cA) : DW X G W (.BoolOp .Or [a] pos) cA := pw_or1 ha
theorem dw_and (ha : DT X G W a cA) (hb : DW X G W (.BoolOp .And (b :: rest) pos) cB) : DW X G W (.BoolOp .And (a :: b :: rest) pos) (cAnd cA cB) :=
  pw_weak (pw_and ha hb) fun σ H Q ⟨S, ρ, re, h⟩ => by
    refine ⟨S, ρ, re, After.bind h fun x h S1 H1 e1 s1 => ?_⟩
    cases x with
    | true => exact ⟨S1, ρ, re.grow e1 s1, After.ext e1 h fun _ q S2 H2 e2 s2 => q S2 H2 (e1.trans e2) s2⟩
    | false => exact h S1 H1 e1 s1
theorem dw_or (ha : DT X G W a cA) (hb : DW X G W (.BoolOp .Or (b :: rest) pos) cB) : DW X G W (.BoolOp .Or (a :: b :: rest) pos) (cOr cA cB) :=
  pw_weak (pw_or ha hb) fun σ H Q ⟨S, ρ, re, h⟩ => by
    refine ⟨S, ρ, re, After.bind h fun x h S1 H1 e1 s1 => ?_⟩
    cases x with
    | false => exact ⟨S1, ρ, re.grow e1 s1, After.ext e1 h fun _ q S2 H2 e2 s2 => q S2 H2 (e1.trans e2) s2⟩
    | true => exact h S1 H1 e1 s1
theorem dt_not (ha : DT X G W a cA) : DT X G W (.UnaryOp .Not a pos) (cNot cA) :=
  pt_weak (pt_not ha) fun σ H Q ⟨S, ρ, re, h⟩ => by
    exact ⟨S, ρ, re, After.bind h fun x h => h⟩
theorem de_if (hc : DT X G W c cA) (ha : DE X G W a ma) (hb : DE X G W b mb) : DE X G W (.IfExp c a b pos) (eIf cA ma mb) :=
  pe_weak (pe_ifExp hc ha hb) fun σ H Q ⟨S, ρ, re, h⟩ => by
    refine ⟨S, ρ, re, After.bind h fun x h S1 H1 e1 s1 => ?_⟩
    cases x with
    | true => exact ⟨S1, ρ, re.grow e1 s1, After.ext e1 h fun _ q v S2 H2 e2 s2 => q v S2 H2 (e1.trans e2) s2⟩
    | false => exact ⟨S1, ρ, re.grow e1 s1, After.ext e1 h fun _ q v S2 H2 e2 s2 => q v S2 H2 (e1.trans e2) s2⟩
theorem de_one {op} (h : DE X G W a ma) : DE X G W (.BoolOp op [a] pos) ma := pe_one h
theorem de_and (ha : DE X G W a ma) (hb : DE X G W (.BoolOp .And (b :: rest) pos) mb) : DE X G W (.BoolOp .And (a :: b :: rest) pos) (eAnd ma mb) :=
  pe_weak (pe_and ha hb) fun σ H Q ⟨S, ρ, re, h⟩ => by
    refine ⟨S, ρ, re, After.bind h fun x h v S1 H1 e1 s1 r1 => ?_⟩
    cases x <;> (try exact h.elim)
    rename_i k
    cases r1
    refine ⟨k, rfl, ?_⟩
    cases k with
    | true => exact ⟨S1, ρ, re.grow e1 s1, After.ext e1 h fun _ q v S2 H2 e2 s2 => q v S2 H2 (e1.trans e2) s2⟩
    | false => exact h _ S1 H1 e1 s1 (.bl _)
theorem de_or (ha : DE X G W a ma) (hb : DE X G W (.BoolOp .Or (b :: rest) pos) mb) : DE X G W (.BoolOp .Or (a :: b :: rest) pos) (eOr ma mb) :=
  pe_weak (pe_or ha hb) fun σ H Q ⟨S, ρ, re, h⟩ => by
    refine ⟨S, ρ, re, After.bind h fun x h v S1 H1 e1 s1 r1 => ?_⟩
    cases x <;> (try exact h.elim)
    rename_i k
    cases r1
    refine ⟨k, rfl, ?_⟩
    cases k with
    | false => exact ⟨S1, ρ, re.grow e1 s1, After.ext e1 h fun _ q v S2 H2 e2 s2 => q v S2 H2 (e1.trans e2) s2⟩
    | true => exact h _ S1 H1 e1 s1 (.bl _)
theorem de_not (ha : DE X G W a ma) : DE X G W (.UnaryOp .Not a pos) (eNot ma) :=
  pe_weak (pe_not ha) fun σ H Q ⟨S, ρ, re, h⟩ => by
    refine ⟨S, ρ, re, After.bind h fun x h v S1 H1 e1 s1 r1 => ?_⟩
    cases x <;> (try exact h.elim)
    rename_i k
    cases r1
    exact ⟨k, rfl, h _ S1 H1 e1 s1 (.bl _)⟩
end

/-! ### argument lists, displays, calls of built-ins -/
section
variable {es : List Expr} {mas : MA} {e o : Expr} {me mo : ME}
theorem da_nil : DA X G W [] aNil := pa_weak pa_nil fun σ H Q ⟨S, ρ, re, h⟩ => h [] S H (.refl _ _) re.sub .nil
theorem da_cons (ha : DE X G W e me) (hr : DA X G W es mas) (hs : starEach (e :: es) X.env = (false, eval e X.env) :: starEach es X.env := by rfl) : DA X G W (e :: es) (aCons me mas) :=
  pa_weak (pa_cons ha hr hs) fun σ H Q ⟨S, ρ, re, h⟩ => by
    refine ⟨S, ρ, re, After.bind h fun x h v S1 H1 e1 s1 r1 => ?_⟩
    refine ⟨S1, ρ, re.grow e1 s1, After.bind (After.ext e1 h fun _ q => q) fun y h w S2 H2 e2 s2 r2 => ?_⟩
    exact h (v :: w) S2 H2 (e1.trans e2) s2 (.cons (r1.mono e2.s) r2)
def oTup (xs : List D) : Option D := if xs.length ≤ sizeLine then some (.tup xs) else none
def oLst (xs : List D) : Option D := if xs.length ≤ sizeLine then some (.lst xs) else none
theorem Reps.length {R : RC} {S : Hp} : ∀ {vs : List V} {ds : List D}, Reps R S vs ds → vs.length = ds.length
  | _, _, .nil => rfl
  | _, _, .cons _ h => by simp [Reps.length h]
/-- a new tuple, a new list -/
theorem give_tup {R : RC} {S H : Hp} {vs : List V} {ds : List D} {Q : VK} (sub : Same S H) (r : Reps R S vs ds) (h : Give R S H (.tup ds) Q) : ∀ p, H p = none → Q (.ref p) (upd H p (.tup vs)) := fun p hp =>
  h (.ref p) (upd S p (.tup vs)) (upd H p (.tup vs)) (.laid sub hp) (same_upd sub) (.tup (SqT.of upd_same) (r.mono (Ext.laid sub hp).s))
theorem give_lst {R : RC} {S H : Hp} {vs : List V} {ds : List D} {Q : VK} (sub : Same S H) (r : Reps R S vs ds) (h : Give R S H (.lst ds) Q) : ∀ p, H p = none → Q (.ref p) (upd H p (.lst vs)) := fun p hp =>
  h (.ref p) (upd S p (.lst vs)) (upd H p (.lst vs)) (.laid sub hp) (same_upd sub) (.lst upd_same (r.mono (Ext.laid sub hp).s))
theorem de_tup {x1} (h : DA X G W es mas) : DE X G W (.Tuple es x1 pos) (eFn oTup mas) :=
  pe_weak (pe_tup h) fun σ H Q ⟨S, ρ, re, h⟩ => by
    refine ⟨S, ρ, re, After.bind h fun xs h vs S1 H1 e1 s1 r1 => ?_⟩
    obtain ⟨z, hz, q⟩ := After.lift h
    unfold oTup at hz
    split at hz
    · rename_i hl
      cases hz
      exact ⟨by rw [r1.length]; exact hl, give_tup s1 r1 fun u S2 H2 e2 s2 r2 => q u S2 H2 (e1.trans e2) s2 r2⟩
    · cases hz
theorem de_lst (h : DA X G W es mas) : DE X G W (.List es pos) (eFn oLst mas) :=
  pe_weak (pe_lst h) fun σ H Q ⟨S, ρ, re, h⟩ => by
    refine ⟨S, ρ, re, After.bind h fun xs h vs S1 H1 e1 s1 r1 => ?_⟩
    obtain ⟨z, hz, q⟩ := After.lift h
    unfold oLst at hz
    split at hz
    · rename_i hl
      cases hz
      exact ⟨by rw [r1.length]; exact hl, give_lst s1 r1 fun u S2 H2 e2 s2 r2 => q u S2 H2 (e1.trans e2) s2 r2⟩
    · cases hz
theorem t_fn {K : PySem.W.Frag} {g : List D → Option D} {σ : St} {H : Hp} {Q : VK} : tD K G W (eFn g mas) σ H Q → tCB (rDn (G.R K) g) (tDA K G W mas) σ H Q := fun ⟨S, ρ, re, h⟩ => by
  refine ⟨S, ρ, re, After.bind h fun xs h vs S1 H1 e1 s1 r1 => ?_⟩
  obtain ⟨z, hz, q⟩ := After.lift h
  exact ⟨S1, xs, z, s1, r1, hz, fun u S2 H2 e2 s2 r2 => q u S2 H2 (e1.trans e2) s2 r2⟩
end
end
end L2.DL
namespace L2.DL
open PySem PyProof.Rows PySem.Spec
/-! ### operations by values -/
theorem give_int {R : RC} {S H : Hp} {i : Int} {Q : VK} (sub : Same S H) (h : Give R S H (.int i) Q) : Q (.int i) H := h _ S H (.refl _ _) sub (.int _)
theorem give_bl {R : RC} {S H : Hp} {i : Bool} {Q : VK} (sub : Same S H) (h : Give R S H (.bl i) Q) : Q (.bl i) H := h _ S H (.refl _ _) sub (.bl _)
theorem give_str {R : RC} {S H : Hp} {i : Str} {Q : VK} (sub : Same S H) (h : Give R S H (.str i) Q) : Q (.str i) H := h _ S H (.refl _ _) sub (.str _)
theorem give_non {R : RC} {S H : Hp} {Q : VK} (sub : Same S H) (h : Give R S H .non Q) : Q .non H := h _ S H (.refl _ _) sub .non
theorem give_rep {R : RC} {S H : Hp} {v : V} {d : D} {Q : VK} (sub : Same S H) (r : Rep R S v d) (h : Give R S H d Q) : Q v H := h _ S H (.refl _ _) sub r

def oSub : D → D → Option D
  | .int a, .int b => some (.int (a - b))
  | _, _ => none
def oAdd : D → D → Option D
  | .int a, .int b => some (.int (a + b))
  | .str a, .str b => if a.length + b.length ≤ sizeLine then some (.str (a ++ b)) else none
  | .tup a, .tup b => if a.length + b.length ≤ sizeLine then some (.tup (a ++ b)) else none
  | .lst a, .lst b => if a.length + b.length ≤ sizeLine then some (.lst (a ++ b)) else none
  | _, _ => none
/-- repeated -/
def repD (k : Int) (xs : List D) : List D := (List.replicate k.toNat xs).flatten
instance (i j : Int) : Decidable (CMulW i j) := inferInstanceAs (Decidable (_ < _))
def oMul : D → D → Option D
  | .int a, .int b => if CMulW a b then some (.int (a * b)) else none
  | .str x, .int n => if 1 < n ∧ 0 < x.length ∧ x.length * n.toNat ≤ 1000000 then some (.str ⟨(List.replicate n.toNat x.cps).foldl (· ++ ·) #[]⟩) else none
  | .lst xs, .int n => if 0 ≤ n ∧ n < 1000000 ∧ xs.length * n.toNat ≤ 1000000 then some (.lst (repD n xs)) else none
  | _, _ => none
def oFdiv : D → D → Option D
  | .int a, .int b => if b ≠ 0 ∧ b.natAbs.log2 < 9000 then some (.int (a.fdiv b)) else none
  | _, _ => none
def oMod : D → D → Option D
  | .int a, .int b => if b ≠ 0 then some (.int (a.fmod b)) else none
  | _, _ => none
instance (i j : Int) : Decidable (CPow i j) := inferInstanceAs (Decidable (_ ∧ _ ∧ _))
def oPowD : D → D → Option D
  | .int a, .int b => if CPow a b then some (.int (a ^ b.toNat)) else none
  | _, _ => none
def oShl : D → D → Option D
  | .int a, .int b => if CPow a b then some (.int (a * 2 ^ b.toNat)) else none
  | _, _ => none
def oShr : D → D → Option D
  | .int a, .int b => if 0 ≤ b then some (.int (a / 2 ^ b.toNat)) else none
  | _, _ => none
def oBand : D → D → Option D
  | .int a, .int b => some (.int (Builtin.bitAnd a b))
  | _, _ => none
def oNeg : D → Option D
  | .int a => some (.int (-a))
  | _ => none
def intsD : List D → Option (List Int)
  | [] => some []
  | .int i :: r => (intsD r).map (i :: ·)
  | _ :: _ => none
def oLt : D → D → Option D
  | .int a, .int b => some (.bl (decide (a < b)))
  | .tup a, .tup b => (intsD a).bind fun x => (intsD b).bind fun y => some (.bl (HT.lexLt x y))
  | _, _ => none
def oLe : D → D → Option D
  | .int a, .int b => some (.bl (decide (a ≤ b)))
  | _, _ => none
def oGt : D → D → Option D
  | .int a, .int b => some (.bl (decide (b < a)))
  | _, _ => none
def oGe : D → D → Option D
  | .int a, .int b => some (.bl (decide (b ≤ a)))
  | _, _ => none
/-- is None, True, False -/
def oIs : D → D → Option D
  | x, .non => some (.bl (match x with | .non => true | _ => false))
  | .bl a, .bl b => some (.bl (decide (a = b)))
  | _, _ => none
def oIsNot : D → D → Option D
  | x, .non => some (.bl (match x with | .non => false | _ => true))
  | .bl a, .bl b => some (.bl (!decide (a = b)))
  | _, _ => none

theorem intsD_vals {R : RC} {S : Hp} : ∀ {ds : List D} {vs : List V} {ns : List Int}, Reps R S vs ds → intsD ds = some ns → vs = ns.map V.int
  | [], _, _, .nil, e => by cases e; rfl
  | d :: ds, _, _, .cons h1 h2, e => by
    cases d <;> simp only [intsD, Option.map_eq_some_iff, reduceCtorEq] at e
    obtain ⟨r, e1, e2⟩ := e
    subst e2
    cases h1
    rw [intsD_vals h2 e1]; rfl
section
variable {X : Cx} {G : GC}
theorem os_int {f : Value → Value → Sem Value} {g : D → D → Option D} {C : Int → Int → Prop} {k : Int → Int → Int} (ho : OpR X f (rI C fun i j => .int (k i j)))
    (hg : ∀ x y z, g x y = some z → ∃ i j, x = .int i ∧ y = .int j ∧ C i j ∧ z = .int (k i j)) : OpR X f (rD2 (G.R X.K) g) := OpR.weak ho fun x y H Q ⟨S, dx, dy, z, sub, rx, ry, e, q⟩ => by
  obtain ⟨i, j, rfl, rfl, c, rfl⟩ := hg _ _ _ e
  cases rx; cases ry
  exact ⟨i, j, rfl, rfl, c, give_int sub q⟩
theorem os_int0 {f : Value → Value → Sem Value} {g : D → D → Option D} {k : Int → Int → V} (ho : OpR X f (rI0 k))
    (hg : ∀ x y z, g x y = some z → ∃ i j, x = .int i ∧ y = .int j ∧ ((∃ n, k i j = .int n ∧ z = .int n) ∨ ∃ n, k i j = .bl n ∧ z = .bl n)) : OpR X f (rD2 (G.R X.K) g) := OpR.weak ho fun x y H Q ⟨S, dx, dy, z, sub, rx, ry, e, q⟩ => by
  obtain ⟨i, j, rfl, rfl, c⟩ := hg _ _ _ e
  cases rx; cases ry
  rcases c with ⟨n, e1, rfl⟩ | ⟨n, e1, rfl⟩
  · exact ⟨i, j, rfl, rfl, by rw [e1]; exact give_int sub q⟩
  · exact ⟨i, j, rfl, rfl, by rw [e1]; exact give_bl sub q⟩
theorem os_sub : OpR X (binaryOp .Sub) (rD2 (G.R X.K) oSub) := os_int0 op_sub fun x y z e => by
  cases x <;> cases y <;> simp only [oSub, Option.some.injEq, reduceCtorEq] at e
  exact ⟨_, _, rfl, rfl, .inl ⟨_, rfl, e.symm⟩⟩
theorem os_fdiv : OpR X (binaryOp .FloorDiv) (rD2 (G.R X.K) oFdiv) := os_int (C := fun _ j => j ≠ 0 ∧ j.natAbs.log2 < 9000) (k := fun i j => i.fdiv j) (opI fun _ _ _ _ _ _ _ hc q => floordiv_int hc.1 q (.inl (PyProof.noPylong_of_log2 hc.2))) fun x y z e => by
  cases x <;> cases y <;> simp only [oFdiv, Option.ite_none_right_eq_some, Option.some.injEq, reduceCtorEq] at e
  exact ⟨_, _, rfl, rfl, e.1, e.2.symm⟩
theorem os_mod : OpR X (binaryOp .Mod) (rD2 (G.R X.K) oMod) := os_int op_modN fun x y z e => by
  cases x <;> cases y <;> simp only [oMod, Option.ite_none_right_eq_some, Option.some.injEq, reduceCtorEq] at e
  exact ⟨_, _, rfl, rfl, e.1, e.2.symm⟩
theorem os_pow : OpR X (binaryOp .Pow) (rD2 (G.R X.K) oPowD) := os_int op_pow fun x y z e => by
  cases x <;> cases y <;> simp only [oPowD, Option.ite_none_right_eq_some, Option.some.injEq, reduceCtorEq] at e
  exact ⟨_, _, rfl, rfl, e.1, e.2.symm⟩
theorem os_shl : OpR X (binaryOp .LShift) (rD2 (G.R X.K) oShl) := os_int op_shl fun x y z e => by
  cases x <;> cases y <;> simp only [oShl, Option.ite_none_right_eq_some, Option.some.injEq, reduceCtorEq] at e
  exact ⟨_, _, rfl, rfl, e.1, e.2.symm⟩
theorem os_shr : OpR X (binaryOp .RShift) (rD2 (G.R X.K) oShr) := os_int op_shr fun x y z e => by
  cases x <;> cases y <;> simp only [oShr, Option.ite_none_right_eq_some, Option.some.injEq, reduceCtorEq] at e
  exact ⟨_, _, rfl, rfl, e.1, e.2.symm⟩
theorem os_band : OpR X (binaryOp .BitAnd) (rD2 (G.R X.K) oBand) := os_int0 op_and fun x y z e => by
  cases x <;> cases y <;> simp only [oBand, Option.some.injEq, reduceCtorEq] at e
  exact ⟨_, _, rfl, rfl, .inl ⟨_, rfl, e.symm⟩⟩
theorem os_neg : UnR X (unaryOp .USub) (rD1 (G.R X.K) oNeg) := UnR.weak un_neg fun x H Q ⟨S, dx, z, sub, rx, e, q⟩ => by
  cases dx <;> simp only [oNeg, Option.some.injEq, reduceCtorEq] at e
  cases rx; subst e
  exact ⟨_, rfl, give_int sub q⟩
theorem os_le : OpR X (compareOp .LtE) (rD2 (G.R X.K) oLe) := os_int0 op_le fun x y z e => by
  cases x <;> cases y <;> simp only [oLe, Option.some.injEq, reduceCtorEq] at e
  exact ⟨_, _, rfl, rfl, .inr ⟨_, rfl, e.symm⟩⟩
theorem os_gt : OpR X (compareOp .Gt) (rD2 (G.R X.K) oGt) := os_int0 op_gt fun x y z e => by
  cases x <;> cases y <;> simp only [oGt, Option.some.injEq, reduceCtorEq] at e
  exact ⟨_, _, rfl, rfl, .inr ⟨_, rfl, e.symm⟩⟩
theorem os_ge : OpR X (compareOp .GtE) (rD2 (G.R X.K) oGe) := os_int0 op_ge fun x y z e => by
  cases x <;> cases y <;> simp only [oGe, Option.some.injEq, reduceCtorEq] at e
  exact ⟨_, _, rfl, rfl, .inr ⟨_, rfl, e.symm⟩⟩
theorem os_lt (hu : X.A.units < cLine) : OpR X (compareOp .Lt) (rD2 (G.R X.K) oLt) := OpR.weak (op_lt.or (op_ltT hu)) fun x y H Q ⟨S, dx, dy, z, sub, rx, ry, e, q⟩ => by
  cases dx <;> cases dy <;> simp only [oLt, Option.some.injEq, Option.bind_eq_some_iff, reduceCtorEq] at e
  · cases rx; cases ry; subst e
    exact .inl ⟨_, _, rfl, rfl, give_bl sub q⟩
  · obtain ⟨xs, e1, ys, e2, rfl⟩ := e
    cases rx with
    | tup s1 r1 =>
      cases ry with
      | tup s2 r2 =>
        have h1 := intsD_vals r1 e1
        have h2 := intsD_vals r2 e2
        subst h1; subst h2
        exact .inr ⟨_, _, xs, ys, rfl, rfl, same_sqT sub s1, same_sqT sub s2, give_bl sub q⟩
theorem Reps.append {R : RC} {S : Hp} : ∀ {vs ws : List V} {ds es : List D}, Reps R S vs ds → Reps R S ws es → Reps R S (vs ++ ws) (ds ++ es)
  | _, _, _, _, .nil, h => h
  | _, _, _, _, .cons h1 h2, h => .cons h1 (Reps.append h2 h)
theorem Reps.nil_iff {R : RC} {S : Hp} {vs : List V} {ds : List D} (h : Reps R S vs ds) : vs = [] ↔ ds = [] := by
  cases h <;> simp
theorem os_add : OpR X (binaryOp .Add) (rD2 (G.R X.K) oAdd) := OpR.weak ((op_add.or op_add_str).or (op_catA.or op_cat)) fun x y H Q ⟨S, dx, dy, z, sub, rx, ry, e, q⟩ => by
  cases dx <;> cases dy <;> simp only [oAdd, Option.some.injEq, Option.ite_none_right_eq_some, reduceCtorEq] at e
  · cases rx; cases ry; subst e
    exact .inl (.inl ⟨_, _, rfl, rfl, give_int sub q⟩)
  · obtain ⟨hl, rfl⟩ := e
    cases rx; cases ry
    exact .inl (.inr ⟨_, _, rfl, rfl, hl, give_str sub q⟩)
  · obtain ⟨hl, rfl⟩ := e
    cases rx with
    | lst s1 r1 =>
      cases ry with
      | lst s2 r2 => exact .inr (.inr ⟨_, _, _, _, rfl, rfl, sub _ _ s1, sub _ _ s2, by rw [r1.length, r2.length]; exact hl, give_lst sub (r1.append r2) q⟩)
  · obtain ⟨hl, rfl⟩ := e
    cases rx with
    | tup s1 r1 =>
      cases ry with
      | tup s2 r2 =>
        refine .inr (.inl ⟨_, _, _, _, rfl, rfl, same_sqT sub s1, same_sqT sub s2, by rw [r1.length, r2.length]; exact hl, fun e => ?_, fun e1 e2 => ?_, fun _ _ => give_tup sub (r1.append r2) q⟩)
        · have e' := r1.nil_iff.mp e
          subst e'
          exact give_rep sub (.tup s2 r2) (by simpa using q)
        · have e' := r2.nil_iff.mp e2
          subst e'
          exact give_rep sub (.tup s1 r1) (by simpa using q)
theorem Reps.rep {R : RC} {S : Hp} {vs : List V} {ds : List D} (h : Reps R S vs ds) : ∀ n : Nat, Reps R S (List.replicate n vs).flatten (List.replicate n ds).flatten
  | 0 => .nil
  | n + 1 => by
    (rw [List.replicate_succ, List.replicate_succ, List.flatten_cons, List.flatten_cons])
    exact h.append (Reps.rep h n)
theorem op_mul_str : OpR X (binaryOp .Mult) (fun x y H Q => ∃ z n, x = .str z ∧ y = .int n ∧ 1 < n ∧ 0 < z.length ∧ z.length * n.toNat ≤ 1000000 ∧ Q (.str ⟨(List.replicate n.toNat z.cps).foldl (· ++ ·) #[]⟩) H) := by
  intro pins s σ H x y v u Q I rx ry ⟨z, n, e1, e2, h1, h2, h3, q⟩
  subst e1; subst e2
  obtain ⟨t, rfl⟩ := rx
  obtain ⟨t', rfl⟩ := ry
  have hn : n < 1000001 := by
    have h4 : n.toNat ≤ z.length * n.toNat := Nat.le_mul_of_pos_left _ h2
    omega
  have h0 : (n == 1 || z.length == 0) = false := by
    have a : (n == 1) = false := beq_eq_false_iff_ne.mpr (by omega)
    have b : (z.length == 0) = false := beq_eq_false_iff_ne.mpr (by omega)
    rw [a, b]; rfl
  refine SB.mul ⟨?_, ?_, ?_⟩ fun t' k => ⟨.str _, H, I.tok _, ⟨t', ?_⟩, q⟩
  · have a : decide (n < -(2 ^ 63 : Int)) = false := decide_eq_false (by omega)
    have b : decide (n ≥ 2 ^ 63) = false := decide_eq_false (by omega)
    rw [a, b]; rfl
  · intro _ _
    have h5 : z.length ≤ 1000000 := Nat.le_trans (Nat.le_mul_of_pos_right _ (by omega)) h3
    have h6 : (1000001 : Int) ≤ (2 ^ 63 - 1) / n := by
      rw [Int.le_ediv_iff_mul_le (by omega)]
      omega
    omega
  · intro _ _
    have : sizeLine = 16777216 := sizeLine_eq
    unfold Builtin.Str.tooLong
    (simp only [decide_eq_false_iff_not])
    omega
  · unfold Txt.mul
    rw [if_neg (by omega), if_neg (by rw [h0]; decide)]
theorem os_mul : OpR X (binaryOp .Mult) (rD2 (G.R X.K) oMul) := OpR.weak (op_mulW.or (op_mul_str.or op_rep)) fun x y H Q ⟨S, dx, dy, z, sub, rx, ry, e, q⟩ => by
  cases dx <;> cases dy <;> simp only [oMul, Option.some.injEq, Option.ite_none_right_eq_some, reduceCtorEq] at e
  · obtain ⟨c, rfl⟩ := e
    cases rx; cases ry
    exact .inl ⟨_, _, rfl, rfl, c, give_int sub q⟩
  · obtain ⟨⟨c1, c2, c3⟩, rfl⟩ := e
    cases rx; cases ry
    exact .inr (.inl ⟨_, _, rfl, rfl, c1, c2, c3, give_str sub q⟩)
  · obtain ⟨⟨c1, c2, c3⟩, rfl⟩ := e
    cases ry
    cases rx with
    | lst s1 r1 =>
      have : sizeLine = 16777216 := sizeLine_eq
      refine .inr (.inr ⟨_, _, _, rfl, rfl, sub _ _ s1, by omega, by omega, by rw [r1.length]; omega, give_lst sub (r1.rep _) q⟩)
theorem os_is : OpR X (compareOp .Is) (rD2 (G.R X.K) oIs) := OpR.weak (op_isN.or op_isBl) fun x y H Q ⟨S, dx, dy, z, sub, rx, ry, e, q⟩ => by
  cases dy <;> simp only [oIs, Option.some.injEq, reduceCtorEq] at e
  · subst e
    cases ry
    refine .inl ⟨rfl, ?_⟩
    cases rx <;> exact give_bl sub q
  · cases dx <;> simp only [Option.some.injEq, reduceCtorEq] at e
    subst e
    cases rx; cases ry
    exact .inr ⟨_, _, rfl, rfl, give_bl sub q⟩
theorem os_isnot : OpR X (compareOp .IsNot) (rD2 (G.R X.K) oIsNot) := OpR.weak (op_notN.or op_notBl) fun x y H Q ⟨S, dx, dy, z, sub, rx, ry, e, q⟩ => by
  cases dy <;> simp only [oIsNot, Option.some.injEq, reduceCtorEq] at e
  · subst e
    cases ry
    refine .inl ⟨rfl, ?_⟩
    cases rx <;> exact give_bl sub q
  · cases dx <;> simp only [Option.some.injEq, reduceCtorEq] at e
    subst e
    cases rx; cases ry
    exact .inr ⟨_, _, rfl, rfl, give_bl sub q⟩
end
end L2.DL
namespace L2.DL
open PySem PyProof.Rows PySem.Spec
/-! ### == , in -/
def D.dep : Nat → D → Bool
  | _, .non => true
  | _, .bl _ => true
  | _, .int _ => true
  | _, .str _ => true
  | n + 1, .lst xs => xs.all (D.dep n)
  | n + 1, .ro xs => xs.all (D.dep n)
  | n + 1, .tup xs => xs.all (D.dep n)
  | _, _ => false
def D.py : Nat → D → PyData
  | _, .non => .none
  | _, .bl b => .bool b
  | _, .int i => .int i
  | _, .str x => .str x
  | n + 1, .lst xs => .list (xs.map (D.py n))
  | n + 1, .ro xs => .list (xs.map (D.py n))
  | n + 1, .tup xs => .tuple (xs.map (D.py n))
  | _, _ => .none
theorem plainAll_map {α : Type} (f : α → PyData) : ∀ xs : List α, (∀ x ∈ xs, (f x).plain = true) → PyData.plainAll (xs.map f) = true
  | [], _ => rfl
  | x :: xs, h => by
    simp only [List.map_cons, PyData.plainAll, Bool.and_eq_true]
    exact ⟨h x (by simp), plainAll_map f xs fun y hy => h y (by simp [hy])⟩
theorem depthAll_map {α : Type} (f : α → PyData) (n : Nat) : ∀ xs : List α, (∀ x ∈ xs, (f x).depth ≤ n) → PyData.depthAll (xs.map f) ≤ n
  | [], _ => by simp [PyData.depthAll]
  | x :: xs, h => by
    (simp only [List.map_cons, PyData.depthAll])
    have h1 := h x (by simp)
    have h2 := depthAll_map f n xs fun y hy => h y (by simp [hy])
    omega
theorem D.py_plain : ∀ (n : Nat) (d : D), d.dep n = true → (d.py n).plain = true ∧ (d.py n).depth ≤ n
  | n, .non, _ => by cases n <;> exact ⟨rfl, Nat.zero_le _⟩
  | n, .bl _, _ => by cases n <;> exact ⟨rfl, Nat.zero_le _⟩
  | n, .int _, _ => by cases n <;> exact ⟨rfl, Nat.zero_le _⟩
  | n, .str _, _ => by cases n <;> exact ⟨rfl, Nat.zero_le _⟩
  | n + 1, .lst xs, h => by
    have h' : ∀ x ∈ xs, x.dep n = true := List.all_eq_true.mp h
    refine ⟨plainAll_map _ _ fun x hx => (D.py_plain n x (h' x hx)).1, ?_⟩
    have := depthAll_map (D.py n) n xs fun x hx => (D.py_plain n x (h' x hx)).2
    simp only [D.py, PyData.depth]; omega
  | n + 1, .ro xs, h => by
    have h' : ∀ x ∈ xs, x.dep n = true := List.all_eq_true.mp h
    refine ⟨plainAll_map _ _ fun x hx => (D.py_plain n x (h' x hx)).1, ?_⟩
    have := depthAll_map (D.py n) n xs fun x hx => (D.py_plain n x (h' x hx)).2
    simp only [D.py, PyData.depth]; omega
  | n + 1, .tup xs, h => by
    have h' : ∀ x ∈ xs, x.dep n = true := List.all_eq_true.mp h
    refine ⟨plainAll_map _ _ fun x hx => (D.py_plain n x (h' x hx)).1, ?_⟩
    have := depthAll_map (D.py n) n xs fun x hx => (D.py_plain n x (h' x hx)).2
    simp only [D.py, PyData.depth]; omega
  | 0, .lst _, h => by cases h
  | 0, .ro _, h => by cases h
  | 0, .tup _, h => by cases h
  | 0, .dct _, h => by cases h
  | 0, .obj _ _, h => by cases h
  | _ + 1, .dct _, h => by cases h
  | _ + 1, .obj _ _, h => by cases h
theorem dpAll_map {R : RC} {H : Hp} {n : Nat} (ih : ∀ (d : D) (v : V), d.dep n = true → Rep R H v d → Dp R.K H v (d.py n)) : ∀ {vs : List V} {ds : List D}, (∀ x ∈ ds, x.dep n = true) → Reps R H vs ds → DpAll R.K H vs (ds.map (D.py n))
  | _, _, _, .nil => .nil
  | _, _, h, .cons h1 h2 => .cons (ih _ _ (h _ (by simp)) h1) (dpAll_map ih (fun x hx => h x (by simp [hx])) h2)
theorem Rep.dp {R : RC} {H : Hp} : ∀ (n : Nat) (d : D) (v : V), d.dep n = true → Rep R H v d → Dp R.K H v (d.py n)
  | n, .non, _, _, r => by cases r; cases n <;> exact .non
  | n, .bl _, _, _, r => by cases r; cases n <;> exact .bl _
  | n, .int _, _, _, r => by cases r; cases n <;> exact .int _
  | n, .str _, _, _, r => by cases r; cases n <;> exact .str _
  | n + 1, .lst xs, _, h, r => by
    cases r with
    | lst s1 r1 => exact .lst (SqL.of s1) (dpAll_map (fun d v => Rep.dp n d v) (List.all_eq_true.mp h) r1)
  | n + 1, .ro xs, _, h, r => by
    cases r with
    | ro s1 r1 => exact .lst s1 (dpAll_map (fun d v => Rep.dp n d v) (List.all_eq_true.mp h) r1)
  | n + 1, .tup xs, _, h, r => by
    cases r with
    | tup s1 r1 => exact .tup s1 (dpAll_map (fun d v => Rep.dp n d v) (List.all_eq_true.mp h) r1)
  | 0, .lst _, _, h, _ => by cases h
  | 0, .ro _, _, h, _ => by cases h
  | 0, .tup _, _, h, _ => by cases h
  | 0, .dct _, _, h, _ => by cases h
  | 0, .obj _ _, _, h, _ => by cases h
  | _ + 1, .dct _, _, h, _ => by cases h
  | _ + 1, .obj _ _, _, h, _ => by cases h
def eqD (x y : D) : Bool := PyData.eqv (x.py 30) (y.py 30)
def oEq (x y : D) : Option D := if x.dep 30 = true ∧ y.dep 30 = true then some (.bl (eqD x y)) else none
def oNe (x y : D) : Option D := if x.dep 30 = true ∧ y.dep 30 = true then some (.bl (!eqD x y)) else none
/-- the items of a list, a tuple -/
def seqD : D → Option (List D)
  | .lst xs => some xs
  | .ro xs => some xs
  | .tup xs => some xs
  | _ => none
def keyD : D → Option Key
  | .int i => some (.inl i)
  | .str x => some (.inr x)
  | _ => none
def lookK (kvs : List (Key × D)) (k : Key) : Option D := match kvs with
  | [] => none
  | (k', v) :: r => if k' = k then some v else lookK r k
def inB (x y : D) : Option Bool := match x, y with
  | .str a, .str b => match a.cps.toList with
    | [c] => some (decide (c ∈ b.cps.toList))
    | _ => none
  | x, .lst ys => if x.dep 30 = true ∧ ys.all (D.dep 29) = true then some (ys.any fun y => eqD y x) else none
  | x, .tup ys => if x.dep 30 = true ∧ ys.all (D.dep 29) = true then some (ys.any fun y => eqD y x) else none
  | x, .dct kvs => (keyD x).map fun k => (lookK kvs k).isSome
  | _, _ => none
theorem RepK.look {R : RC} {S : Hp} {k : Key} : ∀ {vs : List (Key × V)} {ds : List (Key × D)}, RepK R S vs ds → (valV vs k).isSome = (lookK ds k).isSome
  | _, _, .nil => rfl
  | _, _, @RepK.cons _ _ k' v' d' vs ds h1 h2 => by
    unfold lookK
    by_cases h : k' = k
    · rw [if_pos h, valV_pos h]; rfl
    · rw [if_neg h, valV_neg h]; exact RepK.look h2
def oIn (x y : D) : Option D := (inB x y).map .bl
def oNotIn (x y : D) : Option D := (inB x y).map fun b => .bl (!b)
theorem D.dep_mono : ∀ (n m : Nat) (d : D), n ≤ m → d.dep n = true → d.dep m = true ∧ d.py m = d.py n := by
  intro n
  induction n with
  | zero =>
    intro m d _ h
    cases d with
    | non => cases m <;> exact ⟨rfl, rfl⟩
    | bl _ => cases m <;> exact ⟨rfl, rfl⟩
    | int _ => cases m <;> exact ⟨rfl, rfl⟩
    | str _ => cases m <;> exact ⟨rfl, rfl⟩
    | lst _ => cases h
    | ro _ => cases h
    | tup _ => cases h
    | dct _ => cases h
    | obj _ _ => cases h
  | succ n ih =>
    intro m d hm h
    obtain ⟨k, rfl⟩ : ∃ k, m = k + 1 := ⟨m - 1, by omega⟩
    have hk : n ≤ k := by omega
    have all : ∀ xs : List D, xs.all (D.dep n) = true → xs.all (D.dep k) = true ∧ xs.map (D.py k) = xs.map (D.py n) := fun xs hx => by
      have hx' := List.all_eq_true.mp hx
      exact ⟨List.all_eq_true.mpr fun x e => (ih k x hk (hx' x e)).1, List.map_congr_left fun x e => (ih k x hk (hx' x e)).2⟩
    cases d with
    | non => exact ⟨rfl, rfl⟩
    | bl _ => exact ⟨rfl, rfl⟩
    | int _ => exact ⟨rfl, rfl⟩
    | str _ => exact ⟨rfl, rfl⟩
    | lst xs => exact ⟨(all xs h).1, congrArg PyData.list (all xs h).2⟩
    | ro xs => exact ⟨(all xs h).1, congrArg PyData.list (all xs h).2⟩
    | tup xs => exact ⟨(all xs h).1, congrArg PyData.tuple (all xs h).2⟩
    | dct _ => cases h
    | obj _ _ => cases h
section
variable {X : Cx} {G : GC}
theorem os_eq (hu : X.A.units + 64 < cLine) : OpR X (compareOp .Eq) (rD2 (G.R X.K) oEq) := by
  intro pins s σ H x y v u Q I rx ry ⟨S, dx, dy, z, sub, r1, r2, e, q⟩
  unfold oEq at e
  split at e
  · rename_i hd
    cases e
    have d1 := Rep.dp 30 dx x hd.1 (r1.mono sub)
    have d2 := Rep.dp 30 dy y hd.2 (r2.mono sub)
    obtain ⟨as, ra⟩ := Dp.reads I _ x v d1 rx
    obtain ⟨bs, rb⟩ := Dp.reads I _ y u d2 ry
    have p1 := D.py_plain 30 dx hd.1
    have p2 := D.py_plain 30 dy hd.2
    exact SeqAt.eq_plain ra rb p1.1 p2.1 (by omega) ⟨.bl _, H, I, rfl, give_bl sub q⟩
  · cases e
theorem os_ne (hu : X.A.units + 64 < cLine) : OpR X (compareOp .NotEq) (rD2 (G.R X.K) oNe) := by
  intro pins s σ H x y v u Q I rx ry ⟨S, dx, dy, z, sub, r1, r2, e, q⟩
  unfold oNe at e
  split at e
  · rename_i hd
    cases e
    have d1 := Rep.dp 30 dx x hd.1 (r1.mono sub)
    have d2 := Rep.dp 30 dy y hd.2 (r2.mono sub)
    obtain ⟨as, ra⟩ := Dp.reads I _ x v d1 rx
    obtain ⟨bs, rb⟩ := Dp.reads I _ y u d2 ry
    have p1 := D.py_plain 30 dx hd.1
    have p2 := D.py_plain 30 dy hd.2
    exact SeqAt.ne_plain ra rb p1.1 p2.1 (by omega) ⟨.bl _, H, I, rfl, give_bl sub q⟩
  · cases e
theorem all29 {ys : List D} (h : ys.all (D.dep 29) = true) : (ys.any fun y => eqD y x) = ((ys.map (D.py 29)).any fun p => PyData.eqv p (D.py 30 x)) := by
  rw [List.any_map]
  have h' := List.all_eq_true.mp h
  (rw [Bool.eq_iff_iff, List.any_eq_true, List.any_eq_true])
  constructor
  · rintro ⟨y, hy, e⟩
    exact ⟨y, hy, by rw [Function.comp_apply, ← (D.dep_mono 29 30 y (by omega) (h' y hy)).2]; exact e⟩
  · rintro ⟨y, hy, e⟩
    exact ⟨y, hy, by rw [Function.comp_apply, ← (D.dep_mono 29 30 y (by omega) (h' y hy)).2] at e; exact e⟩
theorem inB_run (hu : X.A.units + 64 < cLine) {neg : Bool} {op : CmpOp} (hop : op = if neg then .NotIn else .In) : OpR X (compareOp op) (rD2 (G.R X.K) fun x y => (inB x y).map fun b => .bl (if neg then !b else b)) := by
  intro pins s σ H x y v u Q I rx ry ⟨S, dx, dy, z, sub, r1, r2, e, q⟩
  obtain ⟨b, hb, e⟩ := Option.map_eq_some_iff.mp e
  subst e
  have seq : ∀ (ys : List D), (dy = .lst ys ∨ dy = .tup ys) → dx.dep 30 = true → ys.all (D.dep 29) = true → b = (ys.any fun y => eqD y dx) → wpAny (model X.prog X.w) X.A (compareOp op v u) (EP X pins σ Q) X.xe s := fun ys hy h1 h2 eb => by
    rw [all29 h2] at eb
    have d1 := Rep.dp 30 dx x h1 (r1.mono sub)
    obtain ⟨as, ra⟩ := Dp.reads I _ x v d1 rx
    have p1 := D.py_plain 30 dx h1
    have pa : PyData.plainAll (ys.map (D.py 29)) = true := plainAll_map _ _ fun y hy => (D.py_plain 29 y (List.all_eq_true.mp h2 y hy)).1
    have fin : EP X pins σ Q (.bool (if neg then !b else b)) s := ⟨.bl _, H, I, rfl, give_bl sub q⟩
    subst hop
    rcases hy with hy | hy
    · have d2 := Rep.dp 30 dy y (by rw [hy]; exact h2) (r2.mono sub)
      rw [hy] at d2
      obtain ⟨bs, rb⟩ := Dp.reads I _ y u d2 ry
      cases neg with
      | false => exact SeqAt.in_list_data rb ra pa p1.1 (by omega) (by rw [← eb]; exact fin)
      | true => exact SeqAt.notIn_list_data rb ra pa p1.1 (by omega) (by rw [← eb]; exact fin)
    · have d2 := Rep.dp 30 dy y (by rw [hy]; exact h2) (r2.mono sub)
      rw [hy] at d2
      obtain ⟨bs, rb⟩ := Dp.reads I _ y u d2 ry
      cases neg with
      | false => exact SeqAt.in_tuple_data rb ra pa p1.1 (by omega) (by rw [← eb]; exact fin)
      | true => exact SeqAt.notIn_tuple_data rb ra pa p1.1 (by omega) (by rw [← eb]; exact fin)
  have sg : ∀ a b' : Str, dx = .str a → dy = .str b' → wpAny (model X.prog X.w) X.A (compareOp op v u) (EP X pins σ Q) X.xe s := fun a b' ea eb => by
    subst ea; subst eb
    simp only [inB] at hb
    cases r1; cases r2
    split at hb
    · rename_i c hc
      cases hb
      have ha : a = ⟨#[c]⟩ := TL.ext_tl (by show a.cps.toList = _; rw [hc])
      subst ha
      subst hop
      cases neg with
      | false => exact op_in_sign pins s σ H _ _ v u Q I rx ry ⟨c, b', rfl, rfl, give_bl sub q⟩
      | true => exact op_notIn_sign pins s σ H _ _ v u Q I rx ry ⟨c, b', rfl, rfl, give_bl sub q⟩
    · cases hb
  cases dy with
  | lst ys =>
    have hb' : (if dx.dep 30 = true ∧ ys.all (D.dep 29) = true then some (ys.any fun y => eqD y dx) else none) = some b := by cases dx <;> exact hb
    split at hb'
    · rename_i h; cases hb'; exact seq ys (.inl rfl) h.1 h.2 rfl
    · cases hb'
  | tup ys =>
    have hb' : (if dx.dep 30 = true ∧ ys.all (D.dep 29) = true then some (ys.any fun y => eqD y dx) else none) = some b := by cases dx <;> exact hb
    split at hb'
    · rename_i h; cases hb'; exact seq ys (.inr rfl) h.1 h.2 rfl
    · cases hb'
  | str b' =>
    cases dx with
    | str a => exact sg a b' rfl rfl
    | _ => cases hb
  | dct kvs =>
    have hb' : ((keyD dx).map fun k => (lookK kvs k).isSome) = some b := by cases dx <;> exact hb
    obtain ⟨k, hk, hb'⟩ := Option.map_eq_some_iff.mp hb'
    cases r2 with
    | @dct a vs _ ha hr =>
      (obtain rfl : u = Value.ref a := ry)
      have ex : x = kV k := by cases r1 <;> first | (cases hk; rfl) | cases hk
      subst ex
      have g : DGet H a (kV k) (valV vs k) := DGet.k (sub _ _ ha)
      subst hop
      cases neg with
      | false => exact d_in (by omega) I g rx fun s' I' => ⟨.bl _, H, I', by rw [hr.look, hb']; rfl, give_bl sub q⟩
      | true => exact d_notIn (by omega) I g rx fun s' I' => ⟨.bl _, H, I', by rw [hr.look, hb']; rfl, give_bl sub q⟩
  | _ => cases dx <;> cases hb
theorem os_in (hu : X.A.units + 64 < cLine) : OpR X (compareOp .In) (rD2 (G.R X.K) oIn) := inB_run hu (neg := false) rfl
theorem os_notin (hu : X.A.units + 64 < cLine) : OpR X (compareOp .NotIn) (rD2 (G.R X.K) oNotIn) := inB_run hu (neg := true) rfl
end
end L2.DL
namespace L2.DL
open PySem PyProof.Rows PySem.Spec

/-! ### statements: combinators -/
def sNx : MS := fun ρ => .ok (.nx ρ)
def sBk : MS := fun ρ => .ok (.bk ρ)
def sCt : MS := fun ρ => .ok (.ct ρ)
def sNever : MS := fun _ => .stuck
def sSeq (a b : MS) : MS := fun ρ => (a ρ).bind fun o => match o with
  | .nx ρ' => b ρ'
  | o => .ok o
def sIf (c : MT) (a b : MS) : MS := fun ρ => (c ρ).bind fun x => if x = true then a ρ else b ρ
def sRet (e : ME) : MS := fun ρ => (e ρ).bind fun d => .ok (.rt d)
def sRetN : MS := fun _ => .ok (.rt .non)
def sEx (e : ME) : MS := fun ρ => (e ρ).bind fun _ => .ok (.nx ρ)
/-- targets -/
abbrev MG := D → List Sl → Option (List Sl)
abbrev MGs := List D → List Sl → Option (List Sl)
def gN (i : Nat) : MG := fun d ρ => some (ρ.set i (.d d))
def gsNil : MGs := fun ds ρ => match ds with
  | [] => some ρ
  | _ => none
def gsCons (g : MG) (gs : MGs) : MGs := fun ds ρ => match ds with
  | d :: r => (g d ρ).bind fun ρ1 => gs r ρ1
  | [] => none
def gT (n : Nat) (gs : MGs) : MG := fun d ρ => match d with
  | .tup xs => if xs.length = n then gs xs ρ else none
  | _ => none
def sAsg (e : ME) (g : MG) : MS := fun ρ => (e ρ).bind fun d => (lift (g d ρ)).bind fun ρ' => .ok (.nx ρ')
/-- sources -/
abbrev MI := List Sl → Res (List D)
def forL (g : MG) (body : MS) : List D → MS
  | [], ρ => .ok (.nx ρ)
  | d :: ds, ρ => (lift (g d ρ)).bind fun ρ1 => (body ρ1).bind fun o => match o with
    | .nx ρ2 => forL g body ds ρ2
    | .ct ρ2 => forL g body ds ρ2
    | .bk ρ2 => .ok (.nx ρ2)
    | .rt d => .ok (.rt d)
def sFor (src : MI) (g : MG) (body : MS) : MS := fun ρ => (src ρ).bind fun ds => forL g body ds ρ
def whileL (c : MT) (body : MS) : Nat → MS
  | 0, _ => .stuck
  | n + 1, ρ => (c ρ).bind fun b => if b = true then (body ρ).bind fun o => (match o with
    | .nx ρ2 => whileL c body n ρ2
    | .ct ρ2 => whileL c body n ρ2
    | .bk ρ2 => .ok (.nx ρ2)
    | .rt d => .ok (.rt d)) else .ok (.nx ρ)
def sWhile (fuel : List Sl → Nat) (c : MT) (body : MS) : MS := fun ρ => whileL c body (fuel ρ) ρ
/-- a list display given to a name that is to grow -/
def sNewL (i : Nat) (as : MA) : MS := fun ρ => (as ρ).bind fun xs => if i < ρ.length ∧ xs.length ≤ sizeLine then .ok (.nx (ρ.set i (.bl xs))) else .stuck
def sFrz (i : Nat) (m : MS) : MS := fun ρ => match ρ[i]? with
  | some (.bl xs) => m (ρ.set i (.d (.lst xs)))
  | some (.bd xs) => m (ρ.set i (.d (.dct xs)))
  | some (.bo c fs) => m (ρ.set i (.d (.obj c fs)))
  | _ => m ρ
def sApp (i : Nat) (e : ME) : MS := fun ρ => match ρ[i]? with
  | some (.bl xs) => (e ρ).bind fun x => if xs.length < sizeLine then .ok (.nx (ρ.set i (.bl (xs ++ [x])))) else .stuck
  | _ => .stuck
def setD (xs : List D) (k x : D) : Option (List D) := match k with
  | .int k => (ixN xs.length k).map fun j => xs.set j x
  | _ => none
def sSetI (i : Nat) (ie e : ME) : MS := fun ρ => match ρ[i]? with
  | some (.bl xs) => (e ρ).bind fun x => (ie ρ).bind fun k => (lift (setD xs k x)).bind fun ys => .ok (.nx (ρ.set i (.bl ys)))
  | _ => .stuck
/-- a list comprehension -/
def wipeD (ρ : List Sl) : List Nat → List Sl
  | [] => ρ
  | v :: vs => (wipeD ρ vs).set v .no
/-- nothing may be raised here -/
def nox {α : Type} : Res α → Res α
  | .ok a => .ok a
  | _ => .stuck
def compL (g : MG) (tt : MT) (te : ME) (ρ : List Sl) : List D → Res (List D)
  | [] => .ok []
  | d :: ds => (lift (g d ρ)).bind fun ρ1 => (nox (tt ρ1)).bind fun b => if b = true then (nox (te ρ1)).bind fun x => (compL g tt te ρ ds).bind fun r => .ok (x :: r) else compL g tt te ρ ds
def eLc (src : MI) (vs : List Nat) (g : MG) (tt : MT) (te : ME) : ME := fun ρ => (src ρ).bind fun ds => if ds.length ≤ sizeLine then (compL g tt te (wipeD ρ vs) ds).bind fun r => .ok (.lst r) else .stuck
def cYes : MT := fun _ => .ok true
/-- ranges -/
def rangeD (lo : Int) (n : Nat) : List D := (List.range n).map fun k => .int (lo + (k : Nat))
theorem p62 {j : Int} (h : j.natAbs < 4611686018427387904) : -(2 ^ 62) ≤ j ∧ j < 2 ^ 62 := by
  have e : (2 : Int) ^ 62 = 4611686018427387904 := by decide
  rw [e]
  omega
def iR1 (as : MA) : MI := fun ρ => (as ρ).bind fun xs => match xs with
  | [.int j] => if j.natAbs < 4611686018427387904 then .ok (rangeD 0 j.toNat) else .stuck
  | _ => .stuck
def iR2 (as : MA) : MI := fun ρ => (as ρ).bind fun xs => match xs with
  | [.int i, .int j] => if i.natAbs < 4611686018427387904 ∧ j.natAbs < 4611686018427387904 then .ok (rangeD i (j - i).toNat) else .stuck
  | _ => .stuck
def iTp (e : ME) : MI := fun ρ => (e ρ).bind fun d => match d with
  | .tup xs => .ok xs
  | _ => .stuck
def iLs (e : ME) : MI := fun ρ => (e ρ).bind fun d => match d with
  | .lst xs => .ok xs
  | .ro xs => .ok xs
  | _ => .stuck
def signsD (x : Str) : List D := x.cps.toList.map fun c => .str ⟨#[c]⟩
def iSt (e : ME) : MI := fun ρ => (e ρ).bind fun d => match d with
  | .str x => .ok (signsD x)
  | _ => .stuck

/-! ### what an iterator walks -/
structure Walks (R : RC) (J : It) (S : Hp) (ds : List D) : Prop where
  go : ∀ (i : Nat) S1 H, i < ds.length → Same S S1 → Same S1 H → J.go i H
  yld : ∀ (i : Nat) S1 H x H', i < ds.length → Same S S1 → Same S1 H → J.yld i H x H' → ∃ S2 d, Ext S1 H S2 H' ∧ Same S2 H' ∧ ds[i]? = some d ∧ Rep R S2 x d
  stop : ∀ S1 H, Same S S1 → Same S1 H → J.stop ds.length H
def tDI (K : PySem.W.Frag) (G : GC) (W : WX) (m : MI) : TI := fun σ H Rr => ∃ S ρ, RE K G S H σ ρ ∧
  After K G W S H σ (m ρ) fun ds => ∀ J S' H', Ext S H S' H' → Same S' H' → Walks (G.R K) J S' ds → Rr J H'
def tDG (K : PySem.W.Frag) (G : GC) (vs : List Nat) (g : MG) : TG := fun v σ H Q => ∃ S ρ x ρ', RE K G S H σ ρ ∧ Rep (G.R K) S v x ∧ g x ρ = some ρ' ∧ ∀ σ', RE K G S H σ' ρ' → wipe σ' vs = wipe σ vs → Q σ' H
def tDGs (K : PySem.W.Frag) (G : GC) (vs : List Nat) (g : MGs) : TGs := fun us σ H Q => ∃ S ρ xs ρ', RE K G S H σ ρ ∧ Reps (G.R K) S us xs ∧ g xs ρ = some ρ' ∧ ∀ σ', RE K G S H σ' ρ' → wipe σ' vs = wipe σ vs → Q σ' H
abbrev DI (X : Cx) (G : GC) (W : WX) (tg e : Expr) (m : MI) : Prop := PI X tg e (tDI X.K G W m)
abbrev DG (X : Cx) (G : GC) (vs : List Nat) (e : Expr) (m : MG) : Prop := PG X e (tDG X.K G vs m)
abbrev DGs (X : Cx) (G : GC) (vs : List Nat) (e : List Expr) (m : MGs) : Prop := PGs X e (tDGs X.K G vs m)
theorem pi_weak {X : Cx} {tg e : Expr} {t t' : TI} (h : PI X tg e t) (i : ∀ σ H Q, t' σ H Q → t σ H Q) : PI X tg e t' := ⟨fun pins s σ H Q I q => h.run pins s σ H Q I (i σ H Q q)⟩
theorem pg_weak {X : Cx} {e : Expr} {t t' : TG} (h : PG X e t) (i : ∀ v σ H Q, t' v σ H Q → t v σ H Q) : PG X e t' := ⟨fun pins s σ H v u Q I r q => h.run pins s σ H v u Q I r (i v σ H Q q)⟩
theorem pgs_weak {X : Cx} {e : List Expr} {t t' : TGs} (h : PGs X e t) (i : ∀ v σ H Q, t' v σ H Q → t v σ H Q) : PGs X e t' := ⟨fun pins s σ H v u Q I r q => h.run pins s σ H v u Q I r (i v σ H Q q)⟩
theorem wipe_get {σ : St} {i : Nat} : ∀ {vs : List Nat}, i ∉ vs → (wipe σ vs)[i]? = σ[i]?
  | [], _ => rfl
  | v :: vs, h => by
    unfold wipe
    rw [List.getElem?_set_ne (fun e => h (by simp [e])), wipe_get fun z => h (by simp [z])]
theorem wipe_set {σ : St} {i : Nat} {x : Option V} {vs : List Nat} (h : i ∈ vs) : wipe (σ.set i x) vs = wipe σ vs := by
  induction vs with
  | nil => cases h
  | cons v vs ih =>
    unfold wipe
    by_cases hv : i ∈ vs
    · rw [ih hv]
    · have e : i = v := by
        (rcases List.mem_cons.mp h with e | e)
        · exact e
        · exact absurd e hv
      subst e
      apply List.ext_getElem?
      intro j
      by_cases hj : i = j
      · subst hj
        by_cases hl : i < σ.length
        · rw [List.getElem?_set_self (by rw [wipe_length, List.length_set]; exact hl), List.getElem?_set_self (by rw [wipe_length]; exact hl)]
        · rw [List.getElem?_eq_none_iff.mpr (by rw [List.length_set, wipe_length, List.length_set]; omega), List.getElem?_eq_none_iff.mpr (by rw [List.length_set, wipe_length]; omega)]
      · rw [List.getElem?_set_ne hj, List.getElem?_set_ne hj]
        have ne2 : ∀ (ws : List Nat), (wipe (σ.set i x) ws)[j]? = (wipe σ ws)[j]? := by
          intro ws
          induction ws with
          | nil => exact List.getElem?_set_ne hj
          | cons w ws ihw =>
            unfold wipe
            by_cases hw : w = j
            · subst hw
              by_cases hl : w < σ.length
              · rw [List.getElem?_set_self (by rw [wipe_length, List.length_set]; exact hl), List.getElem?_set_self (by rw [wipe_length]; exact hl)]
              · rw [List.getElem?_eq_none_iff.mpr (by rw [List.length_set, wipe_length, List.length_set]; omega), List.getElem?_eq_none_iff.mpr (by rw [List.length_set, wipe_length]; omega)]
            · rw [List.getElem?_set_ne hw, List.getElem?_set_ne hw, ihw]
        exact ne2 vs
section
variable {X : Cx} {G : GC} {W : WX} {a b c e : Expr} {ma mb mc me : ME} {pos : Pos} {tg : Expr} {vs : List Nat}
theorem dg_name {i : Nat} {x : Str} (hN : X.N.Nodup) (hi : X.N[i]? = some x) (hx : Loc X.env.scope x) (hf : X.fn x = true ∨ X.env.scope.names.lookup x = some .local := by first | exact .inl rfl | exact .inr rfl | assumption) (hv : i ∈ vs) (hG : G.ex = none := by rfl) : DG X G vs (.Name x pos) (gN i) :=
  pg_weak (pg_name hN hi hx hf) fun v σ H Q ⟨S, ρ, x, ρ', re, r, e, q⟩ => by
    cases e
    exact q _ (RE.set hG re i r) (wipe_set hv)
theorem dgs_nil : DGs X G vs [] gsNil := pgs_weak pgs_nil fun v σ H Q ⟨S, ρ, xs, ρ', re, r, e, q⟩ => by
  cases r with
  | nil => cases e; exact ⟨rfl, q σ re rfl⟩
  | cons _ _ => cases e
theorem dgs_cons {es : List Expr} {g : MG} {gs : MGs} (h1 : DG X G vs e g) (h2 : DGs X G vs es gs) (hs : (assignEach (e :: es) X.env).map (·.2) = assign e X.env :: (assignEach es X.env).map (·.2) := by rfl) : DGs X G vs (e :: es) (gsCons g gs) :=
  pgs_weak (pgs_cons h1 h2 hs) fun v σ H Q ⟨S, ρ, xs, ρ', re, r, e, q⟩ => by
    cases r with
    | nil => cases e
    | @cons v1 d1 vs1 ds1 r1 r2 =>
      simp only [gsCons] at e
      cases e1 : g d1 ρ with
      | none => rw [e1] at e; cases e
      | some ρ1 =>
        rw [e1] at e
        refine ⟨_, _, rfl, S, ρ, d1, ρ1, re, r1, e1, fun σ1 re1 w1 => ⟨S, ρ1, ds1, ρ', re1, r2, e, fun σ2 re2 w2 => q σ2 re2 (w2.trans w1)⟩⟩
theorem dg_tup {es : List Expr} {k n : Nat} {gs : MGs} (hc : X.calm = true) (h : DGs X G vs es gs) (hn : (assignEach es X.env).length = n := by rfl) (hst : (assignEach es X.env).findIdx? (·.1) = none := by rfl) : DG X G vs (.Tuple es k pos) (gT n gs) :=
  pg_weak (pg_tup hc h hn hst) fun v σ H Q ⟨S, ρ, x, ρ', re, r, e, q⟩ => by
    cases r with
    | @tup a vs' ds s1 r1 =>
      simp only [gT] at e
      split at e
      · rename_i hl
        exact ⟨a, vs', rfl, same_sqT re.sub s1, by rw [r1.length]; exact hl, S, ρ, ds, ρ', re, r1, e, q⟩
      · cases e
    | _ => cases e
theorem Reps.set {R : RC} {S : Hp} {v : V} {d : D} (h : Rep R S v d) : ∀ {vs : List V} {ds : List D} (i : Nat), Reps R S vs ds → Reps R S (vs.set i v) (ds.set i d)
  | _, _, _, .nil => .nil
  | _, _, 0, .cons _ h2 => .cons h h2
  | _, _, i + 1, .cons h1 h2 => .cons h1 (Reps.set h i h2)
theorem Reps.get {R : RC} {S : Hp} : ∀ {vs : List V} {ds : List D} {i : Nat} {x : V}, Reps R S vs ds → vs[i]? = some x → ∃ d, ds[i]? = some d ∧ Rep R S x d
  | _, _, _, _, .nil,
        e => by simp at e
  | _, _, 0, x, .cons h1 _, e => by
    (simp only [List.getElem?_cons_zero, Option.some.injEq] at e)
    subst e
    exact ⟨_, rfl, h1⟩
  | _, _, i + 1, x, .cons _ h2, e => by
    (simp only [List.getElem?_cons_succ] at e ⊢)
    exact Reps.get h2 e
theorem walks_list {R : RC} {S : Hp} {p : Addr} {vs : List V} {ds : List D} (h : SqL R.K S p vs) (r : Reps R S vs ds) : Walks R (Itl R.K p) S ds where
  go := fun i S1 H hi s1 s2 => by
    have hl := r.length
    exact ⟨vs, vs[i], same_sqL (s1.trans s2) h, by rw [List.getElem?_eq_getElem (by omega)]⟩
  yld := fun i S1 H x H' hi s1 s2 y => by
    obtain ⟨e, y⟩ := y
    subst e
    obtain ⟨d, e, rd⟩ := r.get (y vs (same_sqL (s1.trans s2) h))
    exact ⟨S1, d, .refl _ _, s2, e, rd.mono s1⟩
  stop := fun S1 H s1 s2 => ⟨vs, same_sqL (s1.trans s2) h, by rw [r.length]; exact Nat.le_refl _⟩
theorem walks_tup {R : RC} {S : Hp} {p : Addr} {vs : List V} {ds : List D} (h : SqT R.K S p vs) (r : Reps R S vs ds) : Walks R (Itt R.K p) S ds where
  go := fun i S1 H hi s1 s2 => by
    have hl := r.length
    exact ⟨vs, vs[i], same_sqT (s1.trans s2) h, by rw [List.getElem?_eq_getElem (by omega)]⟩
  yld := fun i S1 H x H' hi s1 s2 y => by
    obtain ⟨e, y⟩ := y
    subst e
    obtain ⟨d, e, rd⟩ := r.get (y vs (same_sqT (s1.trans s2) h))
    exact ⟨S1, d, .refl _ _, s2, e, rd.mono s1⟩
  stop := fun S1 H s1 s2 => ⟨vs, same_sqT (s1.trans s2) h, by rw [r.length]; exact Nat.le_refl _⟩
theorem rangeD_length (lo : Int) (n : Nat) : (rangeD lo n).length = n := by simp [rangeD]
theorem walks_range {R : RC} {S : Hp} {lo : Int} {n : Nat} : Walks R (Itr lo n) S (rangeD lo n) where
  go := fun i S1 H hi s1 s2 => by rw [rangeD_length] at hi; exact hi
  yld := fun i S1 H x H' hi s1 s2 y => by
    rw [rangeD_length] at hi
    obtain ⟨e, y⟩ := y
    subst e y
    exact ⟨S1, .int (lo + (i : Nat)), .refl _ _, s2, by simp [rangeD, hi], .int _⟩
  stop := fun S1 H s1 s2 => by rw [rangeD_length]; exact Nat.le_refl _
theorem walks_str {R : RC} {S : Hp} {x : Str} : Walks R (Its x) S (signsD x) where
  go := fun i S1 H hi s1 s2 => by simp only [signsD, List.length_map, Array.length_toList] at hi; exact hi
  yld := fun i S1 H v H' hi s1 s2 y => by
    obtain ⟨e, c, y, ev⟩ := y
    subst e ev
    exact ⟨S1, .str ⟨#[c]⟩, .refl _ _, s2, by simp [signsD, y], .str _⟩
  stop := fun S1 H s1 s2 => by
    show x.cps.size ≤ (signsD x).length
    simp [signsD]
theorem di_range1 {p p2 : Pos} {mas : MA} (hg : Gl X "range") (hm : X.mg "range" = none) (ha : DA X G W [a] mas) (hs : starEach [a] X.env = [(false, eval a X.env)] := by rfl) : DI X G W tg (.Call (.Name "range" p) [a] [] p2) (iR1 mas) :=
  pi_weak (pi_range1 hg hm ha hs) fun σ H Q ⟨S, ρ, re, h⟩ => by
    refine ⟨S, ρ, re, After.bind h fun xs h vs S1 H1 e1 s1 r1 => ?_⟩
    split at h
    · split at h
      · rename_i j hj
        cases r1 with
        | cons q1 q2 =>
          cases q2; cases q1
          exact ⟨j, rfl, (p62 hj).1, (p62 hj).2, h _ S1 H1 e1 s1 walks_range⟩
      · exact h.elim
    · exact h.elim
theorem di_range2 {p p2 : Pos} {mas : MA} (hg : Gl X "range") (hm : X.mg "range" = none) (ha : DA X G W [a, b] mas) (hs : starEach [a, b] X.env = [(false, eval a X.env), (false, eval b X.env)] := by rfl) (hs2 : starEach [b] X.env = [(false, eval b X.env)] := by rfl) : DI X G W tg (.Call (.Name "range" p) [a, b] [] p2) (iR2 mas) :=
  pi_weak (pi_range2 hg hm ha hs hs2) fun σ H Q ⟨S, ρ, re, h⟩ => by
    refine ⟨S, ρ, re, After.bind h fun xs h vs S1 H1 e1 s1 r1 => ?_⟩
    split at h
    · split at h
      · rename_i i j hj
        cases r1 with
        | cons q1 q2 =>
          cases q2 with
          | cons q2 q3 =>
            cases q3; cases q1; cases q2
            exact ⟨i, j, rfl, ⟨(p62 hj.1).1, (p62 hj.1).2, (p62 hj.2).1, (p62 hj.2).2⟩, h _ S1 H1 e1 s1 walks_range⟩
      · exact h.elim
    · exact h.elim
theorem di_tup (ha : DE X G W a ma) : DI X G W tg a (iTp ma) :=
  pi_weak (pi_tup ha) fun σ H Q ⟨S, ρ, re, h⟩ => by
    refine ⟨S, ρ, re, After.bind h fun x h v S1 H1 e1 s1 r1 => ?_⟩
    cases r1 <;> (try exact h.elim)
    rename_i a vs ds q1 r1
    exact ⟨a, rfl, ⟨vs, same_sqT s1 q1⟩, h _ S1 H1 e1 s1 (walks_tup q1 r1)⟩
theorem di_list (ha : DE X G W a ma) : DI X G W tg a (iLs ma) :=
  pi_weak (pi_list ha) fun σ H Q ⟨S, ρ, re, h⟩ => by
    refine ⟨S, ρ, re, After.bind h fun x h v S1 H1 e1 s1 r1 => ?_⟩
    cases r1 <;> (try exact h.elim)
    · rename_i a vs ds q1 r1
      exact ⟨a, rfl, ⟨vs, SqL.of (s1 _ _ q1)⟩, h _ S1 H1 e1 s1 (walks_list (SqL.of q1) r1)⟩
    · rename_i a vs ds q1 r1
      exact ⟨a, rfl, ⟨vs, same_sqL s1 q1⟩, h _ S1 H1 e1 s1 (walks_list q1 r1)⟩
theorem di_str (ha : DE X G W a ma) : DI X G W tg a (iSt ma) :=
  pi_weak (pi_str ha) fun σ H Q ⟨S, ρ, re, h⟩ => by
    refine ⟨S, ρ, re, After.bind h fun x h v S1 H1 e1 s1 r1 => ?_⟩
    cases r1 <;> (try exact h.elim)
    rename_i x
    exact ⟨x, rfl, h _ S1 H1 e1 s1 walks_str⟩
end
end L2.DL
namespace L2.DL
open PySem PyProof.Rows PySem.Spec
section
variable {K : PySem.W.Frag} {G : GC} {W : WX} {S H S' H' : Hp} {σ : St} {ρ : List Sl}
theorem WantS.toE {c : Nat} {fs : List (Str × D)} (re : RE K G S H σ ρ) (h : WantS K G W c fs) : Want K G W S H σ c fs := fun dd S2 H2 e2 s2 x => h dd σ S2 H2 (re.ext.trans e2) s2 x
theorem AfterS.bind {α β : Type} {r : Res α} {f : α → Res β} {k : β → Prop} {k' : α → Prop} (h : AfterS K G W (r.bind f) k) (i : ∀ a, AfterS K G W (f a) k → k' a) : AfterS K G W r k' := by
  cases r with
  | ok a => exact i a h
  | ex c fs => exact h
  | stuck => exact h
/-- a statement's first expression -/
theorem AfterS.toE {α β : Type} {r : Res α} {f : α → Res β} {k : β → Prop} {k' : α → Prop} (h : AfterS K G W (r.bind f) k) (re : RE K G S H σ ρ) (i : ∀ a, AfterS K G W (f a) k → k' a) : After K G W S H σ r k' := by
  cases r with
  | ok a => exact i a h
  | ex c fs => exact WantS.toE re h
  | stuck => exact h
theorem AfterS.imp {α : Type} {r : Res α} {k k' : α → Prop} (h : AfterS K G W r k) (i : ∀ a, k a → k' a) : AfterS K G W r k' := by
  cases r with
  | ok a => exact i a h
  | ex c fs => exact h
  | stuck => exact h
theorem Fin.mono {De De' : Ends} (s : Same S S') {o : O} (h : Fin K G De S o) (e1 : De.nx = De'.nx) (e2 : De.rt = De'.rt) (e3 : De.bk = De'.bk) (e4 : De.ct = De'.ct) : Fin K G De' S' o := by
  cases o with
  | nx ρ' => intro σ' S2 H2 s2 re; rw [← e1]; exact h σ' S2 H2 (s.trans s2) re
  | bk ρ' => intro σ' S2 H2 s2 re; rw [← e3]; exact h σ' S2 H2 (s.trans s2) re
  | ct ρ' => intro σ' S2 H2 s2 re; rw [← e4]; exact h σ' S2 H2 (s.trans s2) re
  | rt d => rw [Fin, ← e2]; exact h
theorem Fin.later {De : Ends} (s : Same S S') {o : O} (h : Fin K G De S o) : Fin K G De S' o := h.mono s rfl rfl rfl rfl
end
section
variable {X : Cx} {G : GC} {W : WX} {a b c e : Expr} {ma mb mc me : ME} {pos : Pos} {m1 m2 : MS} {s1 s2 : Stmt} {ss ss2 : List Stmt} {cA : MT} {x : Str}
theorem dss_nil : DSs X G W [] sNx := pss_weak pss_nil fun De σ H ⟨S, ρ, re, h⟩ => h σ S H (fun _ _ e => e) re
theorem t_seq {K : PySem.W.Frag} {De : Ends} {σ : St} {H : Hp} (h : tDS K G W (sSeq m1 m2) De σ H) : tDS K G W m1 { De with nx := tDS K G W m2 De } σ H := by
  obtain ⟨S, ρ, re, h⟩ := h
  refine ⟨S, ρ, re, AfterS.bind h fun o h => ?_⟩
  cases o with
  | nx ρ' => intro σ' S' H' s re'; exact ⟨S', ρ', re', AfterS.imp h fun o q => q.later s⟩
  | bk ρ' => exact h
  | ct ρ' => exact h
  | rt d => exact h
theorem dss_cons (h1 : DS X G W s1 m1) (h2 : DSs X G W ss m2) : DSs X G W (s1 :: ss) (sSeq m1 m2) := pss_weak (pss_cons h1 h2) fun _ _ _ => t_seq
theorem dss_one (h1 : DS X G W s1 m1) : DSs X G W [s1] m1 := pss_one h1
theorem ds_pass : DS X G W (.Pass pos) sNx := ps_weak ps_pass fun De σ H ⟨S, ρ, re, h⟩ => h σ S H (fun _ _ e => e) re
theorem ds_break : DS X G W (.Break pos) sBk := ps_weak ps_break fun De σ H ⟨S, ρ, re, h⟩ => h σ S H (fun _ _ e => e) re
theorem ds_continue : DS X G W (.Continue pos) sCt := ps_weak ps_continue fun De σ H ⟨S, ρ, re, h⟩ => h σ S H (fun _ _ e => e) re
theorem ds_never : DS X G W s1 sNever := ps_weak ps_never fun De σ H ⟨S, ρ, re, h⟩ => h
theorem dss_never : DSs X G W ss sNever := pss_weak pss_never fun De σ H ⟨S, ρ, re, h⟩ => h
theorem ds_ret (he : DE X G W e me) : DS X G W (.Return (some e) pos) (sRet me) := ps_weak (ps_ret he) fun De σ H ⟨S, ρ, re, h⟩ =>
  ⟨S, ρ, re, AfterS.toE h re fun d h v S1 H1 e1 s1 r1 => h v S1 H1 (re.ext.trans e1) s1 r1⟩
theorem ds_ex (he : DE X G W e me) (hs : swapsWith e none pos.line X.env = pure false := by rfl) : DS X G W (.Expr e pos) (sEx me) := ps_weak (ps_expr he hs) fun De σ H ⟨S, ρ, re, h⟩ =>
  ⟨S, ρ, re, AfterS.toE h re fun d h v S1 H1 e1 s1 r1 => h σ S1 H1 e1.s (re.grow e1 s1)⟩
theorem ds_set {i : Nat} {p2 : Pos} (hN : X.N.Nodup) (hi : X.N[i]? = some x) (hx : Loc X.env.scope x) (he : DE X G W e me) (hs : swapsWith e (some (.Name x p2)) pos.line X.env = pure false := by rfl) (hf : X.fn x = true ∨ X.env.scope.names.lookup x = some .local := by first | exact .inl rfl | exact .inr rfl | assumption) (hG : G.ex = none := by rfl) :
    DS X G W (.Assign [.Name x p2] e pos) (sAsg me (gN i)) := ps_weak (ps_set hN hi hx he hs hf) fun De σ H ⟨S, ρ, re, h⟩ =>
  ⟨S, ρ, re, AfterS.toE h re fun d h v S1 H1 e1 s1 r1 => h _ S1 H1 e1.s (RE.set hG (re.grow e1 s1) i r1)⟩
theorem ds_asg {tg : Expr} {g : MG} {vs : List Nat} (he : DE X G W e me) (hg : DG X G vs tg g) (hs : swapsWithSole [tg] e pos.line X.env = pure false := by rfl) (hw : swappedStores [tg] e X.env = pure none := by rfl)
    (h1 : (assignEach [tg] X.env).map (·.2) = [assign tg X.env] := by rfl) : DS X G W (.Assign [tg] e pos) (sAsg me g) := ps_weak (ps_asg he hg hs hw h1) fun De σ H ⟨S, ρ, re, h⟩ => by
  refine ⟨S, ρ, re, AfterS.toE h re fun d h v S1 H1 e1 s1 r1 => ?_⟩
  cases e2 : g d ρ with
  | some ρ' =>
    rw [e2] at h
    exact ⟨S1, ρ, d, ρ', re.grow e1 s1, r1, e2, fun σ' re' _ => h σ' S1 H1 e1.s re'⟩
  | none => rw [e2] at h; exact h.elim
theorem ds_if (hc : DT X G W c cA) (ha : DSs X G W ss m1) (hb : DSs X G W ss2 m2) : DS X G W (.If c ss ss2 pos) (sIf cA m1 m2) := ps_weak (ps_if hc ha hb) fun De σ H ⟨S, ρ, re, h⟩ => by
  refine ⟨S, ρ, re, AfterS.toE h re fun b h S1 H1 e1 s1 => ?_⟩
  cases b with
  | true => exact ⟨S1, ρ, re.grow e1 s1, AfterS.imp h fun o q => q.later e1.s⟩
  | false => exact ⟨S1, ρ, re.grow e1 s1, AfterS.imp h fun o q => q.later e1.s⟩
theorem ds_for {tg iter : Expr} {src : MI} {g : MG} {vs : List Nat} (hp : PassesOwn (model X.prog X.w) X.A X.env X.xe) (hc : X.calm = true) (hi : DI X G W tg iter src) (hg : DG X G vs tg g) (hb : DSs X G W ss m1)
    (hs : ∀ x, foldedSetIterable iter X.env x = pure x := by intro _; rfl) : DS X G W (.For tg iter ss [] pos) (sFor src g m1) := ps_weak (ps_for hp hc hi hg hb hs) fun De σ H ⟨S, ρ, re, h⟩ => by
  refine ⟨S, ρ, re, AfterS.toE h re fun ds h J S1 H1 e1 s1 wk => ?_⟩
  refine ⟨fun i m σ H => ∃ S2 ρ2, RE X.K G S2 H σ ρ2 ∧ Same S1 S2 ∧ i ≤ ds.length ∧ m = ds.length - i ∧ AfterS X.K G W (forL g m1 (ds.drop i) ρ2) (Fin X.K G De S), ⟨_, S1, ρ, re.grow e1 s1, fun _ _ e => e, Nat.zero_le _, rfl, by rw [List.drop_zero]; exact h⟩, ?_⟩
  rintro i m σ2 H2 ⟨S2, ρ2, re2, s2, hi, hm, h⟩
  by_cases hlt : i < ds.length
  · refine .inr ⟨wk.go i S2 H2 hlt s2 re2.sub, fun σ' H' => ∃ S3 ρ3, RE X.K G S3 H' σ' ρ3 ∧ Same S1 S3 ∧ AfterS X.K G W (forL g m1 (ds.drop (i + 1)) ρ3) (Fin X.K G De S), fun σ' H' ⟨S3, ρ3, re3, s3, h3⟩ => ⟨ds.length - (i + 1), by omega, S3, ρ3, re3, s3, hlt, rfl, h3⟩, fun x H' y => ?_⟩
    obtain ⟨S3, d, e3, s3, hd, r3⟩ := wk.yld i S2 H2 x H' hlt s2 re2.sub y
    have hd' : ds.drop i = d :: ds.drop (i + 1) := by
      (rw [List.drop_eq_getElem_cons hlt])
      congr 1
      rw [List.getElem?_eq_getElem hlt] at hd
      exact Option.some.inj hd
    rw [hd'] at h
    simp only [forL] at h
    cases e2 : g d ρ2 with
    | none => rw [e2] at h; exact h.elim
    | some ρ' =>
      rw [e2] at h
      refine ⟨S3, ρ2, d, ρ', re2.grow e3 s3, r3, e2, fun σ' re' _ => ⟨S3, ρ', re', AfterS.bind h fun o h => ?_⟩⟩
      cases o with
      | nx ρ3 => exact fun σ4 S4 H4 s4 re4 => ⟨S4, ρ3, re4, (s2.trans e3.s).trans s4, h⟩
      | ct ρ3 => exact fun σ4 S4 H4 s4 re4 => ⟨S4, ρ3, re4, (s2.trans e3.s).trans s4, h⟩
      | bk ρ3 => exact fun σ4 S4 H4 s4 re4 => h σ4 S4 H4 (((e1.s.trans s2).trans e3.s).trans s4) re4
      | rt d => exact h
  · have e : i = ds.length := by omega
    subst e
    refine .inl ⟨wk.stop S2 H2 s2 re2.sub, ?_⟩
    rw [List.drop_length] at h
    exact h σ2 S2 H2 (e1.s.trans s2) re2
theorem ds_while {fuel : List Sl → Nat} (hp : PassesOwn (model X.prog X.w) X.A X.env X.xe) (hc : DT X G W c cA) (hb : DSs X G W ss m1) : DS X G W (.While c ss [] pos) (sWhile fuel cA m1) := ps_weak (ps_while hp hc hb) fun De σ H ⟨S, ρ, re, h⟩ => by
  refine ⟨fun m σ H => ∃ S2 ρ2, RE X.K G S2 H σ ρ2 ∧ Same S S2 ∧ AfterS X.K G W (whileL cA m1 m ρ2) (Fin X.K G De S), ⟨fuel ρ, S, ρ, re, fun _ _ e => e, h⟩, ?_⟩
  rintro m σ2 H2 ⟨S2, ρ2, re2, s2, h⟩
  cases m with
  | zero => exact h.elim
  | succ m =>
    simp only [whileL] at h
    refine ⟨S2, ρ2, re2, AfterS.toE h re2 fun b h S3 H3 e3 s3 => ?_⟩
    cases b with
    | true =>
      rw [if_pos rfl] at h ⊢
      refine ⟨fun σ' H' => ∃ S3 ρ3, RE X.K G S3 H' σ' ρ3 ∧ Same S S3 ∧ AfterS X.K G W (whileL cA m1 m ρ3) (Fin X.K G De S), fun σ' H' q => ⟨m, Nat.lt_succ_self m, q⟩, S3, ρ2, re2.grow e3 s3, AfterS.bind h fun o h => ?_⟩
      cases o with
      | nx ρ3 => exact fun σ4 S4 H4 s4 re4 => ⟨S4, ρ3, re4, (s2.trans e3.s).trans s4, h⟩
      | ct ρ3 => exact fun σ4 S4 H4 s4 re4 => ⟨S4, ρ3, re4, (s2.trans e3.s).trans s4, h⟩
      | bk ρ3 => exact fun σ4 S4 H4 s4 re4 => h σ4 S4 H4 ((s2.trans e3.s).trans s4) re4
      | rt d => exact h
    | false =>
      rw [if_neg Bool.false_ne_true] at h ⊢
      exact h σ2 S3 H3 (s2.trans e3.s) (re2.grow e3 s3)

/-! ### lists that grow -/
theorem RE.own_set (hG : G.ex = none) {K : PySem.W.Frag} {S H H' : Hp} {σ : St} {ρ : List Sl} {i : Nat} {p : Addr} {x y : Sl} (re : RE K G S H σ ρ) (hi : ρ[i]? = some x) (hx : x.own = true) (hσ : σ[i]? = some (some (.ref p))) (hy : y.own = true) (ok : SlOk (G.R K) G.slf S H' (some (.ref p)) y)
    (hS : S p = none) (hH : ∀ q, q ≠ p → H' q = H q) : RE K G S H' σ (ρ.set i y) := by
  obtain ⟨h0, hu⟩ := re.own i x p hi hx hσ
  have hl : i < ρ.length := (List.getElem?_eq_some_iff.mp hi).1
  have sub : ∀ q o, S q = some o → H' q = some o := fun q o e => by
    have ne : q ≠ p := fun z => by rw [z, hS] at e; cases e
    rw [hH q ne]; exact re.sub q o e
  refine ⟨sub, ⟨re.ext.s, fun q o e => ?_, re.ext.new⟩, by simp [re.len], fun j z e => ?_, fun j z q e o s => ?_, fun i a dd c fs h => by rw [hG] at h; cases h⟩
  · have ne : q ≠ p := fun z => by rw [z, h0] at e; cases e
    rw [hH q ne]; exact re.ext.h q o e
  · by_cases hj : i = j
    · subst hj
      rw [List.getElem?_set_self hl] at e
      cases e
      exact ⟨_, hσ, ok⟩
    · rw [List.getElem?_set_ne hj] at e
      obtain ⟨o, h1, h2⟩ := re.sl j z e
      refine ⟨o, h1, ?_⟩
      have far : ∀ q u, z.own = true → o = some (.ref q) → H q = some u → H' q = some u := fun q u hz ho hq => by
        have ne : q ≠ p := fun w => by
          subst w
          have := hu j z e hz (by rw [h1, ho])
          exact hj this.symm
        rw [hH q ne]; exact hq
      cases z with
      | no => trivial
      | d x => exact h2
      | bl xs => obtain ⟨q, vs, a1, a2, a3, a4⟩ := h2; exact ⟨q, vs, a1, a2, far q _ rfl a1 a3, a4⟩
      | bd xs => obtain ⟨q, vs, a1, a2, a3, a4⟩ := h2; exact ⟨q, vs, a1, a2, far q _ rfl a1 a3, a4⟩
      | bo c xs => obtain ⟨dx, vs, a1, a2, a3, a4⟩ := h2; exact ⟨dx, vs, a1, a2, far _ _ rfl a1 a3, a4⟩
  · have back : ∀ (k : Nat) w, (ρ.set i y)[k]? = some w → w.own = true → σ[k]? = some (some (.ref q)) → ∃ w', ρ[k]? = some w' ∧ w'.own = true := fun k w ek ow _ => by
      by_cases hk : i = k
      · subst hk; exact ⟨x, hi, hx⟩
      · rw [List.getElem?_set_ne hk] at ek; exact ⟨w, ek, ow⟩
    obtain ⟨w, e', o'⟩ := back j z e o s
    obtain ⟨a1, a2⟩ := re.own j w q e' o' s
    refine ⟨a1, fun k y' ek ok' sk => ?_⟩
    obtain ⟨w2, e2, o2⟩ := back k y' ek ok' sk
    exact a2 k w2 e2 o2 sk
theorem ds_app {i : Nat} {p1 p2 cpos : Pos} (he : DE X G W e me) (hN : X.N[i]? = some x := by rfl) (hv : Vis X.env.scope x := by first | exact Or.inl rfl | exact Or.inr (Or.inl rfl) | exact Or.inr (Or.inr rfl))
    (hd : (x == ("__debug__" : Str)) = false := by decide) (hcd
          : (x == ("__classdict__" : Str)) = false := by decide)
    (hbase : attributeBase (.Name x p1) "append" X.env (eval (.Name x p1) X.env) = eval (.Name x p1) X.env := by rfl)
    (hfew : ((backTo cpos (starEach (e :: []) X.env)).all (fun x => !x.1) && (backToKw cpos (keywordEach [] X.env)).all (fun x => x.1.isSome)
      && decide ((e :: []).length + ([] : List Keyword).length + (if ([] : List Keyword).isEmpty then 0 else 1) < 30)) = true := by rfl)
    (hline : (p2.endLine == cpos.line) = true := by rfl) (hs : starEach (e :: []) X.env = (false, eval e X.env) :: starEach [] X.env := by rfl) (hplain : (backTo cpos (starEach [] X.env)).any (·.1) = false := by rfl)
    (hsw : swapsWith (.Call (.Attribute (.Name x p1) "append" p2) [e] [] cpos) none pos.line X.env = pure false := by rfl) (hG : G.ex = none := by rfl) :
    DS X G W (.Expr (.Call (.Attribute (.Name x p1) "append" p2) [e] [] cpos) pos) (sApp i me) :=
  ps_weak (ps_expr (pe_bm PySem.F.plainAttrs_list PySem.F.slot_list_append PySem.F.type_list_append mt_append (pe_var (i := i) hN hv hd hcd) (pa_cons he pa_nil hs) hbase hfew hline hs hplain) hsw) fun De σ H ⟨S, ρ, re, h⟩ => by
    unfold sApp at h
    split at h
    · rename_i xs hb
      obtain ⟨o, h1, p, vs, ho, hS, hp, hr⟩ := re.sl i _ hb
      subst ho
      refine ⟨_, h1, .inl ⟨rfl, _, SqL.of hp⟩, S, ρ, re, AfterS.toE h re fun d h v S1 H1 e1 s1 r1 => ?_⟩
      have re1 := re.grow e1 s1
      obtain ⟨o', h1', p', vs', ho', hS', hp', hr'⟩ := re1.sl i _ hb
      rw [h1] at h1'
      cases h1'
      cases ho'
      split at h
      · rename_i hl
        refine ⟨p, vs', v, rfl, rfl, hp', by rw [hr'.length]; exact hl, ?_⟩
        exact h σ S1 _ e1.s (RE.own_set hG re1 (y := .bl (xs ++ [d])) hb rfl h1 rfl ⟨p, vs' ++ [v], rfl, hS', upd_same, hr'.append (.cons r1 .nil)⟩ hS' fun q hq => upd_ne hq)
      · exact h.elim
    · exact h.elim
/-- a[k] = e, a a list that grows -/
theorem ds_setI {i : Nat} {ie : Expr} {mi : ME} {p1 p2 : Pos} (hi : DE X G W ie mi) (he : DE X G W e me) (hN : X.N[i]? = some x := by rfl) (hv : Vis X.env.scope x := by first | exact Or.inl rfl | exact Or.inr (Or.inl rfl) | exact Or.inr (Or.inr rfl))
    (hd : (x == ("__debug__" : Str)) = false := by decide) (hcd
          : (x == ("__classdict__" : Str)) = false := by decide)
    (ha : ∀ v, assign (.Subscript (.Name x p1) ie p2) X.env v = (do
      let ov ← holding [v] (eval (.Name x p1) X.env)
      let iv ← holding [v, ov] (eval ie X.env)
      standAt p2
      holding [v, ov, iv]
            (setItem ov iv v)
      release [v, ov, iv] []) := by intro _; rfl) (hs : swapsWithSole [.Subscript (.Name x p1) ie p2] e pos.line X.env = pure false := by rfl) (hw : swappedStores [.Subscript (.Name x p1) ie p2] e X.env = pure none := by rfl)
    (h1 : (assignEach [.Subscript (.Name x p1) ie p2] X.env).map (·.2) = [assign (.Subscript (.Name x p1) ie p2) X.env] := by rfl) (hG : G.ex = none := by rfl) :
    DS X G W (.Assign [.Subscript (.Name x p1) ie p2] e pos) (sSetI i mi me) :=
  ps_weak (ps_asg he (pg_sub (pe_var (i := i) hN hv hd hcd) hi set_list ha) hs hw h1) fun De σ H ⟨S, ρ, re, h⟩ => by
    unfold sSetI at h
    split at h
    · rename_i xs hb
      refine ⟨S, ρ, re, AfterS.toE h re fun d h v S1 H1 e1 s1 r1 => ?_⟩
      have re1 := re.grow e1 s1
      obtain ⟨o, h1, p, vs, ho, hS, hp, hr⟩ := re1.sl i _ hb
      subst ho
      refine ⟨_, h1, S1, ρ, re1, AfterS.toE h re1 fun k h w S2 H2 e2 s2 r2 => ?_⟩
      have re2 := re1.grow e2 s2
      obtain ⟨o', h1', p', vs', ho', hS', hp', hr'⟩ := re2.sl i _ hb
      rw [h1] at h1'
      cases h1'
      cases ho'
      cases hk : setD xs k d with
      | none => rw [hk] at h; exact h.elim
      | some ys =>
        rw [hk] at h
        unfold setD at hk
        split at hk
        · rename_i n
          cases r2
          obtain ⟨j, hj, rfl⟩ := Option.map_eq_some_iff.mp hk
          refine ⟨p, vs', n, j, rfl, rfl, hp', by rw [hr'.length]; exact hj, ?_⟩
          exact h σ S2 _ (e1.s.trans e2.s) (RE.own_set hG re2 (y := .bl (xs.set j d)) hb rfl h1 rfl ⟨p, vs'.set j v, rfl, hS', upd_same, Reps.set (r1.mono e2.s) j hr'⟩ hS' fun q hq => upd_ne hq)
        · cases hk
    · exact h.elim
/-- a = [..], a a list that is to grow -/
theorem RE.own_new (hG : G.ex = none) {K : PySem.W.Frag} {S H : Hp} {σ : St} {ρ : List Sl} {i : Nat} {p : Addr} {o : HO} {y : Sl} (re : RE K G S H σ ρ) (hp : H p = none) (hi : i < ρ.length) (ok : SlOk (G.R K) G.slf S (upd H p o) (some (.ref p)) y) : RE K G S (upd H p o) (σ.set i (some (.ref p))) (ρ.set i y) := by
  have sp : S p = none := re.sub.free hp
  have h0 : G.H0 p = none := re.ext.h.free hp
  have e1 : Ext S H S (upd H p o) := ⟨fun _ _ e => e, fun q u e => by rw [upd_ne (ne_of_none e hp)]; exact e, fun q u e n => by rw [n] at e; cases e⟩
  have hσ : i < σ.length := by rw [re.len]; exact hi
  refine ⟨fun q u e => e1.h _ _ (re.sub _ _ e), re.ext.trans e1, by simp [re.len], fun j z e => ?_, fun j z q e oz s => ?_, fun i a dd c fs h => by rw [hG] at h; cases h⟩
  · by_cases hj : i = j
    · subst hj
      rw [List.getElem?_set_self hi] at e
      cases e
      exact ⟨_, List.getElem?_set_self hσ, ok⟩
    · rw [List.getElem?_set_ne hj] at e ⊢
      obtain ⟨o', h1, h2⟩ := re.sl j z e
      exact ⟨o', h1, h2.ext e1⟩
  · have ne : ∀ (k : Nat) w q, ρ[k]? = some w → w.own = true → σ[k]? = some (some (.ref q)) → q ≠ p := fun k w q ek ow sk z => by
      obtain ⟨o', h1, h2⟩ := re.sl k w ek
      rw [sk] at h1
      have h1 := Option.some.inj h1
      subst h1
      cases w with
      | no => cases ow
      | d _ => cases ow
      | bl xs => obtain ⟨q', vs, a1, a2, a3, a4⟩ := h2; cases a1; rw [z, hp] at a3; cases a3
      | bd xs => obtain ⟨q', vs, a1, a2, a3, a4⟩ := h2; cases a1; rw [z, hp] at a3; cases a3
      | bo c xs => obtain ⟨dx, vs, a1, a2, a3, a4⟩ := h2; cases a1; rw [z, hp] at a3; cases a3
    by_cases hj : i = j
    · subst hj
      rw [List.getElem?_set_self hσ] at s
      cases s
      refine ⟨h0, fun k w ek ow sk => ?_⟩
      by_cases hk : i = k
      · exact hk.symm
      · rw [List.getElem?_set_ne hk] at ek sk
        exact absurd rfl (ne k w p ek ow sk)
    · rw [List.getElem?_set_ne hj] at e s
      have hq := ne j z q e oz s
      obtain ⟨a1, a2⟩ := re.own j z q e oz s
      refine ⟨a1, fun k w ek ow sk => ?_⟩
      by_cases hk : i = k
      · subst hk
        rw [List.getElem?_set_self hσ] at sk
        cases sk
        exact absurd rfl hq
      · rw [List.getElem?_set_ne hk] at ek sk
        exact a2 k w ek ow sk
theorem ds_newL {i : Nat} {p2 spos : Pos} {es : List Expr} {mas : MA} (hN : X.N.Nodup) (hi : X.N[i]? = some x) (hx : Loc X.env.scope x) (he : DA X G W es mas) (hf : X.fn x = true ∨ X.env.scope.names.lookup x = some .local := by first | exact .inl rfl | exact .inr rfl | assumption) (hs' : swapsWith (.List es pos) (some (.Name x p2)) spos.line X.env = pure false := by rfl) (hG : G.ex = none := by rfl) :
    DS X G W (.Assign [.Name x p2] (.List es pos) spos) (sNewL i mas) := ps_weak (ps_set hN hi hx (pe_lst he) hs' hf) fun De σ H ⟨S, ρ, re, h⟩ => by
    refine ⟨S, ρ, re, AfterS.toE h re fun ds h vs S1 H1 e1 s1 r1 => ?_⟩
    split at h
    · rename_i hl
      refine ⟨by rw [r1.length]; exact hl.2, fun p hp => ?_⟩
      have re1 := re.grow e1 s1
      exact h _ S1 _ e1.s (RE.own_new hG re1 (y := .bl ds) hp hl.1 ⟨p, vs, rfl, s1.free hp, upd_same, r1⟩)
    · exact h.elim
/-- a ghost step: the list is done, from here on it is data -/
theorem t_frz (hG : G.ex = none) {K : PySem.W.Frag} {i : Nat} {De : Ends} {σ : St} {H : Hp} (h : tDS K G W (sFrz i m1) De σ H) : tDS K G W m1 De σ H := by
  obtain ⟨S, ρ, re, h⟩ := h
  have main : ∀ (z : Sl) (d : D) (o : Addr → HO → Prop), ρ[i]? = some z → z.own = true → (∀ p ho, σ[i]? = some (some (.ref p)) → S p = none → H p = some ho → o p ho → Rep (G.R K) (upd S p ho) (.ref p) d) → (∃ p ho, σ[i]? = some (some (.ref p)) ∧ S p = none ∧ H p = some ho ∧ o p ho) →
      AfterS K G W (m1 (ρ.set i (.d d))) (Fin K G De S) → tDS K G W m1 De σ H := fun z d o hz oz hr ⟨p, ho, h1, h2, h3, h4⟩ q => by
    obtain ⟨h0, hu⟩ := re.own i z p hz oz h1
    have hl : i < ρ.length := (List.getElem?_eq_some_iff.mp hz).1
    have sS : Same S (upd S p ho) := fun q u e => by rw [upd_ne (ne_of_none e h2)]; exact e
    have sub : Same (upd S p ho) H := fun q u e => by
      by_cases hq : q = p
      · subst hq; rw [upd_same] at e; cases e; exact h3
      · rw [upd_ne hq] at e; exact re.sub q u e
    have re' : RE K G (upd S p ho) H σ (ρ.set i (.d d)) := by
      refine ⟨sub, ⟨re.ext.s.trans sS, re.ext.h, fun q u e n => ?_⟩, by simp [re.len], fun j y e => ?_, fun j y q e oy s => ?_, fun i a dd c fs h => by rw [hG] at h; cases h⟩
      · by_cases hq : q = p
        · rw [hq]; exact h0
        · rw [upd_ne hq] at e; exact re.ext.new q u e n
      · by_cases hj : i = j
        · subst hj
          rw [List.getElem?_set_self hl] at e
          cases e
          exact ⟨_, h1, _, rfl, hr p ho h1 h2 h3 h4⟩
        · rw [List.getElem?_set_ne hj] at e
          obtain ⟨o', a1, a2⟩ := re.sl j y e
          have far : ∀ q, y.own = true → o' = some (.ref q) → S q = none → upd S p ho q = none := fun q oy eo hq => by
            have ne : q ≠ p := fun w => by
              subst w
              exact hj (hu j y e oy (by rw [a1, eo])).symm
            rw [upd_ne ne]; exact hq
          refine ⟨o', a1, ?_⟩
          cases y with
          | no => trivial
          | d x => obtain ⟨v, b1, b2⟩ := a2; exact ⟨v, b1, b2.mono sS⟩
          | bl xs => obtain ⟨q, vs, b1, b2, b3, b4⟩ := a2; exact ⟨q, vs, b1, far q rfl b1 b2, b3, b4.mono sS⟩
          | bd xs => obtain ⟨q, vs, b1, b2, b3, b4⟩ := a2; exact ⟨q, vs, b1, far q rfl b1 b2, b3, b4.mono sS⟩
          | bo c xs => obtain ⟨dx, vs, b1, b2, b3, b4⟩ := a2; exact ⟨dx, vs, b1, far _ rfl b1 b2, b3, b4.mono sS⟩
      · have nj : ∀ (k : Nat) w, (ρ.set i (.d d))[k]? = some w → w.own = true → i ≠ k := fun k w ek ow z => by
          subst z
          rw [List.getElem?_set_self hl] at ek
          cases ek; cases ow
        have hj := nj j y e oy
        rw [List.getElem?_set_ne hj] at e
        obtain ⟨a1, a2⟩ := re.own j y q e oy s
        refine ⟨a1, fun k w ek ow sk => ?_⟩
        rw [List.getElem?_set_ne (nj k w ek ow)] at ek
        exact a2 k w ek ow sk
    exact ⟨_, _, re', AfterS.imp q fun o q => q.later sS⟩
  have sS : ∀ {p : Addr} {ho : HO}, S p = none → Same S (upd S p ho) := fun {p ho} h2 q u e => by rw [upd_ne (ne_of_none e h2)]; exact e
  unfold sFrz at h
  split at h
  · rename_i xs hz
    obtain ⟨o, a1, p, vs, b1, b2, b3, b4⟩ := re.sl i _ hz
    subst b1
    exact main _ (.lst xs) (fun q ho => q = p ∧ ho = .lst vs) hz rfl (fun q ho c1 c2 c3 c4 => by obtain ⟨rfl, rfl⟩ := c4; exact .lst upd_same (b4.mono (sS c2))) ⟨p, _, a1, b2, b3, rfl, rfl⟩ h
  · rename_i xs hz
    obtain ⟨o, a1, p, vs, b1, b2, b3, b4⟩ := re.sl i _ hz
    subst b1
    exact main _ (.dct xs) (fun q ho => q = p ∧ ho = .dK vs) hz rfl (fun q ho c1 c2 c3 c4 => by obtain ⟨rfl, rfl⟩ := c4; exact .dct upd_same (b4.mono (sS c2))) ⟨p, _, a1, b2, b3, rfl, rfl⟩ h
  · rename_i c fs hz
    obtain ⟨o, a1, dx, vs, b1, b2, b3, b4⟩ := re.sl i _ hz
    subst b1
    exact main _ (.obj c fs) (fun q ho => q = G.slf ∧ ho = .ins (G.cls c) dx vs) hz rfl (fun q ho c1 c2 c3 c4 => by obtain ⟨rfl, rfl⟩ := c4; exact .obj upd_same (b4.mono (sS c2))) ⟨G.slf, _, a1, b2, b3, rfl, rfl⟩ h
  · exact ⟨S, ρ, re, h⟩
theorem dss_frz (i : Nat) (h : DSs X G W ss m1) (hG : G.ex = none := by rfl) : DSs X G W ss (sFrz i m1) := pss_weak h fun _ _ _ => t_frz hG
theorem ds_frz (i : Nat) (h : DS X G W s1 m1) (hG : G.ex = none := by rfl) : DS X G W s1 (sFrz i m1) := ps_weak h fun _ _ _ => t_frz hG
end
end L2.DL
namespace L2.DL
open PySem PyProof.Rows PySem.Spec

/-! ### comprehensions -/
abbrev W0 : WX := fun _ _ _ _ => False
theorem wipe_wipe (σ : St) : ∀ vs : List Nat, wipe (wipe σ vs) vs = wipe σ vs := by
  have key : ∀ (vs us : List Nat) (τ : St), (∀ v ∈ us, τ[v]? = none ∨ τ[v]? = some none) → wipe τ us = τ := by
    intro vs us
    induction us with
    | nil => intro τ _; rfl
    | cons u us ih =>
      intro τ h
      unfold wipe
      rw [ih τ fun v hv => h v (by simp [hv])]
      apply List.ext_getElem?
      intro j
      by_cases hj : u = j
      · subst hj
        rcases h u (by simp) with e | e
        · rw [e, List.getElem?_eq_none_iff.mpr (by rw [List.length_set]; exact List.getElem?_eq_none_iff.mp e)]
        · rw [List.getElem?_set_self (List.getElem?_eq_some_iff.mp e).1, e]
      · rw [List.getElem?_set_ne hj]
  have wn : ∀ (us : List Nat) (v : Nat), v ∈ us → (wipe σ us)[v]? = none ∨ (wipe σ us)[v]? = some none := by
    intro us v hv
    cases e : (wipe σ us)[v]? with
    | none => exact .inl rfl
    | some o =>
      cases o with
      | none => exact .inr rfl
      | some x => exact absurd hv (wipe_some e).2
  exact fun vs => key vs vs _ fun v hv => wn vs v hv
theorem RE.unset {K : PySem.W.Frag} {G : GC} (hG : G.ex = none) {S H : Hp} {σ : St} {ρ : List Sl} (r : RE K G S H σ ρ) (i : Nat) : RE K G S H (σ.set i none) (ρ.set i .no) := by
  refine ⟨r.sub, r.ext, by simp [r.len], fun j y e => ?_, fun j y p e o s => ?_, fun i a dd c fs h => by rw [hG] at h; cases h⟩
  · by_cases hj : i = j
    · subst hj
      have hl : i < (ρ.set i .no).length := (List.getElem?_eq_some_iff.mp e).1
      rw [List.length_set] at hl
      rw [List.getElem?_set_self hl] at e
      cases e
      exact ⟨_, List.getElem?_set_self (by rw [r.len]; exact hl), trivial⟩
    · rw [List.getElem?_set_ne hj] at e ⊢
      exact r.sl j y e
  · have ne : ∀ (k : Nat) z, (ρ.set i .no)[k]? = some z → z.own = true → i ≠ k := fun k z ez oz q => by
      subst q
      have hl : i < (ρ.set i .no).length := (List.getElem?_eq_some_iff.mp ez).1
      rw [List.length_set] at hl
      rw [List.getElem?_set_self hl] at ez
      cases ez; cases oz
    have hj := ne j y e o
    rw [List.getElem?_set_ne hj] at e s
    obtain ⟨h1, h2⟩ := r.own j y p e o s
    refine ⟨h1, fun k z ez oz sz => ?_⟩
    have hk := ne k z ez oz
    rw [List.getElem?_set_ne hk] at ez sz
    exact h2 k z ez oz sz
theorem RE.wipe {K : PySem.W.Frag} {G : GC} (hG : G.ex = none) {S H : Hp} {σ : St} {ρ : List Sl} (r : RE K G S H σ ρ) : ∀ vs : List Nat, RE K G S H (L2.wipe σ vs) (wipeD ρ vs)
  | [] => r
  | v :: vs => RE.unset hG (RE.wipe hG r vs) v
theorem nox_ok {α : Type} {r : Res α} {a : α} (h : nox r = .ok a) : r = .ok a := by
  cases r <;> first | exact h | cases h
theorem res_bind_ok {α β : Type} {r : Res α} {f : α → Res β} {b : β} (h : r.bind f = .ok b) : ∃ a, r = .ok a ∧ f a = .ok b := by
  cases r with
  | ok a => exact ⟨a, rfl, h⟩
  | ex c fs => cases h
  | stuck => cases h
theorem lift_ok {α : Type} {o : Option α} {a : α} (h : lift o = .ok a) : o = some a := by
  cases o with
  | none => cases h
  | some b => cases h; rfl
section
variable {X : Cx} {G : GC} {W : WX}
theorem t_lc (hG : G.ex = none) {K : PySem.W.Frag} {src : MI} {vs : List Nat} {g : MG} {tt : MT} {te : ME} {σ : St} {H : Hp} {Q : VK} (h : tD K G W (eLc src vs g tt te) σ H Q) : tLc (tDI K G W src) (tDG K G vs g) (tDT K G W0 tt) (tD K G W0 te) vs σ H Q := by
  obtain ⟨S, ρ, re, h⟩ := h
  refine ⟨S, ρ, re, After.bind h fun ds h J S1 H1 e1 s1 wk Dd hD => ?_⟩
  have re1 := re.grow e1 s1
  split at h
  case isFalse => exact h.elim
  case isTrue hlen =>
  have h' : ∃ r, compL g tt te (wipeD ρ vs) ds = .ok r ∧ ∀ v S' H', Ext S H S' H' → Same S' H' → Rep (G.R K) S' v (.lst r) → Q v H' := by
    have nx : ∀ ds : List D, (∃ r, compL g tt te (wipeD ρ vs) ds = .ok r) ∨ compL g tt te (wipeD ρ vs) ds = .stuck := by
      intro ds
      induction ds with
      | nil => exact .inl ⟨_, rfl⟩
      | cons d ds ih =>
        simp only [compL]
        cases q1 : g d (wipeD ρ vs) with
        | none => exact .inr rfl
        | some ρ1 =>
          simp only [lift, Res.bind]
          cases q2 : tt ρ1 with
          | stuck => exact .inr rfl
          | ex c fs => exact .inr rfl
          | ok b =>
            simp only [nox]
            cases b with
            | false => simpa using ih
            | true =>
              simp only [if_true]
              cases q3 : te ρ1 with
              | stuck => exact .inr rfl
              | ex c fs => exact .inr rfl
              | ok x =>
                simp only [nox]
                rcases ih with ⟨r, e⟩ | e
                · rw [e]; exact .inl ⟨_, rfl⟩
                · rw [e]; exact .inr rfl
    rcases nx ds with ⟨r, e⟩ | e
    · rw [e] at h; exact ⟨r, e, h⟩
    · rw [e] at h; exact h.elim
  obtain ⟨r, hr, q⟩ := h'
  have hS1 : S1 Dd = none := s1.free hD
  refine ⟨fun i m Hc => ∃ S2 av ad rr, Ext S1 H1 S2 Hc ∧ Same S2 Hc ∧ S2 Dd = none ∧ Hc Dd = some (.lst av) ∧ Reps (G.R K) S2 av ad ∧ ad.length ≤ i ∧ compL g tt te (wipeD ρ vs) (ds.drop i) = .ok rr ∧ ad ++ rr = r ∧ i ≤ ds.length ∧ m = ds.length - i, ?_, ?_⟩
  · refine ⟨_, S1, [], [], r, ⟨fun _ _ e => e, fun q u e => by rw [upd_ne (ne_of_none e hD)]; exact e, fun q u e n => by rw [n] at e; cases e⟩, fun q u e => ?_, hS1, upd_same, .nil, Nat.zero_le _, by rw [List.drop_zero]; exact hr, rfl, Nat.zero_le _, rfl⟩
    rw [upd_ne (ne_of_none e hS1)]
    exact s1 _ _ e
  · rintro i m Hc ⟨S2, av, ad, rr, e2, s2, hS2, hc, ra, hal, hrr, happ, hi, hm⟩
    have re2 := re1.grow e2 s2
    by_cases hlt : i < ds.length
    · have hd' : ds.drop i = ds[i] :: ds.drop (i + 1) := List.drop_eq_getElem_cons hlt
      rw [hd'] at hrr
      simp only [compL] at hrr
      obtain ⟨ρ1, q1, hrr⟩ := res_bind_ok hrr
      have q1 := lift_ok q1
      obtain ⟨b, q2, hrr⟩ := res_bind_ok hrr
      have q2 := nox_ok q2
      refine .inr ⟨wk.go i S2 Hc hlt e2.s s2, fun Hc => ∃ S2 av ad rr, Ext S1 H1 S2 Hc ∧ Same S2 Hc ∧ S2 Dd = none ∧ Hc Dd = some (.lst av) ∧ Reps (G.R K) S2 av ad ∧ ad.length ≤ i + 1 ∧ compL g tt te (wipeD ρ vs) (ds.drop (i + 1)) = .ok rr ∧ ad ++ rr = r,
        fun H' ⟨S2, av, ad, rr, a1, a2, a3, a4, a5, a6, a7, a8⟩ => ⟨_, by omega, S2, av, ad, rr, a1, a2, a3, a4, a5, a6, a7, a8, hlt, rfl⟩, fun x H' y => ?_⟩
      obtain ⟨S3, d, e3, s3, hd, r3⟩ := wk.yld i S2 Hc x H' hlt e2.s s2 y
      rw [List.getElem?_eq_getElem hlt] at hd
      have hd := Option.some.inj hd
      rw [hd] at q1
      have re3 := re2.grow e3 s3
      refine ⟨S3, wipeD ρ vs, d, ρ1, RE.wipe hG re3 vs, r3, q1, fun σ4 re4 w4 => ⟨w4.trans (wipe_wipe σ vs), S3, ρ1, re4, ?_⟩⟩
      rw [q2]
      intro S5 H5 e5 s5
      have re5 := re4.grow e5 s5
      have e25 : Ext S2 Hc S5 H5 := e3.trans e5
      have hS5 : S5 Dd = none := by
        cases z : S5 Dd with
        | none => rfl
        | some o => have := e25.new Dd o z hS2; rw [hc] at this; cases this
      cases b with
      | false =>
        rw [if_neg Bool.false_ne_true] at hrr ⊢
        exact ⟨S5, av, ad, rr, e2.trans e25, s5, hS5, e25.h _ _ hc, ra.mono e25.s, by omega, hrr, happ⟩
      | true =>
        rw [if_pos rfl] at hrr ⊢
        obtain ⟨y, q3, hrr⟩ := res_bind_ok hrr
        have q3 := nox_ok q3
        obtain ⟨r2, q4, hrr⟩ := res_bind_ok hrr
        have hrr : y :: r2 = rr := by cases hrr; rfl
        refine ⟨S5, ρ1, re5, ?_⟩
        rw [q3]
        intro v S6 H6 e6 s6 r6
        have e26 : Ext S2 Hc S6 H6 := e25.trans e6
        have hS6 : S6 Dd = none := by
          cases z : S6 Dd with
          | none => rfl
          | some o => have := e26.new Dd o z hS2; rw [hc] at this; cases this
        have hc6 := e26.h _ _ hc
        refine ⟨av, hc6, by rw [ra.length]; omega, S6, av ++ [v], ad ++ [y], r2, ?_, ?_, hS6, upd_same, (ra.mono e26.s).append (.cons r6 .nil), by simp; omega, q4, by rw [List.append_assoc, ← happ, ← hrr]; rfl⟩
        · have e16 := e2.trans e26
          exact ⟨e16.s, fun q u e => by rw [upd_ne (ne_of_none e hD)]; exact e16.h _ _ e, e16.new⟩
        · intro q u e
          rw [upd_ne (ne_of_none e hS6)]
          exact s6 _ _ e
    · have e : i = ds.length := by omega
      subst e
      refine .inl ⟨wk.stop S2 Hc e2.s s2, ?_⟩
      rw [List.drop_length] at hrr
      have hrr : rr = [] := by cases hrr; rfl
      rw [hrr, List.append_nil] at happ
      subst happ
      have sS : Same S2 (upd S2 Dd (.lst av)) := fun q u e => by rw [upd_ne (ne_of_none e hS2)]; exact e
      refine q (.ref Dd) (upd S2 Dd (.lst av)) Hc (e1.trans ⟨e2.s.trans sS, e2.h, fun q u e n => ?_⟩) (fun q u e => ?_) (.lst upd_same (ra.mono sS))
      · by_cases hq : q = Dd
        · rw [hq]; exact hD
        · rw [upd_ne hq] at e; exact e2.new q u e n
      · by_cases hq : q = Dd
        · subst hq; rw [upd_same] at e; cases e; exact hc
        · rw [upd_ne hq] at e; exact s2 _ _ e
theorem dts_nil {K : PySem.W.Frag} : PTs X [] (tDT K G W cYes) := ⟨fun pins s σ H Q I ⟨S, ρ, re, h⟩ => pts_nil.run pins s σ H Q I (h S H (.refl _ _) re.sub)⟩
theorem de_lc {src : MI} {g : MG} {tt : MT} {te : ME} {elt tg iter : Expr} {ifs : List Expr} {scope : Scope} {own : List (Str × Nat)} {pos : Pos} (hc : X.calm = true) (hN : X.N.Nodup) (hi : DI X G W tg iter src) (ok : BlkOk X.N X.env.scope scope own)
    (hg : ∀ (s : Shared) (H : Hp) (C : Addr) (cl : List (Str × Addr)) (fp : List Addr), PG (X.blk s H scope (compEnvC scope cl C X.env) fp) tg (tDG X.K G (own.map (·.2)) g)) (ht : ∀ (s : Shared) (H : Hp) (C : Addr) (cl : List (Str × Addr)) (fp : List Addr), PTs (X.blk s H scope (compEnvC scope cl C X.env) fp) ifs (tDT X.K G W0 tt))
    (he : ∀ (s : Shared) (H : Hp) (C : Addr) (cl : List (Str × Addr)) (fp : List Addr), PE (X.blk s H scope (compEnvC scope cl C X.env) fp) elt (tD X.K G W0 te)) (hs : ∀ x, foldedSetIterable iter X.env x = pure x := by intro _; rfl) (hG : G.ex = none := by rfl) :
    DE X G W (.ListComp elt [⟨tg, iter, ifs, 0⟩] scope pos) (eLc src (own.map (·.2)) g tt te) := pe_weak (pe_lc hc hN hi ok hg ht he hs) fun _ _ _ => t_lc hG
theorem ds_setLc {i : Nat} {y : Str} {py : Pos} {src : MI} {g : MG} {tt : MT} {te : ME} {elt tg iter : Expr} {ifs : List Expr} {scope : Scope} {own : List (Str × Nat)} {pos spos : Pos} (hc : X.calm = true) (hN : X.N.Nodup) (hy : X.N[i]? = some y) (hyl : X.env.scope.names.lookup y = some .local)
    (hsw : swapsWith (.ListComp elt [⟨tg, iter, ifs, 0⟩] scope pos) (some (.Name y py)) spos.line X.env = pure true) (hi : DI X G W tg iter src) (ok : BlkOk X.N X.env.scope scope own)
    (hg : ∀ (s : Shared) (H : Hp) (C : Addr) (cl : List (Str × Addr)) (fp : List Addr), PG (X.blk s H scope (compEnvC scope cl C X.env) fp) tg (tDG X.K G (own.map (·.2)) g)) (ht : ∀ (s : Shared) (H : Hp) (C : Addr) (cl : List (Str × Addr)) (fp : List Addr), PTs (X.blk s H scope (compEnvC scope cl C X.env) fp) ifs (tDT X.K G W0 tt))
    (he : ∀ (s : Shared) (H : Hp) (C : Addr) (cl : List (Str × Addr)) (fp : List Addr), PE (X.blk s H scope (compEnvC scope cl C X.env) fp) elt (tD X.K G W0 te)) (hs : ∀ x, foldedSetIterable iter X.env x = pure x := by intro _; rfl) (hG : G.ex = none := by rfl) :
    DS X G W (.Assign [.Name y py] (.ListComp elt [⟨tg, iter, ifs, 0⟩] scope pos) spos) (sAsg (eLc src (own.map (·.2)) g tt te) (gN i)) := ps_weak (ps_setLc hc hN hy hyl hsw hi ok hg ht he hs) fun De σ H ⟨S, ρ, re, h⟩ =>
  t_lc hG (W := W) (Q := fun x H1 => gName i x σ H1 De.nx) ⟨S, ρ, re, AfterS.toE h re fun d h v S1 H1 e1 s1 r1 => h _ S1 H1 e1.s (RE.set hG (re.grow e1 s1) i r1)⟩
end

/-! ### defs -/
/-- a def's value at its arguments: np parameters, n names -/
def runB (np n : Nat) (m : MS) : List D → Res D := fun ds => if ds.length = np then (m (ds.map .d ++ List.replicate (n - np) .no)).bind fun o => (match o with
  | .rt d => .ok d
  | .nx _ => .ok .non
  | _ => .stuck) else .stuck
def spD (K : PySem.W.Frag) (cls : Nat → Addr) (f : List D → Res D) : Sp := fun vs H Q E => ∃ S ds, Same S H ∧ Reps ⟨K, cls⟩ S vs ds ∧ match f ds with
  | .ok d => ∀ v S' H', Ext S H S' H' → Same S' H' → Rep ⟨K, cls⟩ S' v d → Q v H'
  | .ex c fs => ∀ dd S' H', Ext S H S' H' → Same S' H' → XdAt ⟨K, cls⟩ S' H' dd fs → E (.ref (cls c)) dd H'
  | .stuck => False
structure FnC (P : Program) (w : World) (K : PySem.W.Frag) (mg : Str → Option Value) (base : Heap) (cls : Nat → Addr) (k : Nat) (f : Addr) (fd : FuncData) (ps : List Str) (m : List D → Res D) : Prop where
  ok : FnOk P w K mg base (L2.CX P w) k f fd ps (spD K cls m)
  bind : Binds K fd ps []
  kp : PySem.W.keepIn
        K (.ref f) = true
/-- the module's def x -/
def Cal (P : Program) (w : World) (K : PySem.W.Frag) (mg : Str → Option Value) (base : Heap) (cls : Nat → Addr) (k : Nat) (x : Str) (m : List D → Res D) : Prop :=
  ∃ f fd ps, FnC P w K mg base cls k f fd ps m ∧ mg x = some (.ref f)
theorem start_re {K : PySem.W.Frag} {cls : Nat → Addr} {S H : Hp} {vs : List V} {ds : List D} {N : List Str} {np : Nat} (sub : Same S H) (r : Reps ⟨K, cls⟩ S vs ds) (hl : ds.length = np) (hn : np ≤ N.length) : RE K ⟨cls, H, S, none, 0⟩ S H (start N vs) (ds.map .d ++ List.replicate (N.length - np) .no) := by
  have hv := r.length
  refine ⟨sub, .refl _ _, by simp [start, hv, hl], fun i x e => ?_, fun i x p e o s => ?_, fun i a dd c fs h => by cases h⟩
  · by_cases hi : i < ds.length
    · rw [List.getElem?_append_left (by simpa using hi), List.getElem?_map] at e
      obtain ⟨d, hd, rfl⟩ := Option.map_eq_some_iff.mp e
      have hiv : i < vs.length := by omega
      refine ⟨some vs[i], by unfold start; rw [List.getElem?_append_left (by simpa using hiv), List.getElem?_map, List.getElem?_eq_getElem hiv]; rfl, vs[i], rfl, ?_⟩
      obtain ⟨d', h1, h2⟩ := r.get (List.getElem?_eq_getElem hiv)
      rw [hd] at h1
      cases h1
      exact h2
    · rw [List.getElem?_append_right (by simpa using hi), List.getElem?_replicate] at e
      split at e
      · rename_i hlt
        cases e
        simp only [List.length_map] at hlt
        refine ⟨none, ?_, trivial⟩
        unfold start
        rw [List.getElem?_append_right (by simp; omega), List.getElem?_replicate, if_pos (by simp; omega)]
      · cases e
  · exfalso
    by_cases hi : i < ds.length
    · rw [List.getElem?_append_left (by simpa using hi), List.getElem?_map] at e
      obtain ⟨d, hd, rfl⟩ := Option.map_eq_some_iff.mp e
      cases o
    · rw [List.getElem?_append_right (by simpa using hi), List.getElem?_replicate] at e
      split at e
      · cases e; cases o
      · cases e
section
variable {P : Program} {w : World} {K : PySem.W.Frag} {mg : Str → Option Value} {base : Heap} {cls : Nat → Addr} {k : Nat} {x qual : Str} {params : Arguments} {body : List Stmt} {scope : Scope} {f : Addr} {fd : FuncData} {N ps : List Str} {m : MS}
/-- a def by its body; one that lets nothing out: PSs.nox of it -/
theorem fnC_of (F : FunD K x qual params body scope [] [] f fd) (S : FnScope N ps scope) (hb : ∀ (kV doc pm : Value) (an : Option Addr) (cdv ct : Value) (us : List Value), us.length = ps.length → bindArgs (PySem.W.fnOf x qual params body scope .none kV doc pm an cdv ct) ⟨us, []⟩ = pure (ps.zip us))
    (hN : ps.length ≤ N.length)
    (hbody : ∀ (cdv : Value) (A : Around) (outer : List Env) (s : Shared) (H : Hp) (E : XK) (H0 S0 : Hp), Room k (A.deeper (envOfC qual scope s.heap.objs.size f cdv)) →
      PSs (cxOf (L2.CX P w) P w K mg base N qual scope f cdv A outer s H E) body (tDS K ⟨cls, H0, S0, none, 0⟩ (fun c d _ H => E c d H) m)) : FnC P w K mg base cls (k + 1) f fd ps (runB ps.length N.length m) := by
  refine ⟨F.ok S (fun vs H Q E h => ?_) (fun cdv A outer s H vs Q E hr h => ?_), F.bindsN hb, F.kp⟩
  · obtain ⟨S1, ds, sub, r, h⟩ := h
    unfold runB at h
    split at h
    all_goals (try exact h.elim)
    all_goals
      rename_i e
      split at e
      · rename_i hl
        rw [r.length]; exact hl
      · cases e
  · obtain ⟨S1, ds, sub, r, h⟩ := h
    refine ⟨tDS K ⟨cls, H, S1, none, 0⟩ (fun c d _ H => E c d H) m, hbody cdv A outer s H E H S1 hr, ?_⟩
    unfold runB at h
    by_cases hl : ds.length = ps.length
    · rw [if_pos hl] at h
      refine ⟨S1, _, start_re sub r hl hN, ?_⟩
      cases e : m (ds.map .d ++ List.replicate (N.length - ps.length) .no) with
      | stuck => rw [e] at h; exact h.elim
      | ex c fs => rw [e] at h; exact fun dd σ' S' H' e s x => h dd S' H' e s x
      | ok o =>
        rw [e] at h
        cases o with
        | nx ρ' => exact fun σ' S' H' s re' => h .non S' H' re'.ext re'.sub .non
        | rt d => exact fun v S' H' e s r => h v S' H' e s r
        | bk _ => exact h.elim
        | ct _ => exact h.elim
    · rw [if_neg hl] at h; exact h.elim
end
end L2.DL
namespace L2.DL
open PySem PyProof.Rows PySem.Spec
/-! ### calls -/
def eCallN (f : List D → Res D) (as : MA) : ME := fun ρ => (as ρ).bind fun xs => nox (f xs)
section
variable {X : Cx} {G : GC} {W : WX} {e o : Expr} {es : List Expr} {mas : MA} {me mo : ME} {p pos apos : Pos} {x y : Str} {k : Nat} {m : List D → Res D}
theorem t_callN {K : PySem.W.Frag} {σ : St} {H : Hp} {Q : VK} (h : tD K G W (eCallN m mas) σ H Q) : tCall (spD K G.cls m) [] E0 (tDA K G W mas) σ H Q := by
  obtain ⟨S, ρ, re, h⟩ := h
  refine ⟨S, ρ, re, After.bind h fun xs h vs S1 H1 e1 s1 r1 => ?_⟩
  refine ⟨S1, xs, s1, by rw [List.append_nil]; exact r1, ?_⟩
  cases q : m xs with
  | stuck => rw [q] at h; exact h.elim
  | ex c fs => rw [q] at h; exact h.elim
  | ok d => rw [q] at h; exact fun v S2 H2 e2 s2 r2 => h v S2 H2 (e1.trans e2) s2 r2
/-- f(e, ..), nothing is raised -/
theorem de_call (C : Cal X.prog X.w X.K X.mg X.base G.cls k x m) (hr : Room k X.A) (hg : Gl X x) (ha : DA X G W (e :: es) mas)
    (hdb : (x == ("__debug__" : Str)) = false := by decide) (he : starEach (e :: es) X.env = (false, eval e
          X.env) :: starEach es X.env := by rfl) (hpl : (backTo pos (starEach es X.env)).any (·.1) = false := by rfl) :
    DE X G W (.Call (.Name x p) (e :: es) [] pos) (eCallN m mas) := by
  obtain ⟨f, fd, ps, F, hm⟩ := C
  exact pe_weak (pe_call F.ok hr hg hm F.kp F.bind .nil passL ha hdb he hpl) fun _ _ _ => t_callN
/-- f(e, ..), what it raises goes on -/
theorem de_callX (C : Cal X.prog X.w X.K X.mg X.base G.cls k x m) (hr : Room k X.A) (hg : Gl X x) (tk : Takes X W) (ha : DA X G W (e :: es) mas)
    (hdb : (x == ("__debug__" : Str)) = false := by decide) (he : starEach (e :: es) X.env = (false, eval e
          X.env) :: starEach es X.env := by rfl) (hpl : (backTo pos (starEach es X.env)).any (·.1) = false := by rfl) :
    DE X G W (.Call (.Name x p) (e :: es) [] pos) (eCall m mas) := by
  obtain ⟨f, fd, ps, F, hm⟩ := C
  refine pe_weak (pe_callS F.ok hr hg hm F.kp F.bind (fun σ => passAt tk σ) ha hdb he hpl) fun σ H Q ⟨S, ρ, re, h⟩ => ?_
  refine ⟨S, ρ, re, After.bind h fun xs h vs S1 H1 e1 s1 r1 => ?_⟩
  refine ⟨S1, xs, s1, r1, ?_⟩
  cases q : m xs with
  | stuck => rw [q] at h; exact h.elim
  | ex c fs => rw [q] at h; exact fun dd S2 H2 e2 s2 x => h dd S2 H2 (e1.trans e2) s2 x
  | ok d => rw [q] at h; exact fun v S2 H2 e2 s2 r2 => h v S2 H2 (e1.trans e2) s2 r2

/-! ### built-ins -/
theorem de_fnB {g : List D → Option D} {id : String} (hc : CallR X (.builtin id) (rDn (G.R X.K) g)) (hg : Gl X x) (hm : X.mg x = none) (hv : bootBuiltins x = some (.builtin id)) (ha : DA X G W (e :: es) mas) (hn : x ≠ "__name__" := by decide) (hdb : (x == ("__debug__" : Str)) = false := by decide)
    (he : starEach (e :: es) X.env = (false, eval e X.env) :: starEach es X.env := by rfl) (hpl : (backTo pos (starEach es X.env)).any (·.1) = false := by rfl) : DE X G W (.Call (.Name x p) (e :: es) [] pos) (eFn g mas) :=
  pe_weak (pe_callB hc hg hm hv ha hn hdb he hpl) fun _ _ _ => t_fn
theorem de_fnT {g : List D → Option D} {id : String} (hc : CallR X (.type id) (rDn (G.R X.K) g)) (hg : Gl X x) (hm : X.mg x = none) (hv : bootBuiltins x = some (.type id)) (ha : DA X G W (e :: es) mas) (hn : x ≠ "__name__" := by decide) (hdb : (x == ("__debug__" : Str)) = false := by decide)
    (he : starEach (e :: es) X.env = (false, eval e X.env) :: starEach es X.env := by rfl) (hpl : (backTo pos (starEach es X.env)).any (·.1) = false := by rfl) : DE X G W (.Call (.Name x p) (e :: es) [] pos) (eFn g mas) :=
  pe_weak (pe_callTy hc hg hm hv ha hn hdb he hpl) fun _ _ _ => t_fn
/-- gcd, a module's name for a built-in function -/
theorem de_fnM {g : List D → Option D} {id : String} (hc : CallR X (.builtin id) (rDn (G.R X.K) g)) (hg : Gl X x) (hm : X.mg x = some (.builtin id)) (ha : DA X G W (e :: es) mas) (hdb : (x == ("__debug__" : Str)) = false := by decide)
    (he : starEach (e :: es) X.env = (false, eval e X.env) :: starEach es X.env := by rfl) (hpl : (backTo pos (starEach es X.env)).any (·.1) = false := by rfl) : DE X G W (.Call (.Name x p) (e :: es) [] pos) (eFn g mas) :=
  pe_weak (pe_callBfun hc hg hm ha hdb he hpl) fun _ _ _ => t_fn
def fLen : List D → Option D
  | [.lst xs] => some (.int xs.length)
  | [.ro xs] => some (.int xs.length)
  | [.tup xs] => some (.int xs.length)
  | [.str x] => if x.length ≤ sizeLine then some (.int x.length) else none
  | _ => none
def fAbs : List D → Option D
  | [.int i] => some (.int i.natAbs)
  | _ => none
def fInt : List D → Option D
  | [.int i] => some (.int i)
  | [.bl b] => some (.int (if b then 1 else 0))
  | [.str x] => if x.length ≤ 640 then (PySem.intText? x).map .int else none
  | _ => none
def fStr : List D → Option D
  | [.int i] => if i.natAbs.log2 < 1920 then some (.str (toString i)) else none
  | _ => none
def fTup : List D → Option D
  | [.lst xs] => some (.tup xs)
  | [.tup xs] => some (.tup xs)
  | _ => none
def fList : List D → Option D
  | [.lst xs] => some (.lst xs)
  | [.ro xs] => some (.lst xs)
  | [.tup xs] => some (.lst xs)
  | _ => none
def fSum : List D → Option D
  | [.lst xs] => (intsD xs).map fun ns => .int ns.sum
  | [.ro xs] => (intsD xs).map fun ns => .int ns.sum
  | [.tup xs] => (intsD xs).map fun ns => .int ns.sum
  | _ => none
def minI : List Int → Option Int
  | [] => none
  | x :: xs => some (xs.foldl (fun a b => if b < a then b else a) x)
def maxI : List Int → Option Int
  | [] => none
  | x :: xs => some (xs.foldl (fun a b => if a < b then b else a) x)
def fMin : List D → Option D
  | [.lst xs] => (intsD xs).bind fun ns => (minI ns).map .int
  | [.int a, .int b] => some (.int (if b < a then b else a))
  | _ => none
def fMax : List D → Option D
  | [.lst xs] => (intsD xs).bind fun ns => (maxI ns).map .int
  | [.int a, .int b] => some (.int (if b > a then b else a))
  | _ => none
def blsD : List D → Option (List Bool)
  | [] => some []
  | .bl b :: r => (blsD r).map (b :: ·)
  | _ => none
def fAny : List D → Option D
  | [.lst xs] => (blsD xs).map fun bs => .bl (bs.any id)
  | _ => none
def fAll : List D → Option D
  | [.lst xs] => (blsD xs).map fun bs => .bl (bs.all id)
  | _ => none
def fGcd : List D → Option D
  | [.int a, .int b] => some (.int ((Nat.gcd a.natAbs b.natAbs : Nat) : Int))
  | _ => none
theorem blsD_vals {R : RC} {S : Hp} : ∀ {ds : List D} {vs : List V} {ns : List Bool}, Reps R S vs ds → blsD ds = some ns → vs = ns.map V.bl
  | [], _, _, .nil, e => by cases e; rfl
  | d :: ds, _, _, .cons h1 h2, e => by
    cases d <;> simp only [blsD, Option.map_eq_some_iff, reduceCtorEq] at e
    obtain ⟨r, e1, e2⟩ := e
    subst e2
    cases h1
    rw [blsD_vals h2 e1]; rfl
theorem rep_one {R : RC} {S : Hp} {vs : List V} {d : D} (h : Reps R S vs [d]) : ∃ v, vs = [v] ∧ Rep R S v d := by
  cases h with
  | cons h1 h2 => cases h2; exact ⟨_, rfl, h1⟩
theorem rep_two {R : RC} {S : Hp} {vs : List V} {d e : D} (h : Reps R S vs [d, e]) : ∃ v u, vs = [v, u] ∧ Rep R S v d ∧ Rep R S u e := by
  cases h with
  | cons h1 h2 =>
    cases h2 with
    | cons h2 h3 => cases h3; exact ⟨_, _, rfl, h1, h2⟩
/-- a sequence that is read -/
theorem Rep.lstq {R : RC} {S : Hp} {v : V} {xs : List D} (h : Rep R S v (.lst xs)) : ∃ p vs, v = .ref p ∧ S p = some (.lst vs) ∧ Reps R S vs xs := by
  cases h with | lst a b => exact ⟨_, _, rfl, a, b⟩
theorem Rep.roq {R : RC} {S : Hp} {v : V} {xs : List D} (h : Rep R S v (.ro xs)) : ∃ p vs, v = .ref p ∧ SqL R.K S p vs ∧ Reps R S vs xs := by
  cases h with | ro a b => exact ⟨_, _, rfl, a, b⟩
theorem Rep.tupq {R : RC} {S : Hp} {v : V} {xs : List D} (h : Rep R S v (.tup xs)) : ∃ p vs, v = .ref p ∧ SqT R.K S p vs ∧ Reps R S vs xs := by
  cases h with | tup a b => exact ⟨_, _, rfl, a, b⟩
theorem cs_len : CallR X (.builtin "len") (rDn (G.R X.K) fLen) := CallR.weak call_len fun vs H Q ⟨S, ds, z, sub, r, e, q⟩ => by
  unfold fLen at e
  split at e
  · cases e
    obtain ⟨v, rfl, r1⟩ := rep_one r
    obtain ⟨p, ws, rfl, h1, h2⟩ := r1.lstq
    exact ⟨_, ws.length, rfl, .inl ⟨ws, SqL.of (sub _ _ h1), rfl⟩, by rw [h2.length]; exact give_int sub q⟩
  · cases e
    obtain ⟨v, rfl, r1⟩ := rep_one r
    obtain ⟨p, ws, rfl, h1, h2⟩ := r1.roq
    exact ⟨_, ws.length, rfl, .inl ⟨ws, same_sqL sub h1, rfl⟩, by rw [h2.length]; exact give_int sub q⟩
  · cases e
    obtain ⟨v, rfl, r1⟩ := rep_one r
    obtain ⟨p, ws, rfl, h1, h2⟩ := r1.tupq
    exact ⟨_, ws.length, rfl, .inr ⟨ws, same_sqT sub h1, rfl⟩, by rw [h2.length]; exact give_int sub q⟩
  · split at e
    · rename_i hl
      cases e
      obtain ⟨v, rfl, r1⟩ := rep_one r
      cases r1
      exact ⟨_, _, rfl, ⟨hl, rfl⟩, give_int sub q⟩
    · cases e
  · cases e
theorem cs_abs : CallR X (.builtin "abs") (rDn (G.R X.K) fAbs) := CallR.weak call_abs fun vs H Q ⟨S, ds, z, sub, r, e, q⟩ => by
  unfold fAbs at e
  split at e
  · cases e
    rename_i i
    obtain ⟨v, rfl, r1⟩ := rep_one r
    cases r1
    have e : (if i < 0 then -i else i) = (i.natAbs : Int) := by split <;> omega
    exact ⟨i, rfl, by rw [e]; exact give_int sub q⟩
  · cases e
theorem cs_int : CallR X (.type "int") (rDn (G.R X.K) fInt) := CallR.weak (call_int1.or call_int_str) fun vs H Q ⟨S, ds, z, sub, r, e, q⟩ => by
  unfold fInt at e
  split at e
  · cases e
    obtain ⟨v, rfl, r1⟩ := rep_one r
    cases r1
    exact .inl (.inl ⟨_, rfl, give_int sub q⟩)
  · cases e
    obtain ⟨v, rfl, r1⟩ := rep_one r
    cases r1
    exact .inl (.inr ⟨_, rfl, give_int sub q⟩)
  · split at e
    · rename_i hl
      obtain ⟨n, e1, rfl⟩ := Option.map_eq_some_iff.mp e
      obtain ⟨v, rfl, r1⟩ := rep_one r
      cases r1
      exact .inr ⟨_, n, rfl, e1, hl, give_int sub q⟩
    · cases e
  · cases e
theorem cs_str : CallR X (.type "str") (rDn (G.R X.K) fStr) := CallR.weak call_str_int fun vs H Q ⟨S, ds, z, sub, r, e, q⟩ => by
  unfold fStr at e
  split at e
  · split at e
    · rename_i hl
      cases e
      obtain ⟨v, rfl, r1⟩ := rep_one r
      cases r1
      exact ⟨_, rfl, hl, give_str sub q⟩
    · cases e
  · cases e
theorem cs_gcd : CallR X (.builtin "math.gcd") (rDn (G.R X.K) fGcd) := CallR.weak cr_gcd fun vs H Q ⟨S, ds, z, sub, r, e, q⟩ => by
  unfold fGcd at e
  split at e
  · cases e
    obtain ⟨v, u, rfl, r1, r2⟩ := rep_two r
    cases r1; cases r2
    exact ⟨_, _, rfl, give_int sub q⟩
  · cases e
/-- sum of a tuple of ints -/
theorem cr_sumT {X : Cx} (hc : X.calm = true) : CallR X (.builtin "sum") (fun vs H Q => ∃ (a : Addr) (ns : List Int), vs = [V.ref a] ∧ SqT X.K H a (ns.map V.int) ∧ Q (.int ns.sum) H) := by
  (intro pins s σ H vs us Q I r h)
  (obtain ⟨a, ns, rfl, hs, q⟩ := h)
  obtain ⟨its, rv, ht, _⟩ := I.tuple hs
  rw [Vals.ref1 r]
  obtain ⟨xs, e⟩ := rv.ints.allInts.items
  have hn : numsOf (intItems xs).toList = ns := by
    rw [← e]
    exact rv.ints.numsOf
  rw [nums_intItems] at hn
  rw [e] at ht
  refine PySem.W.ktm_sumG (I.ok.hd hc) (show s.heap.IsTuple a (intItems xs) from ht) fun h' tk t' hk => ?_
  (rw [preSum_eq, List.take_of_length_le (by simp), hn])
  exact ⟨.int _, H, I.kept hk, ⟨_, rfl⟩, q⟩
theorem cs_sum (hc : X.calm = true) : CallR X (.builtin "sum") (rDn (G.R X.K) fSum) := CallR.weak ((cr_sum hc).or (cr_sumT hc)) fun vs H Q ⟨S, ds, z, sub, r, e, q⟩ => by
  unfold fSum at e
  split at e
  · obtain ⟨ns, e1, rfl⟩ := Option.map_eq_some_iff.mp e
    obtain ⟨v, rfl, r1⟩ := rep_one r
    obtain ⟨p, ws, rfl, h1, h2⟩ := r1.lstq
    have := intsD_vals h2 e1
    subst this
    exact .inl ⟨p, ns, rfl, SqL.of (sub _ _ h1), give_int sub q⟩
  · obtain ⟨ns, e1, rfl⟩ := Option.map_eq_some_iff.mp e
    obtain ⟨v, rfl, r1⟩ := rep_one r
    obtain ⟨p, ws, rfl, h1, h2⟩ := r1.roq
    have := intsD_vals h2 e1
    subst this
    exact .inl ⟨p, ns, rfl, same_sqL sub h1, give_int sub q⟩
  · obtain ⟨ns, e1, rfl⟩ := Option.map_eq_some_iff.mp e
    obtain ⟨v, rfl, r1⟩ := rep_one r
    obtain ⟨p, ws, rfl, h1, h2⟩ := r1.tupq
    have := intsD_vals h2 e1
    subst this
    exact .inr ⟨p, ns, rfl, same_sqT sub h1, give_int sub q⟩
  · cases e
theorem minI_is {ns : List Int} {m : Int} (h : minI ns = some m) : m ∈ ns ∧ ∀ y ∈ ns, m ≤ y := by
  cases ns with
  | nil => cases h
  | cons x xs =>
    have key : ∀ (l : List Int) (a : Int), (l.foldl (fun a b => if b < a then b else a) a) ∈ a :: l ∧ ∀ y ∈ a :: l, (l.foldl (fun a b => if b < a then b else a) a) ≤ y := by
      intro l
      induction l with
      | nil => intro a; exact ⟨by simp, fun y hy => by simp at hy; simp [hy]⟩
      | cons b l ih =>
        intro a
        simp only [List.foldl_cons]
        obtain ⟨h1, h2⟩ := ih (if b < a then b else a)
        refine ⟨?_, fun y hy => ?_⟩
        · rcases List.mem_cons.mp h1 with e | e
          · rw [e]; split <;> simp
          · simp [e]
        · have hm := h2 (if b < a then b else a) (by simp)
          (rcases List.mem_cons.mp hy with e | e)
          · subst e
            refine Int.le_trans hm ?_
            split <;> omega
          · (rcases List.mem_cons.mp e with e | e)
            · subst e
              refine Int.le_trans hm ?_
              split <;> omega
            · exact h2 y (by simp [e])
    cases h
    exact key xs x
theorem maxI_is {ns : List Int} {m : Int} (h : maxI ns = some m) : m ∈ ns ∧ ∀ y ∈ ns, y ≤ m := by
  cases ns with
  | nil => cases h
  | cons x xs =>
    have key : ∀ (l : List Int) (a : Int), (l.foldl (fun a b => if a < b then b else a) a) ∈ a :: l ∧ ∀ y ∈ a :: l, y ≤ (l.foldl (fun a b => if a < b then b else a) a) := by
      intro l
      induction l with
      | nil => intro a; exact ⟨by simp, fun y hy => by simp at hy; simp [hy]⟩
      | cons b l ih =>
        intro a
        simp only [List.foldl_cons]
        obtain ⟨h1, h2⟩ := ih (if a < b then b else a)
        refine ⟨?_, fun y hy => ?_⟩
        · rcases List.mem_cons.mp h1 with e | e
          · rw [e]; split <;> simp
          · simp [e]
        · have hm := h2 (if a < b then b else a) (by simp)
          (rcases List.mem_cons.mp hy with e | e)
          · subst e
            refine Int.le_trans ?_ hm
            split <;> omega
          · (rcases List.mem_cons.mp e with e | e)
            · subst e
              refine Int.le_trans ?_ hm
              split <;> omega
            · exact h2 y (by simp [e])
    cases h
    exact key xs x
theorem cs_min (hc : X.calm = true) : CallR X (.builtin "min") (rDn (G.R X.K) fMin) := CallR.weak ((cr_min hc).or (call_min2 hc)) fun vs H Q ⟨S, ds, z, sub, r, e, q⟩ => by
  unfold fMin at e
  split at e
  · obtain ⟨ns, e1, e⟩ := Option.bind_eq_some_iff.mp e
    obtain ⟨m, e2, rfl⟩ := Option.map_eq_some_iff.mp e
    obtain ⟨v, rfl, r1⟩ := rep_one r
    obtain ⟨p, ws, rfl, h1, h2⟩ := r1.lstq
    have := intsD_vals h2 e1
    subst this
    have hm := minI_is e2
    refine .inl ⟨p, ns, rfl, SqL.of (sub _ _ h1), List.length_pos_of_mem hm.1, fun m' h3 h4 => ?_⟩
    have : m' = m := Int.le_antisymm (h4 m hm.1) (hm.2 m' h3)
    rw [this]
    exact give_int sub q
  · cases e
    obtain ⟨v, u, rfl, r1, r2⟩ := rep_two r
    cases r1; cases r2
    exact .inr ⟨_, _, rfl, give_int sub q⟩
  · cases e
theorem cs_max (hc : X.calm = true) : CallR X (.builtin "max") (rDn (G.R X.K) fMax) := CallR.weak ((cr_max hc).or (call_max2 hc)) fun vs H Q ⟨S, ds, z, sub, r, e, q⟩ => by
  unfold fMax at e
  split at e
  · obtain ⟨ns, e1, e⟩ := Option.bind_eq_some_iff.mp e
    obtain ⟨m, e2, rfl⟩ := Option.map_eq_some_iff.mp e
    obtain ⟨v, rfl, r1⟩ := rep_one r
    obtain ⟨p, ws, rfl, h1, h2⟩ := r1.lstq
    have := intsD_vals h2 e1
    subst this
    have hm := maxI_is e2
    refine .inl ⟨p, ns, rfl, SqL.of (sub _ _ h1), List.length_pos_of_mem hm.1, fun m' h3 h4 => ?_⟩
    have : m' = m := Int.le_antisymm (hm.2 m' h3) (h4 m hm.1)
    rw [this]
    exact give_int sub q
  · cases e
    obtain ⟨v, u, rfl, r1, r2⟩ := rep_two r
    cases r1; cases r2
    exact .inr ⟨_, _, rfl, give_int sub q⟩
  · cases e
theorem cs_any (hc : X.calm = true) : CallR X (.builtin "any") (rDn (G.R X.K) fAny) := CallR.weak (cr_any hc) fun vs H Q ⟨S, ds, z, sub, r, e, q⟩ => by
  unfold fAny at e
  split at e
  · obtain ⟨ns, e1, rfl⟩ := Option.map_eq_some_iff.mp e
    obtain ⟨v, rfl, r1⟩ := rep_one r
    obtain ⟨p, ws, rfl, h1, h2⟩ := r1.lstq
    have := blsD_vals h2 e1
    subst this
    exact ⟨p, ns, rfl, SqL.of (sub _ _ h1), give_bl sub q⟩
  · cases e
theorem cs_all (hc : X.calm = true) : CallR X (.builtin "all") (rDn (G.R X.K) fAll) := CallR.weak (cr_all hc) fun vs H Q ⟨S, ds, z, sub, r, e, q⟩ => by
  unfold fAll at e
  split at e
  · obtain ⟨ns, e1, rfl⟩ := Option.map_eq_some_iff.mp e
    obtain ⟨v, rfl, r1⟩ := rep_one r
    obtain ⟨p, ws, rfl, h1, h2⟩ := r1.lstq
    have := blsD_vals h2 e1
    subst this
    exact ⟨p, ns, rfl, SqL.of (sub _ _ h1), give_bl sub q⟩
  · cases e
theorem cs_tup : CallR X (.type "tuple") (rDn (G.R X.K) fTup) := CallR.weak call_tuple_of fun vs H Q ⟨S, ds, z, sub, r, e, q⟩ => by
  unfold fTup at e
  split at e
  · cases e
    obtain ⟨v, rfl, r1⟩ := rep_one r
    obtain ⟨p, ws, rfl, h1, h2⟩ := r1.lstq
    exact ⟨p, ws, rfl, .inl ⟨SqL.of (sub _ _ h1), give_tup sub h2 q⟩⟩
  · cases e
    obtain ⟨v, rfl, r1⟩ := rep_one r
    obtain ⟨p, ws, rfl, h1, h2⟩ := r1.tupq
    exact ⟨p, ws, rfl, .inr ⟨same_sqT sub h1, give_rep sub (.tup h1 h2) q⟩⟩
  · cases e
theorem cs_list : CallR X (.type "list") (rDn (G.R X.K) fList) := CallR.weak call_list_of fun vs H Q ⟨S, ds, z, sub, r, e, q⟩ => by
  unfold fList at e
  split at e
  · cases e
    obtain ⟨v, rfl, r1⟩ := rep_one r
    obtain ⟨p, ws, rfl, h1, h2⟩ := r1.lstq
    exact ⟨p, ws, rfl, .inl (SqL.of (sub _ _ h1)), give_lst sub h2 q⟩
  · cases e
    obtain ⟨v, rfl, r1⟩ := rep_one r
    obtain ⟨p, ws, rfl, h1, h2⟩ := r1.roq
    exact ⟨p, ws, rfl, .inl (same_sqL sub h1), give_lst sub h2 q⟩
  · cases e
    obtain ⟨v, rfl, r1⟩ := rep_one r
    obtain ⟨p, ws, rfl, h1, h2⟩ := r1.tupq
    exact ⟨p, ws, rfl, .inr (same_sqT sub h1), give_lst sub h2 q⟩
  · cases e

/-! ### subscripts, slices -/
def oIx : D → D → Option D
  | .lst xs, .int i => atI xs i
  | .ro xs, .int i => atI xs i
  | .tup xs, .int i => atI xs i
  | .str x, .int i => if x.length ≤ sizeLine then (atI x.cps.toList i).map fun c => .str ⟨#[c]⟩ else none
  | _, _ => none
theorem atI_rep {R : RC} {S : Hp} {vs : List V} {ds : List D} {i : Int} {d : D} (r : Reps R S vs ds) (h : atI ds i = some d) : ∃ v, atI vs i = some v ∧ Rep R S v d := by
  unfold atI at h ⊢
  rw [r.length]
  obtain ⟨j, h1, h2⟩ := Option.bind_eq_some_iff.mp h
  have hl : j < vs.length := by rw [r.length]; exact (List.getElem?_eq_some_iff.mp h2).1
  obtain ⟨d', e1, e2⟩ := r.get (List.getElem?_eq_getElem hl)
  rw [h2] at e1
  cases e1
  exact ⟨vs[j], by rw [h1]; exact List.getElem?_eq_getElem hl, e2⟩
theorem xs_ix : IxR X (rD2 (G.R X.K) oIx) := IxR.weak ix_seq fun x y H Q ⟨S, dx, dy, z, sub, rx, ry, e, q⟩ => by
  unfold oIx at e
  split at e
  · obtain ⟨p, ws, rfl, h1, h2⟩ := rx.lstq
    cases ry
    obtain ⟨v, e1, e2⟩ := atI_rep h2 e
    exact .inl ⟨p, ws, _, v, rfl, rfl, SqL.of (sub _ _ h1), e1, give_rep sub e2 q⟩
  · obtain ⟨p, ws, rfl, h1, h2⟩ := rx.roq
    cases ry
    obtain ⟨v, e1, e2⟩ := atI_rep h2 e
    exact .inl ⟨p, ws, _, v, rfl, rfl, same_sqL sub h1, e1, give_rep sub e2 q⟩
  · obtain ⟨p, ws, rfl, h1, h2⟩ := rx.tupq
    cases ry
    obtain ⟨v, e1, e2⟩ := atI_rep h2 e
    exact .inr (.inl ⟨p, ws, _, v, rfl, rfl, same_sqT sub h1, e1, give_rep sub e2 q⟩)
  · split at e
    · rename_i hl
      cases rx; cases ry
      obtain ⟨c, e1, rfl⟩ := Option.map_eq_some_iff.mp e
      exact .inr (.inr ⟨_, _, c, rfl, rfl, hl, e1, give_str sub q⟩)
    · cases e
  · cases e
/-- a part of a slice -/
abbrev MO := List Sl → Res (Option Int)
def pNo : MO := fun _ => .ok none
def pE (a : ME) : MO := fun ρ => (a ρ).bind fun d => match d with
  | .int i => .ok (some i)
  | _ => .stuck
def tDO (K : PySem.W.Frag) (G : GC) (W : WX) (m : MO) : TO := fun σ H Q => ∃ S ρ, RE K G S H σ ρ ∧
  After K G W S H σ (m ρ) fun o => ∀ S' H', Ext S H S' H' → Same S' H' → Q o H'
theorem po_weak {e : Option Expr} {t t' : TO} (h : PO X e t) (i : ∀ σ H Q, t' σ H Q → t σ H Q) : PO X e t' := ⟨fun pins s σ H Q I q => h.run pins s σ H Q I (i σ H Q q)⟩
theorem dp_no : PO X none (tDO X.K G W pNo) := po_weak po_none fun σ H Q ⟨S, ρ, re, h⟩ => h S H (.refl _ _) re.sub
theorem dp_e {a : Expr} {ma : ME} (h : DE X G W a ma) : PO X (some a) (tDO X.K G W (pE ma)) := po_weak (po_some h) fun σ H Q ⟨S, ρ, re, h⟩ => by
  refine ⟨S, ρ, re, After.bind h fun x h v S1 H1 e1 s1 r1 => ?_⟩
  cases x <;> (try exact h.elim)
  cases r1
  exact ⟨_, rfl, h S1 H1 e1 s1⟩
def cutL (xs : List D) (lo hi : Option Int) : List D := (xs.drop (HT.sIx xs.length 0 lo)).take (HT.sIx xs.length xs.length hi - HT.sIx xs.length 0 lo)
def oCut (d : D) (lo hi : Option Int) : Option D := match d with
  | .lst xs => some (.lst (cutL xs lo hi))
  | .ro xs => some (.lst (cutL xs lo hi))
  | .tup xs => some (.tup (cutL xs lo hi))
  | .str x => if x.length ≤ sizeLine then some (.str (cutS x lo hi)) else none
  | _ => none
def eCut (a : ME) (lo hi : MO) : ME := fun ρ => (a ρ).bind fun d => (lo ρ).bind fun l => (hi ρ).bind fun u => lift (oCut d l u)
theorem Reps.take {R : RC} {S : Hp} : ∀ {vs : List V} {ds : List D} (n : Nat), Reps R S vs ds → Reps R S (vs.take n) (ds.take n)
  | _, _, 0, _ => .nil
  | _, _, _ + 1, .nil => .nil
  | _, _, n + 1, .cons h1 h2 => .cons h1 (Reps.take n h2)
theorem Reps.drop {R : RC} {S : Hp} : ∀ {vs : List V} {ds : List D} (n : Nat), Reps R S vs ds → Reps R S (vs.drop n) (ds.drop n)
  | _, _, 0, h => h
  | _, _, _ + 1, .nil => .nil
  | _, _, n + 1, .cons _ h2 => Reps.drop n h2
theorem Reps.cut {R : RC} {S : Hp} {vs : List V} {ds : List D} (h : Reps R S vs ds) (lo hi : Option Int) : Reps R S (cutV vs lo hi) (cutL ds lo hi) := by
  unfold cutV cutL
  rw [h.length]
  exact (h.drop _).take _
theorem cut_whole {xs : List D} {lo hi : Option Int} (h : HT.sIx xs.length 0 lo = 0 ∧ HT.sIx xs.length xs.length hi = xs.length) : cutL xs lo hi = xs := by
  unfold cutL
  rw [h.1, h.2, List.drop_zero, Nat.sub_zero, List.take_length]
theorem de_cut {a : Expr} {ma : ME} {lo hi : Option Expr} {ml mh : MO} {p2 : Pos} (ha : DE X G W a ma) (hl : PO X lo (tDO X.K G W ml)) (hh : PO X hi (tDO X.K G W mh)) : DE X G W (.Subscript a (.Slice lo hi none p2) pos) (eCut ma ml mh) :=
  pe_weak (pe_slice (sl_list.or (sl_tupA.or sl_str)) ha hl hh) fun σ H Q ⟨S, ρ, re, h⟩ => by
    refine ⟨S, ρ, re, After.bind h fun x h v S1 H1 e1 s1 r1 => ?_⟩
    refine ⟨S1, ρ, re.grow e1 s1, After.bind (After.ext e1 h fun _ q => q) fun l h S2 H2 e2 s2 => ?_⟩
    refine ⟨S2, ρ, (re.grow e1 s1).grow e2 s2, After.bind (After.ext e2 h fun _ q => q) fun u h S3 H3 e3 s3 => ?_⟩
    have r1 := (r1.mono e2.s).mono e3.s
    obtain ⟨z, hz, q⟩ := After.lift h
    have q' : Give (G.R X.K) S3 H3 z Q := fun u S' H' e s r => q u S' H' (((e1.trans e2).trans e3).trans e) s r
    unfold oCut at hz
    split at hz
    · cases hz
      obtain ⟨p, ws, rfl, h1, h2⟩ := r1.lstq
      exact .inl ⟨p, ws, rfl, SqL.of (s3 _ _ h1), give_lst s3 (h2.cut _ _) q'⟩
    · cases hz
      obtain ⟨p, ws, rfl, h1, h2⟩ := r1.roq
      exact .inl ⟨p, ws, rfl, same_sqL s3 h1, give_lst s3 (h2.cut _ _) q'⟩
    · cases hz
      obtain ⟨p, ws, rfl, h1, h2⟩ := r1.tupq
      refine .inr (.inl ⟨p, ws, rfl, same_sqT s3 h1, fun hw => ?_, fun _ => give_tup s3 (h2.cut _ _) q'⟩)
      rw [h2.length] at hw
      rw [cut_whole hw] at q'
      exact give_rep s3 (.tup h1 h2) q'
    · split at hz
      · rename_i hl
        cases hz
        cases r1
        exact .inr (.inr ⟨_, rfl, hl, give_str s3 q'⟩)
      · cases hz
    · cases hz
/-! ### methods of texts -/
def eMs (g : Str → List D → Option D) (a : ME) (as : MA) : ME := fun ρ => (a ρ).bind fun x => match x with
  | .str z => (as ρ).bind fun xs => lift (g z xs)
  | _ => .stuck
def rDs (R : RC) (g : Str → List D → Option D) : V → List V → Hp → VK → Prop := fun v vs H Q => ∃ S a xs z, Same S H ∧ v = .str a ∧ Reps R S vs xs ∧ g a xs = some z ∧ Give R S H z Q
theorem MtR.weak {id : String} {r r' : V → List V → Hp → VK → Prop} (h : MtR X id r) (i : ∀ x xs H Q, r' x xs H Q → r x xs H Q) : MtR X id r' := fun pins s σ H x xs v us Q I rx rs q => h pins s σ H x xs v us Q I rx rs (i _ _ _ _ q)
theorem t_m1 {K : PySem.W.Frag} {g : Str → List D → Option D} {σ : St} {H : Hp} {Q : VK} (h : tD K G W (eMs g mo (aCons me aNil)) σ H Q) : tM1 (rDs (G.R K) g) (tD K G W mo) (tD K G W me) σ H Q := by
  obtain ⟨S, ρ, re, h⟩ := h
  refine ⟨S, ρ, re, After.bind h fun x h v S1 H1 e1 s1 r1 => ?_⟩
  have re1 := re.grow e1 s1
  cases x <;> (try exact h.elim)
  rename_i a
  cases r1
  refine ⟨⟨_, rfl⟩, S1, ρ, re1, ?_⟩
  refine After.bind (f := fun y => (aNil ρ).bind fun ys => lift (g a (y :: ys))) (After.ext e1 (k := fun d => ∀ v S' H', Ext S H S' H' → Same S' H' → Rep (G.R K) S' v d → Q v H') (by
    have e : ((aCons me aNil ρ).bind fun xs => lift (g a xs)) = (me ρ).bind fun y => (aNil ρ).bind fun ys => lift (g a (y :: ys)) := by
      unfold aCons
      cases me ρ <;> rfl
    rw [← e]; exact h) fun _ q => q) fun y h w S2 H2 e2 s2 r2 => ?_
  obtain ⟨z, hz, q⟩ := After.lift h
  exact ⟨S2, a, [y], z, s2, rfl, .cons r2 .nil, hz, fun u S3 H3 e3 s3 r3 => q u S3 H3 ((e1.trans e2).trans e3) s3 r3⟩
theorem t_m0 {K : PySem.W.Frag} {g : Str → List D → Option D} {σ : St} {H : Hp} {Q : VK} (h : tD K G W (eMs g mo aNil) σ H Q) : tM0 (rDs (G.R K) g) (tD K G W mo) σ H Q := by
  obtain ⟨S, ρ, re, h⟩ := h
  refine ⟨S, ρ, re, After.bind h fun x h v S1 H1 e1 s1 r1 => ?_⟩
  cases x <;> (try exact h.elim)
  rename_i a
  cases r1
  obtain ⟨z, hz, q⟩ := After.lift (o := g a []) h
  exact ⟨⟨_, rfl⟩, S1, a, [], z, s1, rfl, .nil, hz, fun u S3 H3 e3 s3 r3 => q u S3 H3 (e1.trans e3) s3 r3⟩
/-- a new list of texts -/
def strsD (xs : List Str) : List D := xs.map .str
theorem reps_strs {R : RC} {S : Hp} : ∀ xs : List Str, Reps R S (xs.map V.str) (strsD xs)
  | [] => .nil
  | x :: xs => .cons (.str x) (reps_strs xs)
def toStrs : List D → Option (List Str)
  | [] => some []
  | .str x :: r => (toStrs r).map (x :: ·)
  | _ => none
theorem toStrs_vals {R : RC} {S : Hp} : ∀ {ds : List D} {vs : List V} {ns : List Str}, Reps R S vs ds → toStrs ds = some ns → vs = ns.map V.str
  | [], _, _, .nil, e => by cases e; rfl
  | d :: ds, _, _, .cons h1 h2, e => by
    cases d <;> simp only [toStrs, Option.map_eq_some_iff, reduceCtorEq] at e
    obtain ⟨r, e1, e2⟩ := e
    subst e2
    cases h1
    rw [toStrs_vals h2 e1]; rfl
def gSplit (a : Str) : List D → Option D
  | [.str b] => if (b.length == 0) = false ∧ a.length + 2 ≤ sizeLine then some (.lst (strsD (Txt.split a b))) else none
  | _ => none
def gPart (a : Str) : List D → Option D
  | [.str b] => if (b.length == 0) = false ∧ a.length ≤ sizeLine then some (.tup [.str (Txt.partition a b).1, .str (Txt.partition a b).2.1, .str (Txt.partition a b).2.2]) else none
  | _ => none
def gJoin (a : Str) : List D → Option D
  | [.lst xs] => (toStrs xs).bind fun ys => if (ys.map (·.length)).sum + ys.length * a.length ≤ 16777216 then some (.str (Txt.join a ys)) else none
  | _ => none
def gUpper (a : Str) : List D → Option D
  | [] => if a.length ≤ 5592405 then some (.str (Txt.upper a)) else none
  | _ => none
theorem ms_split : MtR X "str.split" (rDs (G.R X.K) gSplit) := MtR.weak mt_split fun v vs H Q ⟨S, a, xs, z, sub, ev, r, e, q⟩ => by
  unfold gSplit at e
  split at e
  · split at e
    · rename_i h
      cases e
      obtain ⟨u, rfl, r1⟩ := rep_one r
      cases r1
      exact ⟨a, _, ev, rfl, h.1, h.2, give_lst sub (reps_strs _) q⟩
    · cases e
  · cases e
theorem ms_part : MtR X "str.partition" (rDs (G.R X.K) gPart) := MtR.weak mt_partition fun v vs H Q ⟨S, a, xs, z, sub, ev, r, e, q⟩ => by
  unfold gPart at e
  split at e
  · split at e
    · rename_i h
      cases e
      obtain ⟨u, rfl, r1⟩ := rep_one r
      cases r1
      exact ⟨a, _, ev, rfl, h.1, h.2, give_tup sub (.cons (.str _) (.cons (.str _) (.cons (.str _) .nil))) q⟩
    · cases e
  · cases e
theorem ms_join : MtR X "str.join" (rDs (G.R X.K) gJoin) := MtR.weak mt_join fun v vs H Q ⟨S, a, xs, z, sub, ev, r, e, q⟩ => by
  unfold gJoin at e
  split at e
  · obtain ⟨ys, e1, e⟩ := Option.bind_eq_some_iff.mp e
    split at e
    · rename_i h
      cases e
      obtain ⟨u, rfl, r1⟩ := rep_one r
      obtain ⟨p, ws, rfl, h1, h2⟩ := r1.lstq
      have := toStrs_vals h2 e1
      subst this
      exact ⟨a, p, ys, ev, rfl, .inl (SqL.of (sub _ _ h1)), h, give_str sub q⟩
    · cases e
  · cases e
theorem ms_upper : MtR X "str.upper" (rDs (G.R X.K) gUpper) := MtR.weak mt_upper fun v vs H Q ⟨S, a, xs, z, sub, ev, r, e, q⟩ => by
  unfold gUpper at e
  split at e
  · split at e
    · rename_i h
      cases e
      cases r
      exact ⟨a, ev, rfl, h, give_str sub q⟩
    · cases e
  · cases e
theorem de_m1 {id : String} {name : Str} {g : Str → List D → Option D} (slot : Slot "str" name id) (ty : typeOf (.builtin id) = pure (.type "method_descriptor")) (rule : MtR X id (rDs (G.R X.K) g)) (ho : DE X G W o mo) (he : DE X G W e me) (hs : starEach [e] X.env = [(false, eval e X.env)] := by rfl)
    (hbase : attributeBase o name X.env (eval o X.env) = eval o X.env := by rfl) (hline : (apos.endLine == pos.line) = true := by rfl) : DE X G W (.Call (.Attribute o name apos) [e] [] pos) (eMs g mo (aCons me aNil)) :=
  pe_weak (pe_m1 slot ty rule ho he hs hbase hline) fun _ _ _ => t_m1
theorem de_m0 {id : String} {name : Str} {g : Str → List D → Option D} (slot : Slot "str" name id) (ty : typeOf (.builtin id) = pure (.type "method_descriptor")) (rule : MtR X id (rDs (G.R X.K) g)) (ho : DE X G W o mo)
    (hbase : attributeBase o name X.env (eval o X.env) = eval o X.env := by rfl) (hline : (apos.endLine == pos.line) = true := by rfl) : DE X G W (.Call (.Attribute o name apos) [] [] pos) (eMs g mo aNil) :=
  pe_weak (pe_m0 slot ty rule ho hbase hline) fun _ _ _ => t_m0
end
end L2.DL
namespace L2.DL
open PySem PyProof.Rows PySem.Spec
/-- what a list, a tuple, a text walks -/
def itemsD : D → Option (List D)
  | .lst xs => some xs
  | .ro xs => some xs
  | .tup xs => some xs
  | .str x => some (signsD x)
  | _ => none
def iSq (e : ME) : MI := fun ρ => (e ρ).bind fun d => lift (itemsD d)
/-- as many turns as the number in a slot says, and one more -/
def fuelI (i : Nat) (ρ : List Sl) : Nat := match ρ[i]? with
  | some (.d (.int b)) => b.natAbs + 1
  | _ => 0
def eIxB (i : Nat) (k : ME) : ME := fun ρ => match ρ[i]? with
  | some (.bl xs) => (k ρ).bind fun d => lift (oIx (.lst xs) d)
  | _ => .stuck
def eLenB (i : Nat) : ME := fun ρ => match ρ[i]? with
  | some (.bl xs) => .ok (.int xs.length)
  | _ => .stuck
section
variable {X : Cx} {G : GC} {W : WX} {a b e : Expr} {ma mb me : ME} {pos : Pos} {tg : Expr} {x : Str}
theorem di_seq (ha : DE X G W a ma) : DI X G W tg a (iSq ma) := ⟨fun pins s σ H R I ⟨S, ρ, re, h⟩ => by
  cases q : ma ρ with
  | stuck => simp only [iSq, q] at h; exact h.elim
  | ex c fs => exact (di_list ha).run pins s σ H R I ⟨S, ρ, re, by simp only [iSq, iLs, q] at h ⊢; exact h⟩
  | ok d =>
    cases d with
    | lst xs => exact (di_list ha).run pins s σ H R I ⟨S, ρ, re, by simp only [iSq, iLs, q] at h ⊢; exact h⟩
    | ro xs => exact (di_list ha).run pins s σ H R I ⟨S, ρ, re, by simp only [iSq, iLs, q] at h ⊢; exact h⟩
    | tup xs => exact (di_tup ha).run pins s σ H R I ⟨S, ρ, re, by simp only [iSq, iTp, q] at h ⊢; exact h⟩
    | str x => exact (di_str ha).run pins s σ H R I ⟨S, ρ, re, by simp only [iSq, iSt, q] at h ⊢; exact h⟩
    | _ => simp only [iSq, q] at h; exact h.elim⟩
theorem de_ixB (i : Nat) {p1 : Pos} (hb : DE X G W b mb) (hs : PlainIx b := by exact fun _ _ => rfl) (hN : X.N[i]? = some x := by rfl) (hv : Vis X.env.scope x := by first | exact Or.inl rfl | exact Or.inr (Or.inl rfl) | exact Or.inr (Or.inr rfl)) (hd : (x == ("__debug__" : Str)) = false := by decide) (hcd : (x == ("__classdict__" : Str)) = false := by decide) :
    DE X G W (.Subscript (.Name x p1) b pos) (eIxB i mb) := pe_weak (pe_ix ix_list (pe_var hN hv hd hcd) hb hs) fun σ H Q ⟨S, ρ, re, h⟩ => by
  unfold eIxB at h
  split at h
  · rename_i xs hz
    obtain ⟨o, h1, p, vs, ho, hS, hp, hr⟩ := re.sl i _ hz
    subst ho
    refine ⟨_, h1, S, ρ, re, After.bind h fun d h v S1 H1 e1 s1 r1 => ?_⟩
    obtain ⟨z, hz', q⟩ := After.lift h
    cases d with
    | int k =>
      have hz' : atI xs k = some z := hz'
      cases r1
      obtain ⟨v, a1, a2⟩ := atI_rep hr hz'
      exact ⟨p, vs, _, v, rfl, rfl, SqL.of (e1.h _ _ hp), a1, q v S1 H1 e1 s1 (a2.mono e1.s)⟩
    | _ => cases hz'
  · exact h.elim
theorem de_lenB (i : Nat) {p p1 : Pos} (hg : Gl X "len") (hm : X.mg "len" = none) (hN : X.N[i]? = some x := by rfl) (hv : Vis X.env.scope x := by first | exact Or.inl rfl | exact Or.inr (Or.inl rfl) | exact Or.inr (Or.inr rfl)) (hd : (x == ("__debug__" : Str)) = false := by decide) (hcd : (x == ("__classdict__" : Str)) = false := by decide)
    (he : starEach (.Name x p1 :: []) X.env = (false, eval (.Name x p1) X.env) :: starEach [] X.env := by rfl) (hpl : (backTo pos (starEach [] X.env)).any (·.1) = false := by rfl) :
    DE X G W (.Call (.Name "len" p) [.Name x p1] [] pos) (eLenB i) := pe_weak (pe_callB call_len_seq hg hm PySem.boot_len (pa_cons (pe_var (i := i) hN hv hd hcd) pa_nil he) (by decide) (by decide) he hpl) fun σ H Q ⟨S, ρ, re, h⟩ => by
  unfold eLenB at h
  split at h
  · rename_i xs hz
    obtain ⟨o, h1, p, vs, ho, hS, hp, hr⟩ := re.sl i _ hz
    subst ho
    exact ⟨_, h1, p, vs, rfl, .inl (SqL.of hp), by rw [hr.length]; exact h _ S H (.refl _ _) re.sub (.int _)⟩
  · exact h.elim
end
end L2.DL
namespace L2.DL
open PySem PyProof.Rows PySem.Spec
/-! ### exceptions -/
/-- __init__ of an exception class: its fields are kept -/
def spEx (C : Addr) (flds : List Str) : Sp := fun vs H Q _ => ∃ a ws, vs = .ref a :: ws ∧ ws.length = flds.length ∧ H a = some (exo a C none) ∧ ∀ dx, H dx = none → dx ≠ a → Q .non (upd (upd H dx (exd dx ((flds.zip ws).reverse))) a (exo a C (some dx)))
/-- an exception class with fields: what the walk wants of it -/
structure ExF (P : Program) (w : World) (K : PySem.W.Frag) (mg : Str → Option Value) (base : Heap) (C : Addr) (x : Str) (flds : List Str) : Prop where
  gC : mg x = some (.ref C)
  T : OexC K C
  ini : ∃ fI fd ps, PySem.W.findIn K (.ref C) "__init__" = some (some (.ref fI)) ∧ PySem.W.typeIn K (.ref fI) = some (.type "function") ∧ FnOk P w K mg base (L2.CX P w) 1 fI fd ps (spEx C flds) ∧ Binds K fd ps [] ∧ flds ≠ [] ∧ flds.length ≤ 900
section
variable {P : Program} {w : World} {K : PySem.W.Frag} {mg : Str → Option Value} {base : Heap} {C fI : Addr} {qual : Str} {params : Arguments} {body : List Stmt} {scope : Scope} {fd : FuncData} {N ps : List Str} {f1 f2 : Str}
theorem upd_comm {H : Hp} {a b : Addr} {o u : HO} (h : a ≠ b) : upd (upd H a o) b u = upd (upd H b u) a o := by
  funext c
  unfold upd
  by_cases h1 : c = a
  · subst h1; simp [h]
  · simp [h1]
theorem exinit1 (F : FunD K "__init__" qual params body scope [] [] fI fd) (S : FnScope ["self", f1] ["self", f1] scope) (T : OexC K C) (n1 : PySem.W.findIn K (.ref C) f1 = some none)
    (hbody : ∀ (cdv : Value) (A : Around) (outer : List Env) (s : Shared) (H : Hp) (E : XK),
      PSs (cxOf (L2.CX P w) P w K mg base ["self", f1] qual scope fI cdv A outer s H E) body (tOst K f1 (tVar 0) (tVar 1))) : FnOk P w K mg base (L2.CX P w) 1 fI fd ["self", f1] (spEx C [f1]) := by
  refine F.ok (k := 0) S (fun vs H Q E h => ?_) (fun cdv A outer s H vs Q E hr h => ⟨_, hbody cdv A outer s H E, ?_⟩)
  · obtain ⟨a, ws, rfl, hl, _⟩ := h
    simp only [List.length_cons, hl, List.length_nil]
  · obtain ⟨a, ws, rfl, hl, ha, q⟩ := h
    obtain ⟨y, rfl⟩ : ∃ y, ws = [y] := by
      cases ws with
      | nil => cases hl
      | cons y r => cases r with
        | nil => exact ⟨y, rfl⟩
        | cons _ _ => simp at hl
    exact ⟨y, rfl, .ref a, rfl, a, C, rfl, T, n1, .inl ⟨ha, fun dx hd hn => q dx hd hn⟩⟩
theorem exinit2 (F : FunD K "__init__" qual params body scope [] [] fI fd) (S : FnScope ["self", f1, f2] ["self", f1, f2] scope) (T : OexC K C) (n1 : PySem.W.findIn K (.ref C) f1 = some none) (n2 : PySem.W.findIn K (.ref C) f2 = some none)
    (hbody : ∀ (cdv : Value) (A : Around) (outer : List Env) (s : Shared) (H : Hp) (E : XK),
      PSs (cxOf (L2.CX P w) P w K mg base ["self", f1, f2] qual scope fI cdv A outer s H E) body (tSeq (tOst K f1 (tVar 0) (tVar 1)) (tOst K f2 (tVar 0) (tVar 2)))) : FnOk P w K mg base (L2.CX P w) 1 fI fd ["self", f1, f2] (spEx C [f1, f2]) := by
  refine F.ok (k := 0) S (fun vs H Q E h => ?_) (fun cdv A outer s H vs Q E hr h => ⟨_, hbody cdv A outer s H E, ?_⟩)
  · obtain ⟨a, ws, rfl, hl, _⟩ := h
    simp only [List.length_cons, hl, List.length_nil]
  · obtain ⟨a, ws, rfl, hl, ha, q⟩ := h
    obtain ⟨y, z, rfl⟩ : ∃ y z, ws = [y, z] := by
      cases ws with
      | nil => cases hl
      | cons y r => cases r with
        | nil => simp at hl
        | cons z r => cases r with
          | nil => exact ⟨y, z, rfl⟩
          | cons _ _ => simp at hl
    refine ⟨y, rfl, .ref a, rfl, a, C, rfl, T, n1, .inl ⟨ha, fun dx hd hn => ?_⟩⟩
    refine ⟨z, rfl, .ref a, rfl, a, C, rfl, T, n2, .inr ⟨dx, _, upd_same, by rw [upd_ne hn, upd_same], by simp, ?_⟩⟩
    have e : upd (upd (upd H dx (exd dx [(f1, y)])) a (exo a C (some dx))) dx (exd dx ((f2, z) :: [(f1, y)])) = upd (upd H dx (exd dx [(f2, z), (f1, y)])) a (exo a C (some dx)) := by
      rw [upd_comm (Ne.symm hn), upd_upd]
    rw [e]
    exact q dx hd hn
end
def sRaise (c : Nat) (flds : List Str) (as : MA) : MS := fun ρ => (as ρ).bind fun xs => if xs.length = flds.length then .ex c ((flds.zip xs).reverse) else .stuck
theorem RepF.zip {R : RC} {S : Hp} : ∀ {flds : List Str} {vs : List V} {ds : List D}, Reps R S vs ds → RepF R S (flds.zip vs) (flds.zip ds)
  | [], _, _, _ => by simp only [List.zip_nil_left]; exact .nil
  | _ :: _, _, _, .nil => .nil
  | _ :: _, _, _, .cons h1 h2 => .cons h1 (RepF.zip h2)
theorem RepF.app {R : RC} {S : Hp} : ∀ {a b : List (Str × V)} {c d : List (Str × D)}, RepF R S a c → RepF R S b d → RepF R S (a ++ b) (c ++ d)
  | _, _, _, _, .nil, h => h
  | _, _, _, _, .cons h1 h2, h => .cons h1 (RepF.app h2 h)
theorem RepF.rev {R : RC} {S : Hp} : ∀ {a : List (Str × V)} {c : List (Str × D)}, RepF R S a c → RepF R S a.reverse c.reverse
  | _, _, .nil => .nil
  | _, _, .cons h1 h2 => by
    (rw [List.reverse_cons, List.reverse_cons])
    exact (RepF.rev h2).app (.cons h1 .nil)
theorem RepF.look {R : RC} {S : Hp} {f : Str} {d : D} : ∀ {a : List (Str × V)} {c : List (Str × D)}, RepF R S a c → c.lookup f = some d → ∃ v, a.lookup f = some v ∧ Rep R S v d
  | _, _, .nil, h => by cases h
  | _, _, @RepF.cons _ _ k v d' vs ds h1 h2, h => by
    rw [List.lookup_cons] at h ⊢
    cases e : f == k with
    | true =>
      rw [e] at h
      cases h
      exact ⟨_, rfl, h1⟩
    | false =>
      rw [e] at h
      exact RepF.look h2 h
section
variable {X : Cx} {G : GC} {W : WX} {e : Expr} {es : List Expr} {mas : MA} {me : ME} {p pos pos2 : Pos} {x : Str} {flds : List Str} {c : Nat}
theorem ds_raise (F : ExF X.prog X.w X.K X.mg X.base (G.cls c) x flds) (hr : Room 2 X.A) (tk : Takes X W) (hg : Gl X x) (ha : DA X G W (e :: es) mas) (hc : X.calm = true := by rfl)
    (hdb : (x == ("__debug__" : Str)) = false := by decide) (he : starEach (e :: es) X.env = (false, eval e
          X.env) :: starEach es X.env := by rfl) (hpl : (backTo pos (starEach es X.env)).any (·.1) = false := by rfl) :
    DS X G W (.Raise (some (.Call (.Name x p) (e :: es) [] pos)) none pos2) (sRaise c flds mas) := by
  obtain ⟨fI, fd, ps, iC, tI, F1, hb, hne, hfl⟩ := F.ini
  refine ps_weak (ps_raise hc tk (pmk_oex F.T iC tI F1 hr hb .nil passL hg F.gC ha hdb he hpl)) fun De σ H ⟨S, ρ, re, h⟩ => ?_
  refine ⟨S, ρ, re, AfterS.toE h re fun xs h vs S1 H1 e1 s1 r1 => ?_⟩
  have re1 := re.grow e1 s1
  split at h
  · rename_i hl
    refine ⟨by rw [r1.length, hl]; omega, fun a ha => ?_⟩
    refine ⟨a, vs, by rw [List.append_nil], by rw [r1.length]; exact hl, upd_same, fun dx hdx hna => ⟨rfl, ?_⟩⟩
    have hd1 : H1 dx = none := by rw [upd_ne hna] at hdx; exact hdx
    refine ⟨dx, (flds.zip vs).reverse, upd_same, by rw [upd_ne hna, upd_same], hd1, ?_⟩
    have eH : upd (del (upd (upd (upd H1 a (exo a (G.cls c) none)) dx (exd dx ((flds.zip vs).reverse))) a (exo a (G.cls c) (some dx))) a) dx (.xd ((flds.zip vs).reverse)) = upd H1 dx (.xd ((flds.zip vs).reverse)) := by
      funext b
      by_cases hb : b = dx
      · rw [hb, upd_same, upd_same]
      · rw [upd_ne hb, upd_ne hb]
        by_cases hba : b = a
        · rw [hba, del_same, ha]
        · rw [del_ne hba, upd_ne hba, upd_ne hb, upd_ne hba]
    rw [eH]
    refine h (some dx) σ S1 _ (re1.ext.trans ⟨fun _ _ e => e, fun q u e => by rw [upd_ne (ne_of_none e hd1)]; exact e, fun q u e n => by rw [n] at e; cases e⟩) (fun q u e => ?_) (.inr ⟨dx, _, rfl, upd_same, (RepF.zip r1).rev⟩)
    rw [upd_ne (ne_of_none (s1 _ _ e) hd1)]
    exact s1 _ _ e
  · exact h.elim

/-! ### try -/
/-- try: return e | e, except C as n (slot i): cm tells which classes the clause names; hd: the suite, by the class and the fields -/
def sTry (ret : Bool) (me : ME) (i : Nat) (cm : Nat → Option Bool) (hd : Nat → List (Str × D) → MS) : MS := fun ρ => match me ρ with
  | .ok d => if ret = true then .ok (.rt d) else .ok (.nx ρ)
  | .ex c fs => if i < ρ.length then (match cm c with
    | some true => (nox (hd c fs (ρ.set i .no))).bind fun o => (match o with
      | .nx ρ' => .ok (.nx (ρ'.set i .no))
      | .rt d => .ok (.rt d)
      | _ => .stuck)
    | some false => .ex c fs
    | none => .stuck) else .stuck
  | .stuck => .stuck
/-- the caught exception's field -/
def eXf (cs : List Nat) (c : Nat) (fs : List (Str × D)) (f : Str) : ME := fun _ => if c ∈ cs then lift (fs.lookup f) else .stuck
/-- isinstance(n, C) of it -/
def eXi (tab : Nat → Option Bool) (c : Nat) : ME := fun _ => lift ((tab c).map .bl)
abbrev GC.at (G : GC) (i : Nat) (a : Addr) (dd : Option Addr) (c : Nat) (fs : List (Str × D)) : GC := ⟨G.cls, G.H0, G.S0, some (i, a, dd, c, fs), G.slf⟩
/-- into the suite -/
theorem RE.into {K : PySem.W.Frag} {S H : Hp} {σ : St} {ρ : List Sl} {i : Nat} {a : Addr} {dd : Option Addr} {c : Nat} {fs : List (Str × D)} (hG : G.ex = none) (re : RE K G S H σ ρ) (hi : i < ρ.length) (x : XdAt (G.R K) S H dd fs) : RE K (G.at i a dd c fs) S H (σ.set i (some (.ref a))) (ρ.set i .no) := by
  have re0 := RE.unset hG re i
  have hl : i < σ.length := by rw [re.len]; exact hi
  have e0 : ∀ (j : Nat), i ≠ j → (σ.set i (some (V.ref a)))[j]? = (σ.set i none)[j]? := fun j h => by rw [List.getElem?_set_ne h, List.getElem?_set_ne h]
  refine ⟨re0.sub, re0.ext, by simp [re.len], fun j y e => ?_, fun j y p e o s => ?_, fun i' a' dd' c' fs' h => ?_⟩
  · by_cases hj : i = j
    · subst hj
      rw [List.getElem?_set_self hi] at e
      cases e
      exact ⟨_, List.getElem?_set_self hl, trivial⟩
    · obtain ⟨o, h1, h2⟩ := re0.sl j y e
      exact ⟨o, by rw [e0 j hj]; exact h1, h2⟩
  · have ne : ∀ (k : Nat) z, (ρ.set i .no)[k]? = some z → z.own = true → i ≠ k := fun k z ez oz q => by
      subst q
      rw [List.getElem?_set_self hi] at ez
      cases ez; cases oz
    rw [e0 j (ne j y e o)] at s
    obtain ⟨h1, h2⟩ := re0.own j y p e o s
    exact ⟨h1, fun k z ez oz sz => h2 k z ez oz (by rw [← e0 k (ne k z ez oz)]; exact sz)⟩
  · cases h
    exact ⟨List.getElem?_set_self hl, x⟩
/-- out of it: the name is unbound -/
theorem RE.outof {K : PySem.W.Frag} {S H : Hp} {σ : St} {ρ : List Sl} {i : Nat} {a : Addr} {dd : Option Addr} {c : Nat} {fs : List (Str × D)} (hG : G.ex = none) (re : RE K (G.at i a dd c fs) S H σ ρ) : RE K G S H (σ.set i none) (ρ.set i .no) := by
  have re0 : RE K G S H σ ρ := ⟨re.sub, re.ext, re.len, re.sl, re.own, fun _ _ _ _ _ h => by rw [hG] at h; cases h⟩
  exact RE.unset hG re0 i
variable {n y : Str} {i : Nat} {cE : Addr} {np pos' ppos : Pos} {b₀ : Stmt} {suite : List Stmt} {cm : Nat → Option Bool} {hd : Nat → List (Str × D) → MS}
def tsX (K : PySem.W.Frag) (G : GC) (i : Nat) (cm : Nat → Option Bool) (hd : Nat → List (Str × D) → MS) : Addr → Value → Option Addr → TS := fun a cls dd D σ H => ∃ c fs, cls = .ref (G.cls c) ∧ cm c = some true ∧ tDS K (G.at i a dd c fs) W0 (hd c fs) D σ H
theorem t_try {K : PySem.W.Frag} {ret : Bool} {De : Ends} {σ : St} {H : Hp} {cE : Value} (hG : G.ex = none) (hcm : ∀ c b, cm c = some b → PySem.W.exmOne K (.ref (G.cls c)) cE = some b) (h : tDS K G W (sTry ret me i cm hd) De σ H) :
    tD K G (wAs K cE i (tsX K G i cm hd) W De) me σ H (fun v H1 => if ret = true then De.rt v H1 else De.nx σ H1) := by
  obtain ⟨S, ρ, re, h⟩ := h
  refine ⟨S, ρ, re, ?_⟩
  unfold sTry at h
  cases q : me ρ with
  | stuck => rw [q] at h; exact h.elim
  | ok d =>
    rw [q] at h
    intro v S1 H1 e1 s1 r1
    cases ret with
    | true => simp only [if_true] at h ⊢; exact h v S1 H1 (re.ext.trans e1) s1 r1
    | false => simp only [Bool.false_eq_true, if_false] at h ⊢; exact h σ S1 H1 e1.s (re.grow e1 s1)
  | ex c fs =>
    rw [q] at h
    dsimp only at h
    intro dd S1 H1 e1 s1 x1
    have re1 := re.grow e1 s1
    by_cases hi : i < ρ.length
    case neg => rw [if_neg hi] at h; exact h.elim
    rw [if_pos hi] at h
    cases hb : cm c with
    | none => rw [hb] at h; exact h.elim
    | some b =>
      rw [hb] at h
      refine ⟨b, hcm c b hb, fun eb a ha => ?_, fun eb => ?_⟩
      · subst eb
        refine ⟨c, fs, rfl, hb, S1, ρ.set i .no, RE.into hG re1 hi x1, ?_⟩
        cases q2 : hd c fs (ρ.set i .no) with
        | stuck => simp only [q2] at h; exact h.elim
        | ex _ _ => simp only [q2] at h; exact h.elim
        | ok o =>
          simp only [q2] at h
          cases o with
          | nx ρ' => exact fun σ' S' H' s re' => h _ S' H' (e1.s.trans s) (RE.outof hG re')
          | rt d => exact fun v S' H' e s r => h v S' H' e s r
          | bk _ => exact h.elim
          | ct _ => exact h.elim
      · subst eb
        exact h dd σ S1 H1 (re.ext.trans e1) s1 x1
theorem suite_of {a : Addr} {oe : Obj} {cls : Value} {dd : Option Addr} {pn : List (Addr × Obj)} (h : ∀ c fs, cls = .ref (G.cls c) → cm c = some true → DSs (X.suite a ((a, oe) :: pn)) (G.at i a dd c fs) W0 suite (hd c fs)) :
    PSs (X.suite a ((a, oe) :: pn)) suite (tsX X.K G i cm hd a cls dd) := ⟨fun pins s σ H De I ⟨c, fs, e, hb, q⟩ => (h c fs e hb).run pins s σ H De I q⟩
theorem ds_try_ret {tpos : Pos} (hs : X.stack = X.env :: X.outer) (hf : X.env.frame = some X.env.locals) (hN : X.N.Nodup) (hi : X.N[i]? = some n) (hln : X.env.kindOf n = some .local) (hc : Names X y (.ref cE)) (tk : Takes X W) (hcm : ∀ c b, cm c = some b → PySem.W.exmOne X.K (.ref (G.cls c)) (.ref cE) = some b)
    (he : ∀ (W : WX) (pn : List (Addr × Obj)) (xe : Value → Shared → Prop), Takes (X.tr pn xe) W → PE (X.tr pn xe) e (tD X.K G W me))
    (hsu : ∀ (a : Addr) (oe : Obj) (dd : Option Addr) (pn : List (Addr × Obj)) (c : Nat) (fs : List (Str × D)), Zc (.ref (G.cls c)) dd oe → (∃ vs, oe.data = .fields vs) → cm c = some true → PSs (X.suite a ((a, oe) :: pn)) (b₀ :: suite) (tDS X.K (G.at i a dd c fs) W0 (hd c fs))) (hG : G.ex = none := by rfl) :
    DS X G W (.Try [.Return (some e) ppos] [.ExceptHandler (some (.Name y np)) (some n) (b₀ :: suite) pos'] [] [] tpos) (sTry true me i cm hd) :=
  ps_weak (ps_try_as (tb := fun W => tRet (tD X.K G W me)) (ts := tsX X.K G i cm hd) hs hf hN hi hln hc tk (fun W pn xe tk _ => pss_one (ps_ret (he W pn xe tk))) (fun a oe cls dd pn hz hv => suite_of fun c fs e hb => hsu a oe dd pn c fs (by rw [← e]; exact hz) hv hb))
    fun De σ H h => by
      have := t_try (ret := true) hG hcm h
      simp only [if_true] at this
      exact this
theorem ds_try_ex {tpos : Pos} (hs : X.stack = X.env :: X.outer) (hf : X.env.frame = some X.env.locals) (hN : X.N.Nodup) (hi : X.N[i]? = some n) (hln : X.env.kindOf n = some .local) (hc : Names X y (.ref cE)) (tk : Takes X W) (hcm : ∀ c b, cm c = some b → PySem.W.exmOne X.K (.ref (G.cls c)) (.ref cE) = some b)
    (he : ∀ (W : WX) (pn : List (Addr × Obj)) (xe : Value → Shared → Prop), Takes (X.tr pn xe) W → PE (X.tr pn xe) e (tD X.K G W me)) (hsw : ∀ (pn : List (Addr × Obj)) (xe : Value → Shared → Prop), swapsWith e none ppos.line (X.tr pn xe).env = pure false := by intro _ _; rfl)
    (hsu : ∀ (a : Addr) (oe : Obj) (dd : Option Addr) (pn : List (Addr × Obj)) (c : Nat) (fs : List (Str × D)), Zc (.ref (G.cls c)) dd oe → (∃ vs, oe.data = .fields vs) → cm c = some true → PSs (X.suite a ((a, oe) :: pn)) (b₀ :: suite) (tDS X.K (G.at i a dd c fs) W0 (hd c fs))) (hG : G.ex = none := by rfl) :
    DS X G W (.Try [.Expr e ppos] [.ExceptHandler (some (.Name y np)) (some n) (b₀ :: suite) pos'] [] [] tpos) (sTry false me i cm hd) :=
  ps_weak (ps_try_as (tb := fun W => tDrop (tD X.K G W me)) (ts := tsX X.K G i cm hd) hs hf hN hi hln hc tk (fun W pn xe tk _ => pss_one (ps_expr (he W pn xe tk) (hsw pn xe))) (fun a oe cls dd pn hz hv => suite_of fun c fs e hb => hsu a oe dd pn c fs (by rw [← e]; exact hz) hv hb))
    fun De σ H h => by
      have := t_try (ret := false) hG hcm h
      simp only [Bool.false_eq_true, if_false] at this
      exact this
/-- n.f in the suite -/
theorem de_xf {a : Addr} {oe : Obj} {dd : Option Addr} {pn : List (Addr × Obj)} {c : Nat} {fs : List (Str × D)} {f : Str} {p1 : Pos} {cs : List Nat} {W : WX} (hz : Zc (.ref (G.cls c)) dd oe) (hv : ∃ vs, oe.data = .fields vs) (T : ∀ c ∈ cs, XfC X.K (G.cls c) ∧ PySem.W.findIn X.K (.ref (G.cls c)) f = some none)
    (hN : (X.suite a ((a, oe) :: pn)).N[i]? = some n := by rfl) (hvi : Vis (X.suite a ((a, oe) :: pn)).env.scope n := by first | exact Or.inl rfl | exact Or.inr (Or.inl rfl) | exact Or.inr (Or.inr rfl)) (hdb : (n == ("__debug__" : Str)) = false := by decide) (hcd : (n == ("__classdict__" : Str)) = false := by decide)
    (hb : attributeBase (.Name n p1) f X.env (eval (.Name n p1) X.env) = eval (.Name n p1) X.env := by rfl) : PE (X.suite a ((a, oe) :: pn)) (.Attribute (.Name n p1) f pos) (tD X.K (G.at i a dd c fs) W (eXf cs c fs f)) := by
  by_cases hc : c ∈ cs
  · refine pe_weak (pe_xf (T c hc).1 (T c hc).2 hz hv (pe_var (i := i) hN hvi hdb hcd) hb) fun σ H Q ⟨S, ρ, re, h⟩ => ?_
    unfold eXf at h
    rw [if_pos hc] at h
    obtain ⟨z, hz', q⟩ := After.lift h
    obtain ⟨h1, h2⟩ := re.exn _ _ _ _ _ rfl
    rcases h2 with ⟨e, _⟩ | ⟨d, vfs, e, hd, hr⟩
    · subst e; cases hz'
    · obtain ⟨v, a1, a2⟩ := hr.look hz'
      exact ⟨_, h1, rfl, rfl, d, vfs, v, e, hd, a1, q v S H (.refl _ _) re.sub a2⟩
  · refine ⟨fun pins s σ H Q I ⟨S, ρ, re, h⟩ => ?_⟩
    unfold eXf at h
    rw [if_neg hc] at h
    exact h.elim
/-- isinstance(n, C) in the suite -/
theorem call_isE2 {X : Cx} {a D : Addr} {oe : Obj} {dd : Option Addr} {pn : List (Addr × Obj)} {cv : Addr} {b : Bool} (C : ExcC X.K D) (hz : Zc (.ref D) dd oe) (hf : ∃ vs, oe.data = .fields vs) (e : PySem.W.kitOne X.K (.ref D) (.ref cv) = some b) :
    CallR (X.suite a ((a, oe) :: pn)) (.builtin "isinstance") (fun xs H Q => xs = [.ref a, .ref cv] ∧ (dd = none ∨ ∃ d vfs, dd = some d ∧ H d = some (.xd vfs)) ∧ Q (.bl b) H) := by
  (intro pins s σ H xs us Q I r h)
  obtain ⟨rfl, hdd, q⟩ := h
  cases r with
  | cons rx rr =>
    cases rr with
    | cons rt rr =>
      cases rr
      cases rx
      cases rt
      (obtain ⟨hget, _⟩ := I.pin (a, oe) (List.mem_append.mpr (.inl List.mem_cons_self)))
      obtain ⟨vs, hv⟩ := hf
      have J : ∃ od, PySem.W.InstAt s.heap a oe D od := by
        (obtain ⟨oc, od, oda, osl⟩ := oe)
        obtain ⟨h1, h2⟩ := hz
        dsimp only at h1 h2 hv
        subst h1 h2 hv
        rcases hdd with rfl | ⟨d, vfs, rfl, hd⟩
        · exact ⟨none, hget, rfl, rfl, trivial⟩
        · have hx : ObjOk X.prog X.w H s.heap d (.xd vfs) := I.hok d _ hd
          obtain ⟨mA, hns, _⟩ := hx
          obtain ⟨o, _, _, ho, _⟩ := hns
          exact ⟨some o, hget, rfl, rfl, ho⟩
      obtain ⟨od, J⟩ := J
      have hcl : (PySem.W.clsIn X.K D).isSome = true := by
        obtain ⟨cd, hc, _⟩ := PySem.W.any_some C.hd
        rw [hc]; rfl
      exact PySem.W.kia_one (PySem.W.kitx_exc hcl C.hg C.hk C.hs C.ha C.hn C.ht C.hm) I.kIn J e (fun z => nomatch z) fun tk => ⟨.bl b, H, I.kept (t' := tk) fun _ _ z => z, rfl, q⟩
theorem de_xi {a : Addr} {oe : Obj} {dd : Option Addr} {pn : List (Addr × Obj)} {c : Nat} {fs : List (Str × D)} {p1 p2 p3 : Pos} {C : Str} {cE : Addr} {tab : Nat → Option Bool} {W : WX} (hz : Zc (.ref (G.cls c)) dd oe) (hv : ∃ vs, oe.data = .fields vs) (T : ∀ c b, tab c = some b → ExcC X.K (G.cls c) ∧ PySem.W.kitOne X.K (.ref (G.cls c)) (.ref cE) = some b)
    (hg : Gl X "isinstance") (hm : X.mg "isinstance" = none) (gC : Gl X C) (mC : X.mg C = some (.ref cE)) (hdC : (C == ("__debug__" : Str)) = false := by decide)
    (hN : (X.suite a ((a, oe) :: pn)).N[i]? = some n := by rfl) (hvi : Vis (X.suite a ((a, oe) :: pn)).env.scope n := by first | exact Or.inl rfl | exact Or.inr (Or.inl rfl) | exact Or.inr (Or.inr rfl)) (hdb : (n == ("__debug__" : Str)) = false := by decide) (hcd : (n == ("__classdict__" : Str)) = false := by decide)
    (hs1 : starEach [.Name n p1, .Name C p2] X.env = (false, eval (.Name n p1) X.env) :: starEach [.Name C p2] X.env := by rfl) (hs2 : starEach [.Name C p2] X.env = (false, eval (.Name C p2) X.env) :: starEach [] X.env := by rfl) (hpl : (backTo pos (starEach [.Name C p2] X.env)).any (·.1) = false := by rfl) :
    PE (X.suite a ((a, oe) :: pn)) (.Call (.Name "isinstance" p3) [.Name n p1, .Name C p2] [] pos) (tD X.K (G.at i a dd c fs) W (eXi tab c)) := by
  cases hb : tab c with
  | none =>
    refine ⟨fun pins s σ H Q I ⟨S, ρ, re, h⟩ => ?_⟩
    unfold eXi at h
    rw [hb] at h
    exact h.elim
  | some b =>
    obtain ⟨T1, T2⟩ := T c b hb
    refine pe_weak (pe_callB (X := X.suite a ((a, oe) :: pn)) (call_isE2 T1 hz hv T2) hg hm (by decide +kernel) (pa_cons (pe_var (i := i) hN hvi hdb hcd) (pa_cons (pe_glob (v := .ref cE) gC mC rfl hdC) pa_nil hs2) hs1) (by decide) (by decide) hs1 hpl) fun σ H Q ⟨S, ρ, re, h⟩ => ?_
    unfold eXi at h
    rw [hb] at h
    obtain ⟨h1, h2⟩ := re.exn _ _ _ _ _ rfl
    refine ⟨_, h1, rfl, ?_, h (.bl b) S H (.refl _ _) re.sub (.bl _)⟩
    rcases h2 with ⟨_, e⟩ | ⟨d, vfs, e, hd, _⟩
    · exact .inl e
    · exact .inr ⟨d, vfs, e, hd⟩
end
end L2.DL
/-! An exception that leaves from inside a list comprehension. -/
namespace L2.DL
open PySem PyProof.Rows PySem.Spec
section
variable {M : Model} {A : Around} {E : Value
      → Shared → Prop} {s : Shared} {env : Env}
/-- what is wanted of a block's end; fr: the frame that the block runs in -/
def postX (M : Model) (A : Around) (E : Value → Shared → Prop) (use : Option (Value → Sem Unit)) (Q : Value → Shared → Prop) (acc : Value) (C : Addr) (fr : Option Addr) : Result → Shared → Prop
  | .ok f, t => compPost M A E use Q acc C (.ok f) t
  | .error x, t => ∃ m, t.heap.Ns C m ∧ ∀ g, Heap.SameBut C t.heap g → ∀ ce : Env, ce.locals = C → ce.frame = fr → wpAny M A (PySem.passOn "comprehension.variables-let-go" x ce : Sem Value) (fun _ _ => False) E { t with heap := g }
theorem comp_free_x {e : Expr} {scope : Scope} {pos : Pos} {mk first : Sem Value} {c0 : Comprehension} {cs : List Comprehension} {cl : List (Str × Addr)} {use : Option (Value → Sem Unit)} {Q : Value → Shared → Prop}
    (h1 : clausesOf e = c0 :: cs) (h2 : ∀ x, foldedSetIterable c0.iter env x = pure x) (h3 : closureFor scope env = pure cl) (h4 : scope.kind = .function) (h5 : ∀ y ∈ scope.names, y.2 = .local → scope.names.lookup y.1 = some .local)
    (h : wpAny M A first (fun x t1 => wpAny M A (pyIter x) (fun it t2 => wpAny M A mk (fun acc t3 => wpAny M A (newFunctionEnv scope env.globals cl [] env.qual none .none (some env)) (fun ce t4 =>
        codeAny M A (.compStart e 0 it acc { ce with scope := relabel scope env }) (postX M A E use Q acc ce.locals ce.frame) t4) E t3) E t2) E t1) E s) :
    wpAny M A (comprehension e scope env pos mk false first use) Q E s := by
  unfold comprehension
  rw [h3, h1]
  refine wpAny_bind (wpAny_mono h (fun x t1 k1 => ?_) fun _ _ z => z)
  refine wpAny_bind (wpAny_standAt (wpAny_bind (wpAny_of_eq (h2 x) (wpAny_bind (wpAny_holding (wpAny_mono k1 (fun it t2 k2 => ?_) fun _ _ z => z))))))
  refine wpAny_standIf (wpAny_bind (wpAny_mono k2 (fun acc t3 k3 => wpAny_bind (wpAny_pure (wpAny_bind (wpAny_mono k3 (fun ce t4 k4 => ?_) fun _ _ z => z)))) fun _ _ z => z))
  dsimp only
  have loc1 : ∀ y ∈ (scope.names.filter fun y => (y.2 == .local || y.2 == .cell) && y.1 != (".0" : Str)).reverse, y.2 = .local →
      Env.kindOf { ce with scope := relabel scope env } y.1 = some .local := fun y hy hl => lookup_relabel_local (h5 y (List.mem_filter.mp (List.mem_reverse.mp hy)).1 hl)
  have loc2 : ∀ y ∈ (scope.names.filter fun y => (y.2 == .local || y.2 == .cell) && y.1 != (".0" : Str)).reverse.drop 1 ++ (scope.names.filter fun y => (y.2 == .local || y.2 == .cell) && y.1 != (".0" : Str)).reverse.take 1,
      y.2 = .local → Env.kindOf { ce with scope := relabel scope env } y.1 = some .local := fun y hy hl => by
    rcases List.mem_append.mp hy with q | q
    · exact loc1 y (List.mem_of_mem_drop q) hl
    · exact loc1 y (List.mem_of_mem_take q) hl
  refine wpAny_holding (wpAny_bind (wpAny_attempt (wpAny_holding (wpAny_run (codeAny_mono k4 fun r t5 hr => ?_)))))
  cases r with
  | ok f =>
    cases use with
    | none =>
      obtain ⟨m, hn, q⟩ := hr
      exact wpAny_bind (wpAny_holding (wpAny_comp_letGo (cenv := { ce with scope := relabel scope env }) h4 _ t5 m loc1 hn fun g _ _ sb => wpAny_pure (q g sb)))
    | some u =>
      refine wpAny_bind (wpAny_rule (wpAny_bind (wpAny_holding (wpAny_mono hr (fun _ t6 q => ?_) fun _ _ z => z))))
      obtain ⟨m, hn, q⟩ := q
      exact wpAny_bind (wpAny_comp_letGo (cenv := { ce with scope := relabel scope env }) h4 _ t6 m loc2 hn fun g _ _ sb => wpAny_pure (q g sb))
  | error x =>
    obtain ⟨m, hn, q⟩ := hr
    exact wpAny_bind (wpAny_holding (wpAny_comp_letGo (cenv := { ce with scope := relabel scope env }) h4 _ t5 m loc1 hn fun g _ _ sb => wpAny_mono (q g sb _ rfl rfl) (fun _ _ f => f.elim) fun _ _ y => y))
theorem note_frame_eq {e1 e2 : Env} (h : e1.frame = e2.frame) (u : Value) : noteFrame u e1 = noteFrame u e2 := by
  unfold noteFrame PySem.frameOf
  rw [h]
/-- an exception that is held goes on -/
theorem passOn_held {env : Env} {base : Heap} {l : List Env} {Z : Obj → Prop} {L a : Addr} {what : String} {Q : Value → Shared → Prop} (hf : env.frame = some L) (hh : HandSPX.HeldZ base l a Z L s.heap)
    (h : ∀ g, HandSPX.HeldZ base l a Z L g → s.heap.UpToSlots g → E (.ref a) { s with heap := g }) : wpAny M A (PySem.passOn what (.ref a) env : Sem Value) Q E s := by
  unfold PySem.passOn
  obtain ⟨oe, vs, T, oT, ts, he, hz, hd, h1, hnT, hTe, hT, hdT, h3⟩ := hh.2.2.2
  (refine wpAny_bind (wpAny_field he hd h1 ?_))
  dsimp only
  rw [if_neg (show ¬ ((Value.ref T == Value.none) = true) from by simp), hf]
  exact wpAny_bind (HandSPX.setFlight_onZ hh fun g hg up => wpAny_throw (h g hg up))
end
section
variable {X : Cx} {pins : List (Addr × Obj)} {σ τ : St} {H H1 H2 : Hp} {s s1 s2 : Shared} {W : WX} {ce : Env} {fp : List Addr} {C : Addr} {scope : Scope}
/-- what a call lets out within the block gets out of the comprehension -/
theorem out_of_block {E' : XK} {use : Option (Value → Sem Unit)} {Q : Value → Shared → Prop} {acc : Value} {R : Result → Shared → Prop}
    (hs : X.stack = X.env :: X.outer) (hf : X.env.frame = some X.env.locals) (tk : Takes X W) (I : Inv X pins σ H s)
    (hfp : ∀ b ∈ fp, FpOk X pins H b ∧ b < s.heap.objs.size) (hC : C = s.heap.objs.size) (hcl : ce.locals = C) (hcf : ce.frame = X.env.frame)
    (J : Inv (X.blk s H scope ce fp) [] τ H1 s1) (hW : ∀ cls d G, E' cls d G → W cls d σ G) {u : Value}
    (c : L2.CX X.prog X.w X.stack H1 s1 E' u s2)
    (hR : ∀ t, postX (model X.prog X.w) X.A X.xe use Q acc C X.env.frame (.error u) t → R (.error u) t) :
    notedBy (model X.prog X.w) X.A ce (fun e t => R (.error e) t) u s2 := by
  obtain ⟨a, B, cls, dd, hd⟩ : ∃ a B cls dd, u = .ref a ∧ HandSPX.FlyingZ B X.stack a (Zc cls dd) s2.heap ∧ (∃ H', HOk X.prog X.w H' B ∧ UB (frs X.stack) H1 H' s1.heap B s2.heap ∧ H' a = none ∧ E' cls dd H') ∧ s2.os = s1.os ∧ AllBare s2.gens := by
    obtain ⟨a, B, H', cls, dd, q1, q2, q3, q4, q5, q6, q7, q8⟩ := c
    exact ⟨a, B, cls, dd, q1, q2, ⟨H', q3, q4, q5, q8⟩, q6, q7⟩
  obtain ⟨rfl, fl, ⟨H', hok, ub, na, hE⟩, hos, hbare⟩ := hd
  have frm : X.A.frames = some (X.env :: X.outer) := by rw [I.ok.frames, hs]
  have fl' : HandSPX.FlyingZ B (X.env :: X.outer) a (Zc cls dd) s2.heap := by rw [← hs]; exact fl
  unfold notedBy
  rw [note_frame_eq hcf]
  refine HandSPX.looks_onZ Zc.steady frm hf fl' fun g1 hg1 up1 => hR _ ?_
  -- the block's own dict
  have nC : H1 C = none := by have z : H1 ce.locals = none := J.free; rw [hcl] at z; exact z
  have nfC : C ∉ frs X.stack := fun hm => by
    obtain ⟨_, o, ho, _⟩ := I.stack.mem hm
    rw [hC] at ho
    (exact absurd (Heap.lt_size ho) (Nat.lt_irrefl _))
  obtain ⟨m, hns, _⟩ := J.loc
  have hns : s1.heap.Ns C m := by have z : s1.heap.Ns ce.locals m := hns; rw [hcl] at z; exact z
  obtain ⟨oC, es, ep, hoC, restC⟩ := hns
  have hBC : B.get? C = some oC := ub.keep C oC hoC nC nfC
  refine ⟨m, ⟨oC, es, ep, hg1.1 C oC hBC, restC⟩, fun g2 sb ce2 hl2 hf2 => ?_⟩
  have hf2' : ce2.frame = some X.env.locals := by rw [hf2, hf]
  -- the ground without it
  obtain ⟨B2, b1, b2⟩ := restrict B fun b => decide (b ≠ C)
  have b1 : ∀ b, b ≠ C → B2.get? b = B.get? b := fun b hb => b1 b (by simpa using hb)
  have b2 : B2.get? C = none := b2 C (by simp)
  have bsub : ∀ b o, B2.get? b = some o → B.get? b = some o ∧ b ≠ C := fun b o e => by
    by_cases hb : b = C
    · rw [hb, b2] at e; cases e
    · rw [b1 b hb] at e; exact ⟨e, hb⟩
  have at2 : ∀ b, b ≠ C → g2.get? b = g1.get? b := fun b hb => sb.2 b hb
  have held : HandSPX.HeldZ B2 (X.env :: X.outer) a (Zc cls dd) X.env.locals g2 := by
    obtain ⟨k1, k2, k3, oe, vs, T, oT, ts, he, hz, hd, h1, hnT, hTe, hT, hdT, h3⟩ := hg1
    have aC : a ≠ C := fun z => by rw [z, hBC] at k2; cases k2
    have TC : T ≠ C := fun z => by rw [z, hBC] at hnT; cases hnT
    refine ⟨fun b o e => ?_, by rw [b1 a aC]; exact k2, ?_, oe, vs, T, oT, ts, by rw [at2 a aC]; exact he, hz, hd, h1, by rw [b1 T TC]; exact hnT, hTe, by rw [at2 T TC]; exact hT, hdT, h3⟩
    · obtain ⟨e', hb⟩ := bsub b o e
      rw [at2 b hb]
      exact k1 b o e'
    · have fB : ∀ L ∈ frs (X.env :: X.outer), B.get? L = none := fun L hL => (k3.mem hL).1
      have k3' : g1.FunFrames B2 (X.env :: X.outer) := funFrames_none k3 fun L hL => by
        by_cases hb : L = C
        · rw [hb]; exact b2
        · rw [b1 L hb]; exact fB L hL
      have onFr : ∀ (l : List Env), (∀ b ∈ frs l, b ≠ C) → g1.FunFrames B2 l → g2.FunFrames B2 l := by
        intro l
        induction l with
        | nil => intro _ _; trivial
        | cons e r ih =>
          intro hn hl
          obtain ⟨q1, ⟨L, o, q2, q3, q4, q5⟩, q6⟩ := hl
          have hL : L ∈ frs (e :: r) := List.mem_filterMap.mpr ⟨e, List.mem_cons_self, q2⟩
          refine ⟨q1, ⟨L, o, q2, q3, by rw [at2 L (hn L hL)]; exact q4, q5⟩, ih (fun b hb => hn b ?_) q6⟩
          obtain ⟨e', he', q⟩ := List.mem_filterMap.mp hb
          exact List.mem_filterMap.mpr ⟨e', List.mem_cons_of_mem _ he', q⟩
      exact onFr _ (fun b hb z => nfC (by rw [hs]; rw [← z]; exact hb)) k3'
  refine passOn_held hf2' held fun g3 hg3 up3 => tk _ _ ?_
  -- the state without the exception
  obtain ⟨G, c1, c2⟩ := restrict g3 fun b => (B2.get? b).isSome || decide (b ∈ frs X.stack)
  have gB : ∀ b o, B2.get? b = some o → G.get? b = some o := fun b o e => by
    rw [c1 b (by simp [e])]
    exact hg3.1 b o e
  have gF : ∀ b, b ∈ frs X.stack → G.get? b = g3.get? b := fun b hb => c1 b (by simp [hb])
  have og : ∀ b o, G.get? b = some o → g3.get? b = some o ∧ ((B2.get? b).isSome = true ∨ b ∈ frs X.stack) := fun b o e => by
    cases q : ((B2.get? b).isSome || decide (b ∈ frs X.stack)) with
    | false => rw [c2 b q] at e; cases e
    | true =>
      rw [c1 b q] at e
      (exact ⟨e, by simpa [Bool.or_eq_true] using q⟩)
  have jb := J.base
  have neC : ∀ b o, s.heap.get? b = some o → b ≠ C := fun b o e z => by
    rw [z, hC] at e
    exact absurd (Heap.lt_size e) (Nat.lt_irrefl _)
  have slotF : ∀ b o, s.heap.get? b = some o → H b = none → b ∈ frs X.stack → b ∉ fp → ∃ sl, G.get? b = some { o with slots := sl } := fun b o e n hb hx => by
    obtain ⟨sl1, e1⟩ := jb.slot b o e n hb hx
    obtain ⟨sl2, e2⟩ := ub.slot b _ e1 hb
    obtain ⟨_, o', e', hnf⟩ := I.stack.mem hb
    rw [e] at e'; cases e'
    obtain ⟨sl3, e3⟩ := up1 b _ e2 hnf
    rw [← at2 b (neC b o e)] at e3
    obtain ⟨sl4, e4⟩ := up3 b _ e3 hnf
    exact ⟨sl4, by rw [gF b hb]; exact e4⟩
  have fpn : ∀ b ∈ fp, b ∉ frs X.stack := fun b hb hm => by
    have q := J.ok.exfs b hb
    exact q hm
  have un : Un (frs X.stack) fp H H' s.heap G := by
    refine ⟨fun b o e n hb hx => ?_, fun b o e n hb hx => slotF b o e n hb hx, fun b o e n hx => ?_, fun b o e hx => ?_, fun b xs e => ub.tups b xs (jb.tups b xs e), fun b o xs e => ub.frzs b o xs (jb.frzs b o xs e), fun b ps e => ?_⟩
    · exact gB b o (by rw [b1 b (neC b o e)]; exact ub.keep b o (jb.keep b o e n hb hx) (jb.free b o e n hx) hb)
    · obtain ⟨o1, e1⟩ := jb.there b o e hx
      exact ub.free b o1 e1 (jb.free b o e n hx)
    · (by_cases hb : b ∈ frs X.stack)
      · obtain ⟨sl, q⟩ := slotF b o e (I.stkFree b hb) hb hx
        exact ⟨_, q⟩
      · obtain ⟨o1, e1⟩ := jb.there b o e hx
        obtain ⟨o2, e2⟩ := ub.there b o1 e1 hb
        exact ⟨o2, gB b o2 (by rw [b1 b (neC b o e)]; exact e2)⟩
    · obtain ⟨m1, e1⟩ := jb.tbls b ps e
      (obtain ⟨m2, e2⟩ := ub.tbls b _ e1)
      (exact ⟨m1 ++ m2, by rw [e2, Array.append_assoc]⟩)
  have hokG : HOk X.prog X.w H' G := fun b o q => (hok b o q).stay (fun c v hc r => gB c v (by
      have cC : c ≠ C := fun z => by
        subst z
        have z2 := ub.free c oC hoC nC
        rcases hc with hc | hc
        · rw [hc, q] at z2; cases z2
        · rw [hc] at z2; cases z2
      rw [b1 c cC]; exact r)) (fun _ r => r) fun _ _ r => r
  have I2 : Inv X pins σ H' { s2 with heap := G } := I.call' (s' := { s2 with heap := G }) (ch := fp) (hos.trans J.os) un hokG hbare fun b hb => ⟨(hfp b hb).1.2.2.2.1, (hfp b hb).1.2.1, (hfp b hb).1.2.2.2.2.1, (hfp b hb).1.2.2.2.2.2⟩
  refine ⟨a, B2, { s2 with heap := G }, pins, σ, H', cls, dd, rfl, I2, fun b o e hb => ?_, Heap.UpToSlots.of_keeps fun b o e => (og b o e).1, .inr (.inr (by rw [hs]; exact hg3)), na, rfl, hbare, hW _ _ _ hE⟩
  obtain ⟨e', h⟩ := og b o e
  rcases h with h | h
  · (obtain ⟨o', q⟩ := Option.isSome_iff_exists.mp h)
    have z := hg3.1 b o' q
    rw [e'] at z; cases z
    exact q
  · exact absurd h hb
end
/-- [elt for tg in iter], what elt raises goes on -/
def tLcX (W : WX) (wi : TI) (g : TG) (tt : TT) (te : XK → TE) (vs : List Nat) : TE := fun σ H Q => tLc wi g tt (te fun cls d H' => W cls d σ H') vs σ H Q
section
variable {X : Cx} {W : WX}
theorem lc_coreX {pins : List (Addr × Obj)} {s : Shared} {σ : St} {H : Hp} {Q : VK} {use : Option (Value → Sem Unit)} {Qf : Value → Shared → Prop} {pos' : Pos} {elt tg iter : Expr} {ifs : List Expr} {scope : Scope} {own : List (Str × Nat)} {pos : Pos} {wi : TI} {g : TG} {tt : TT} {te : XK → TE}
    (hs : X.stack = X.env :: X.outer) (hf : X.env.frame = some X.env.locals) (tk : Takes X W) (hc : X.calm = true) (hN : X.N.Nodup) (hi : PI X tg iter wi) (ok : BlkOk X.N X.env.scope scope own)
    (hg : ∀ (s : Shared) (H : Hp) (C : Addr) (cl : List (Str × Addr)) (fp : List Addr), PG (X.blk s H scope (compEnvC scope cl C X.env) fp) tg g)
    (ht : ∀ (s : Shared) (H : Hp) (C : Addr) (cl : List (Str × Addr)) (fp : List Addr), PTs (X.blk s H scope (compEnvC scope cl C X.env) fp) ifs tt)
    (he : ∀ (s : Shared) (H : Hp) (C : Addr) (cl : List (Str × Addr)) (fp : List Addr) (xe : Value → Shared → Prop) (E' : XK), (∀ τ, PassesAt (L2.CX X.prog X.w) ((X.blk s H scope (compEnvC scope cl C X.env) fp).wish xe) τ E') →
      PE ((X.blk s H scope (compEnvC scope cl C X.env) fp).wish xe) elt (te E'))
    (hfold : ∀ x, foldedSetIterable iter X.env x = pure x) (I : Inv X pins σ H s) (h : tLc wi g tt (te fun cls d H' => W cls d σ H') (own.map (·.2)) σ H Q)
    (hEnd : ∀ D C t m H', Inv X pins σ H' t → Q (.ref D) H' → t.heap.Ns C m → FpOk X pins H' C → compPost (model X.prog X.w) X.A X.xe use Qf (.ref D) C (.ok .next) t) :
    wpAny (model X.prog X.w) X.A (comprehension (.ListComp elt [⟨tg, iter, ifs, 0⟩]
          scope pos) scope X.env pos' (newList []) false (eval iter X.env) use) Qf X.xe s := by
  have cells : ∀ y ∈ scope.names, y.2 = .free → ∃ c, X.env.cells.lookup y.1 = some c := fun y hy e => (ok.free y hy e).elim (fun k => I.ok.has _ (.inl k)) fun k => I.ok.has _ (.inr k)
  refine comp_free_x rfl hfold (closure_ok cells) ok.kind (fun y hy e => by rw [ok.uniq y hy, e]) (thn (hi.run pins s σ H _ I h) fun xv sa1 hx => thn hx fun itv sa2 h2 => ?_)
  obtain ⟨it, fp, tn, J, hp2, e, iv2, T, kp2, fr2, q⟩ := h2
  subst e
  (refine wpAny_newObj_type (newEnv_comp ?_) (by show 0 ≤ sizeLine; decide))
  generalize hD : sa2.heap.objs.size = D
  have hDn : hp2 D = none := iv2.hok.fresh (Nat.le_of_eq hD)
  obtain ⟨Wi, ⟨m0, w0⟩, turn⟩ := q D hDn
  generalize es3 : ({ sa2 with heap := sa2.heap.push { cls := .type "list", data := .seq ([] : List Value).toArray } } : Shared) = sa3
  have h3 : sa3.heap = sa2.heap.push { cls := .type "list", data := .seq ([] : List Value).toArray } := by rw [← es3]
  have iv3 : Inv X pins σ (upd hp2 D (.lst [])) sa3 := by
    subst es3
    refine iv2.laid (t' := sa2.toks) (fun b o e => Heap.get?_push_of_some _ e) (Nat.le_of_eq hD) ⟨Nat.zero_le _, [], 0, .nil, ?_⟩
    subst hD
    (exact Heap.get?_push_size _ rfl)
  have old : ∀ b ∈ fp, b < sa2.heap.objs.size := fun b hb => let ⟨o, e, _⟩ := T.obj _ _ kp2 b hb; Heap.lt_size e
  have fr3 : ∀ b ∈ fp, FpOk X pins (upd hp2 D (.lst [])) b ∧ b < sa3.heap.objs.size := fun b hb => by
    have lt := old b hb
    refine ⟨⟨?_, (fr2 b hb).2⟩, by rw [h3, Heap.size_push]; exact Nat.lt_succ_of_lt lt⟩
    rw [upd_ne (hD ▸ Nat.ne_of_lt lt)]
    exact (fr2 b hb).1
  have kp3 : tn 0 sa3.heap := T.keep _ _ _ kp2 fun b _ o e => by rw [h3]; exact Heap.get?_push_of_some _ e
  have iv4 := block_start iv3 ok hN fr3
  have qg := hg sa3 (upd hp2 D (.lst [])) sa3.heap.objs.size (cellsFrom (sa3.heap.objs.size + 1) scope.names (cloFrom X.env.cells scope.names [])) fp
  have qt := ht sa3 (upd hp2 D (.lst [])) sa3.heap.objs.size (cellsFrom (sa3.heap.objs.size + 1) scope.names (cloFrom X.env.cells scope.names [])) fp
  have qe := he sa3 (upd hp2 D (.lst [])) sa3.heap.objs.size (cellsFrom (sa3.heap.objs.size + 1) scope.names (cloFrom X.env.cells scope.names [])) fp
  show codeAny _ _ (.compStart _ 0 (.ref it) (.ref D) (compEnvC scope (cellsFrom (sa3.heap.objs.size + 1) scope.names (cloFrom X.env.cells scope.names [])) sa3.heap.objs.size X.env))
    (postX (model X.prog X.w) X.A X.xe use Qf (.ref D) sa3.heap.objs.size X.env.frame) { sa3 with heap := pushCells (sa3.heap.push { cls := .type "dict", data := .dict #[] }) scope.names }
  have nfp : ∀ b ∈ fp, (upd hp2 D (.lst [])) b = none := fun b hb => (fr3 b hb).1.1
  generalize hce : compEnvC scope (cellsFrom (sa3.heap.objs.size + 1) scope.names (cloFrom X.env.cells scope.names [])) sa3.heap.objs.size X.env = cenv at iv4 qg qt qe ⊢
  have cL : cenv.locals = sa3.heap.objs.size := by subst hce; rfl
  have cF : cenv.frame = X.env.frame := by subst hce; rfl
  generalize hH3 : upd hp2 D (.lst []) = hp3 at iv3 iv4 qg qt qe w0 nfp fr3
  generalize hs4 : ({ sa3 with heap := pushCells (sa3.heap.push { cls := .type "dict", data := .dict #[] }) scope.names } : Shared) = sa4 at iv4 ⊢
  have kp4 : tn 0 sa4.heap := T.keep _ _ _ kp3 fun b _ o e => by rw [← hs4]; exact pushCells_keeps _ _ _ _ (Heap.get?_push_of_some _ e)
  have stat : ∀ {τ : St} {H' : Hp} {t : Shared}, Inv (X.blk sa3 hp3 scope cenv fp) [] τ H' t → (∀ b ∈ fp, H' b = none) → ∀ b ∈ fp, FpOk (X.blk sa3 hp3 scope cenv fp) [] H' b := fun {τ H' t} I' hn b hb =>
    ⟨hn b hb, (I'.ok.exf b hb).1, I'.ok.exfs b hb, .inl hb, fun x c e => (I'.ok.exf b hb).2
          x c e, fun p hp => absurd (show p ∈ ([] : List (Addr × Obj)) ++ [] from hp) (by simp)⟩
  have back : ∀ {τ : St} {H' : Hp} {t : Shared}, Inv (X.blk sa3 hp3 scope cenv fp) [] τ H' t → Inv X pins σ H' t := fun {τ H' t} I' =>
    iv3.call' (ch := fp) I'.os I'.base I'.hok I'.bare fun b hb => ⟨(fr3 b hb).1.2.2.2.1, (fr3 b hb).1.2.1, (fr3 b hb).1.2.2.2.2.1, (fr3 b hb).1.2.2.2.2.2⟩
  have loop : codeAny (model X.prog X.w) X.A (.compLoop (.ListComp elt [⟨tg, iter, ifs, 0⟩] scope pos) 0 (.ref it) (.ref D) cenv) (postX (model X.prog X.w) X.A X.xe use Qf (.ref D) sa3.heap.objs.size X.env.frame) sa4 := by
    refine compLoop_any (fun n t => ∃ i H', Inv (X.blk sa3 hp3 scope cenv fp) [] (wipe σ (own.map (·.2))) H' t ∧ tn i t.heap ∧ (∀ b ∈ fp, H' b = none) ∧ Wi i n H') ?_ m0 ⟨0, hp3, iv4, kp4, nfp, w0⟩
    rintro n sa5 ⟨i, hp5, iv5, kp5, n5, w5⟩
    rcases turn i n hp5 w5 with ⟨stop, qq⟩ | ⟨go, Nx, hNx, step⟩
    · have td := T.done (X.blk sa3 hp3 scope cenv fp) rfl rfl rfl hc i [] sa5 _ hp5 (fun _ _ => False) iv5 (stat iv5 n5) kp5 stop
      refine thnF td fun r sa6 ⟨hr, iv6⟩ => ?_
      subst hr
      have nC : hp5 sa3.heap.objs.size = none := by have z : hp5 cenv.locals = none := iv6.free; rw [cL] at z; exact z
      obtain ⟨m, hn, _⟩ := iv6.loc
      have hn : sa6.heap.Ns sa3.heap.objs.size m := by have z : sa6.heap.Ns cenv.locals m := hn; rw [cL] at z; exact z
      exact hEnd D sa3.heap.objs.size sa6 m hp5 (back iv6) qq hn (iv3.fpOk (H' := hp5) (Nat.le_refl _) nC)
    · have ti := T.item (X.blk sa3 hp3 scope cenv fp) rfl rfl rfl hc i [] sa5 _ hp5 (fun _ _ => False) iv5 (stat iv5 n5) kp5 go
      refine thnF ti fun r sa6 ⟨u, hr, h6⟩ => ?_
      subst hr
      refine thnF h6 fun _ sa7 ⟨x, hp7, iv7, r7, y7, kp7, n7⟩ => ?_
      have iv7' := iv7.pinned (stat iv7 n7) (T.obj _ _ kp7)
      refine thnF (qg.run _ sa7 _ hp7 x u _ iv7' r7 (step x hp7 y7)) fun _ sa8 ⟨σ8, H8, iv8, hw8, q8⟩ => ?_
      refine thnF (qt.run _ sa8 σ8 H8 _ iv8 q8) fun b sa9 ⟨H9, I9, q9⟩ => ?_
      have again : ∀ {t : Shared} {H' : Hp}, Inv (X.blk sa3 hp3 scope cenv fp) ([] ++ pinsAt fp sa7.heap) σ8 H' t → Nx H' → ∃ m, m < n ∧ ∃ i H', Inv (X.blk sa3 hp3 scope cenv fp) [] (wipe σ (own.map (·.2))) H' t ∧ tn i t.heap ∧ (∀ b ∈ fp, H' b = none) ∧ Wi i m H' := fun {t H'} I' nx => by
        (obtain ⟨m', hm, w'⟩ := hNx H' nx)
        have pinned : ∀ b ∈ fp, ∀ o, sa7.heap.get? b = some o → t.heap.get? b = some o ∧ H' b = none := fun b hb o e =>
          let z := I'.pin (b, o) (List.mem_append_right
                _ (List.mem_append_right _ (mem_pinsAt hb e)))
          ⟨z.1, z.2.1⟩
        have hl : (wipe σ (own.map (·.2))).length
              = σ8.length := by rw [← hw8, wipe_length]
        refine ⟨m', hm, i + 1, H', (I'.unpinned (pins := [])).weak hl (fun j v e => ?_), T.keep _ _ _ kp7 fun b hb o e => (pinned b hb o e).1, fun b hb => ?_, w'⟩
        · rw [← hw8] at e
          exact (wipe_some e).1
        · obtain ⟨o, e, _⟩ := T.obj _ _ kp7 b hb
          exact (pinned b hb o e).2
      cases b with
      | false =>
        (simp only [Bool.false_eq_true, if_false] at q9 ⊢)
        exact again I9 q9
      | true =>
        simp only [if_true] at q9 ⊢
        have qe' := qe (notedBy (model X.prog X.w) X.A cenv fun e t => postX (model X.prog X.w) X.A X.xe use Qf (.ref D) sa3.heap.objs.size X.env.frame (.error e) t) (fun cls d H' => W cls d σ H')
          (fun τ pins' H' t u t' It c => out_of_block (scope := scope) (pins := pins) (σ := σ) (s := sa3) (H := hp3) (fp := fp) (C := sa3.heap.objs.size) hs hf tk iv3 fr3 rfl cL cF ((Inv.unwish It).pins_of (pins' := []) (by
            intro p hp
            exact absurd (show p ∈ ([] : List (Addr × Obj)) from hp) (by simp))) (fun _ _ _ z => z) c fun t z => z)
        refine thn (qe'.run _ sa9 σ8 H9 _ (I9.wish _) q9) fun z s10 ⟨yv, H10, I10, r10, acc, hD10, hz10, nx⟩ => ?_
        exact app_ok (X := X.blk sa3 hp3 scope cenv fp) (Inv.unwish I10) hD10 hz10 r10 fun s11 I11 => again I11 nx
  exact codeAny_compStart_list loop (T.self X.A 0 _ _ _ kp4 loop)
theorem pe_lcX {elt tg iter : Expr} {ifs : List Expr} {scope : Scope} {own : List (Str × Nat)} {pos : Pos} {wi : TI} {g : TG} {tt : TT} {te : XK → TE}
    (hs : X.stack = X.env :: X.outer) (hf : X.env.frame = some X.env.locals) (tk : Takes X W) (hc : X.calm = true) (hN : X.N.Nodup) (hi : PI X tg iter wi) (ok : BlkOk X.N X.env.scope scope own)
    (hg : ∀ (s : Shared) (H : Hp) (C : Addr) (cl : List (Str × Addr)) (fp : List Addr), PG (X.blk s H scope (compEnvC scope cl C X.env) fp) tg g)
    (ht : ∀ (s : Shared) (H : Hp) (C : Addr) (cl : List (Str × Addr)) (fp : List Addr), PTs (X.blk s H scope (compEnvC scope cl C X.env) fp) ifs tt)
    (he : ∀ (s : Shared) (H : Hp) (C : Addr) (cl : List (Str × Addr)) (fp : List Addr) (xe : Value → Shared → Prop) (E' : XK), (∀ τ, PassesAt (L2.CX X.prog X.w) ((X.blk s H scope (compEnvC scope cl C X.env) fp).wish xe) τ E') →
      PE ((X.blk s H scope (compEnvC scope cl C X.env) fp).wish xe) elt (te E'))
    (hfold : ∀ x, foldedSetIterable iter X.env x = pure x := by intro _; rfl) :
    PE X (.ListComp elt [⟨tg, iter, ifs, 0⟩] scope pos) (tLcX W wi g tt te (own.map (·.2))) := by
  (refine ⟨fun pins s σ H Q I h => ?_⟩)
  rw [eval_ListComp]
  refine lc_coreX hs hf tk hc hN hi ok hg ht he hfold I h fun D C t m H' I' q hn f => ⟨m, hn, fun g sb => ⟨.ref D, H', ?_, rfl, q⟩⟩
  exact I'.turned (t' := t.toks) (it := C) (fun b o hb e => by rw [sb.2 b hb]; exact e) f.1 f.2.1 f.2.2.2.1 f.2.2.2.2.1 f.2.2.2.2.2
theorem ps_setLcX {i : Nat} {y : Str} {py : Pos} {elt tg iter : Expr} {ifs : List Expr} {scope : Scope} {own : List (Str × Nat)} {pos spos : Pos} {wi : TI} {g : TG} {tt : TT} {te : XK → TE}
    (hs : X.stack = X.env :: X.outer) (hf : X.env.frame = some X.env.locals) (tk : Takes X W) (hc : X.calm = true) (hN : X.N.Nodup) (hy : X.N[i]? = some y) (hyl : X.env.scope.names.lookup y = some .local)
    (hsw : swapsWith (.ListComp elt [⟨tg, iter, ifs, 0⟩] scope pos) (some (.Name y py))
          spos.line X.env = pure true) (hi : PI X tg iter wi) (ok : BlkOk X.N X.env.scope scope own)
    (hg : ∀ (s : Shared) (H : Hp) (C : Addr) (cl : List (Str × Addr)) (fp : List Addr), PG (X.blk s H scope (compEnvC scope cl C X.env) fp) tg g)
    (ht : ∀ (s : Shared) (H : Hp) (C : Addr) (cl : List (Str × Addr)) (fp : List Addr), PTs (X.blk s H scope (compEnvC scope cl C X.env) fp) ifs tt)
    (he : ∀ (s : Shared) (H : Hp) (C : Addr) (cl : List (Str × Addr)) (fp : List Addr) (xe : Value → Shared → Prop) (E' : XK), (∀ τ, PassesAt (L2.CX X.prog X.w) ((X.blk s H scope (compEnvC scope cl C X.env) fp).wish xe) τ E') →
      PE ((X.blk s H scope (compEnvC scope cl C X.env) fp).wish xe) elt (te E'))
    (hfold : ∀ x, foldedSetIterable iter X.env x = pure x := by intro _; rfl) :
    PS X (.Assign [.Name y py] (.ListComp elt [⟨tg, iter, ifs, 0⟩] scope pos) spos) (tAsg (tLcX W wi g tt te (own.map (·.2))) (gName i)) := by
  refine ⟨fun pins s σ H De I h => ?_⟩
  (rw [exec_Assign_Name_used _ _ _ _ hsw])
  (refine wpAny_bind (wpAny_standAt (wpAny_bind ?_)))
  refine wpAny_bind (thn (lc_coreX (Qf := fun _ t => SP X pins De .next t) (Q := fun x H1 => gName i x σ H1 De.nx) hs hf tk hc hN hi ok hg ht he hfold I h fun L C t m H' I' q hn f => ?_) fun _ t hq => wpAny_pure (wpAny_pure hq))
  show wpAny _ _ (assign (.Name
        y py) X.env (.ref L)) _ _ _
  refine wpAny_assign_Name (store_ok2 (v := V.ref L) I' hN hy (.inl hyl) rfl (fun t2 iv2 ⟨a, sb, ha⟩ => ?_) (.inr hyl))
  have far : C ≠ a := ha.elim (fun z => by rw [z]; exact f.2.1) fun z e => f.2.2.2.2.1 y a z e.symm
  exact ⟨m, hn.sameBut sb far, fun g3 sb3 => ⟨_, H', iv2.turned (t' := t2.toks) (fun b o hb e => by rw [sb3.2 b hb]; exact e) f.1 f.2.1 f.2.2.2.1 f.2.2.2.2.1 f.2.2.2.2.2, q⟩⟩
end
/-- a list comprehension whose element may raise; the target and the tests don't -/
def compLX (g : MG) (te : ME) (ρ : List Sl) : List D → Res (List D)
  | [] => .ok []
  | d :: ds => (lift (g d ρ)).bind fun ρ1 => (te ρ1).bind fun x => (compLX g te ρ ds).bind fun r => .ok (x :: r)
def eLcX (src : MI) (vs : List Nat) (g : MG) (te : ME) : ME := fun ρ => (src ρ).bind fun ds => if ds.length ≤ sizeLine then (compLX g te (wipeD ρ vs) ds).bind fun r => .ok (.lst r) else .stuck
section
variable {X : Cx} {G : GC} {W : WX}
theorem t_lcX (hG : G.ex = none) {K : PySem.W.Frag} {src : MI} {vs : List Nat} {g : MG} {te : ME} {σ : St} {H : Hp} {Q : VK} (h : tD K G W (eLcX src vs g te) σ H Q) :
    tLcX W (tDI K G W src) (tDG K G vs g) (tDT K G W0 cYes) (fun E' => tD K G (fun c d _ H => E' c d H) te) vs σ H Q := by
  obtain ⟨S, ρ, re, h⟩ := h
  refine ⟨S, ρ, re, After.bind h fun ds h J S1 H1 e1 s1 wk Dd hD => ?_⟩
  have re1 := re.grow e1 s1
  by_cases hlen : ds.length ≤ sizeLine
  case neg => rw [if_neg hlen] at h; exact h.elim
  rw [if_pos hlen] at h
  have hS1 : S1 Dd = none := s1.free hD
  -- what is left of the walk, behind what is made so far
  refine ⟨fun i m Hc => ∃ S2 av ad, Ext S1 H1 S2 Hc ∧ Same S2 Hc ∧ S2 Dd = none ∧ Hc Dd = some (.lst av) ∧ Reps (G.R K) S2 av ad ∧ ad.length ≤ i ∧ i ≤ ds.length ∧ m = ds.length - i ∧
      After K G W S H σ ((compLX g te (wipeD ρ vs) (ds.drop i)).bind fun r => .ok (.lst (ad ++ r))) (fun d => ∀ v S' H', Ext S H S' H' → Same S' H' → Rep (G.R K) S' v d → Q v H'), ?_, ?_⟩
  · refine ⟨_, S1, [], [], ⟨fun _ _ e => e, fun q u e => by rw [upd_ne (ne_of_none e hD)]; exact e, fun q u e n => by rw [n] at e; cases e⟩, fun q u e => ?_, hS1, upd_same, .nil, Nat.zero_le _, Nat.zero_le _, rfl, by rw [List.drop_zero]; exact h⟩
    rw [upd_ne (ne_of_none e hS1)]
    exact s1 _ _ e
  · rintro i m Hc ⟨S2, av, ad, e2, s2, hS2, hc, ra, hal, hi, hm, hr⟩
    have re2 := re1.grow e2 s2
    by_cases hlt : i < ds.length
    · have hd' : ds.drop i = ds[i] :: ds.drop (i + 1) := List.drop_eq_getElem_cons hlt
      rw [hd'] at hr
      refine .inr ⟨wk.go i S2 Hc hlt e2.s s2, fun Hc => ∃ S2 av ad, Ext S1 H1 S2 Hc ∧ Same S2 Hc ∧ S2 Dd = none ∧ Hc Dd = some (.lst av) ∧ Reps (G.R K) S2 av ad ∧ ad.length ≤ i + 1 ∧
          After K G W S H σ ((compLX g te (wipeD ρ vs) (ds.drop (i + 1))).bind fun r => .ok (.lst (ad ++ r))) (fun d => ∀ v S' H', Ext S H S' H' → Same S' H' → Rep (G.R K) S' v d → Q v H'),
        fun H' ⟨S2, av, ad, a1, a2, a3, a4, a5, a6, a7⟩ => ⟨_, by omega, S2, av, ad, a1, a2, a3, a4, a5, a6, hlt, rfl, a7⟩, fun x H' y => ?_⟩
      obtain ⟨S3, d, e3, s3, hd, r3⟩ := wk.yld i S2 Hc x H' hlt e2.s s2 y
      rw [List.getElem?_eq_getElem hlt] at hd
      have hd := Option.some.inj hd
      rw [hd] at hr
      simp only [compLX] at hr
      cases q1 : g d (wipeD ρ vs) with
      | none => rw [q1] at hr; exact hr.elim
      | some ρ1 =>
        rw [q1] at hr
        have re3 := re2.grow e3 s3
        refine ⟨S3, wipeD ρ vs, d, ρ1, RE.wipe hG re3 vs, r3, q1, fun σ4 re4 w4 => ⟨w4.trans (wipe_wipe σ vs), S3, ρ1, re4, fun S5 H5 e5 s5 => ?_⟩⟩
        dsimp only
        rw [if_pos rfl]
        have re5 := re4.grow e5 s5
        have e25 : Ext S2 Hc S5 H5 := e3.trans e5
        have eAll : Ext S H S5 H5 := (e1.trans e2).trans e25
        refine ⟨S5, ρ1, re5, ?_⟩
        simp only [lift, Res.bind] at hr
        cases q3 : te ρ1 with
        | stuck => rw [q3] at hr; exact hr.elim
        | ex c fs =>
          rw [q3] at hr
          exact fun dd S6 H6 e6 s6 x6 => hr dd S6 H6 (eAll.trans e6) s6 x6
        | ok y =>
          rw [q3] at hr
          intro v S6 H6 e6 s6 r6
          have e26 : Ext S2 Hc S6 H6 := e25.trans e6
          have hS6 : S6 Dd = none := by
            cases z : S6 Dd with
            | none => rfl
            | some o => have := e26.new Dd o z hS2; rw [hc] at this; cases this
          have hc6 := e26.h _ _ hc
          refine ⟨av, hc6, by rw [ra.length]; omega, S6, av ++ [v], ad ++ [y], ?_, ?_, hS6, upd_same, (ra.mono e26.s).append (.cons r6 .nil), by simp; omega, ?_⟩
          · have e16 := e2.trans e26
            exact ⟨e16.s, fun q u e => by rw [upd_ne (ne_of_none e hD)]; exact e16.h _ _ e, e16.new⟩
          · intro q u e
            rw [upd_ne (ne_of_none e hS6)]
            exact s6 _ _ e
          · cases q4 : compLX g te (wipeD ρ vs) (ds.drop (i + 1)) with
            | stuck => rw [q4] at hr; exact hr.elim
            | ex c fs => rw [q4] at hr; exact hr
            | ok r =>
              rw [q4] at hr
              show ∀ v S' H', _
              rw [List.append_assoc]
              exact hr
    · have e : i = ds.length := by omega
      subst e
      refine .inl ⟨wk.stop S2 Hc e2.s s2, ?_⟩
      rw [List.drop_length] at hr
      have q : ∀ v S' H', Ext S H S' H' → Same S' H' → Rep (G.R K) S' v (.lst (ad ++ [])) → Q v H' := hr
      rw [List.append_nil] at q
      have sS : Same S2 (upd S2 Dd (.lst av)) := fun q u e => by rw [upd_ne (ne_of_none e hS2)]; exact e
      refine q (.ref Dd) (upd S2 Dd (.lst av)) Hc (e1.trans ⟨e2.s.trans sS, e2.h, fun q u e n => ?_⟩) (fun q u e => ?_) (.lst upd_same (ra.mono sS))
      · by_cases hq : q = Dd
        · rw [hq]; exact hD
        · rw [upd_ne hq] at e; exact e2.new q u e n
      · by_cases hq : q = Dd
        · subst hq; rw [upd_same] at e; cases e; exact hc
        · rw [upd_ne hq] at e; exact s2 _ _ e
theorem de_lcX {src : MI} {g : MG} {te : ME} {elt tg iter : Expr} {scope : Scope} {own : List (Str × Nat)} {pos : Pos} (hs : X.stack = X.env :: X.outer) (hf : X.env.frame = some X.env.locals) (tk : Takes X W) (hc : X.calm = true) (hN : X.N.Nodup) (hi : DI X G W tg iter src) (ok : BlkOk X.N X.env.scope scope own)
    (hg : ∀ (s : Shared) (H : Hp) (C : Addr) (cl : List (Str × Addr)) (fp : List Addr), PG (X.blk s H scope (compEnvC scope cl C X.env) fp) tg (tDG X.K G (own.map (·.2)) g))
    (he : ∀ (s : Shared) (H : Hp) (C : Addr) (cl : List (Str × Addr)) (fp : List Addr) (xe : Value → Shared → Prop) (E' : XK), (∀ τ, PassesAt (L2.CX X.prog X.w) ((X.blk s H scope (compEnvC scope cl C X.env) fp).wish xe) τ E') →
      PE ((X.blk s H scope (compEnvC scope cl C X.env) fp).wish xe) elt (tD X.K G (fun c d _ H => E' c d H) te))
    (hfold : ∀ x, foldedSetIterable iter X.env x = pure x := by intro _; rfl) (hG : G.ex = none := by rfl) :
    DE X G W (.ListComp elt [⟨tg, iter, [], 0⟩] scope pos) (eLcX src (own.map (·.2)) g te) :=
  pe_weak (pe_lcX hs hf tk hc hN hi ok hg (fun _ _ _ _ _ => dts_nil) he hfold) fun _ _ _ => t_lcX hG
theorem ds_setLcX {i : Nat} {y : Str} {py : Pos} {src : MI} {g : MG} {te : ME} {elt tg iter : Expr} {scope : Scope} {own : List (Str × Nat)} {pos spos : Pos} (hs : X.stack = X.env :: X.outer) (hf : X.env.frame = some X.env.locals) (tk : Takes X W) (hc : X.calm = true) (hN : X.N.Nodup)
    (hy : X.N[i]? = some y) (hyl : X.env.scope.names.lookup y = some .local) (hsw : swapsWith (.ListComp elt [⟨tg, iter, [], 0⟩] scope pos) (some (.Name y py)) spos.line X.env = pure true) (hi : DI X G W tg iter src) (ok : BlkOk X.N X.env.scope scope own)
    (hg : ∀ (s : Shared) (H : Hp) (C : Addr) (cl : List (Str × Addr)) (fp : List Addr), PG (X.blk s H scope (compEnvC scope cl C X.env) fp) tg (tDG X.K G (own.map (·.2)) g))
    (he : ∀ (s : Shared) (H : Hp) (C : Addr) (cl : List (Str × Addr)) (fp : List Addr) (xe : Value → Shared → Prop) (E' : XK), (∀ τ, PassesAt (L2.CX X.prog X.w) ((X.blk s H scope (compEnvC scope cl C X.env) fp).wish xe) τ E') →
      PE ((X.blk s H scope (compEnvC scope cl C X.env) fp).wish xe) elt (tD X.K G (fun c d _ H => E' c d H) te))
    (hfold : ∀ x, foldedSetIterable iter X.env x = pure x := by intro _; rfl) (hG : G.ex = none := by rfl) :
    DS X G W (.Assign [.Name y py] (.ListComp elt [⟨tg, iter, [], 0⟩] scope pos) spos) (sAsg (eLcX src (own.map (·.2)) g te) (gN i)) :=
  ps_weak (ps_setLcX hs hf tk hc hN hy hyl hsw hi ok hg (fun _ _ _ _ _ => dts_nil) he hfold) fun De σ H ⟨S, ρ, re, h⟩ =>
    t_lcX hG (W := W) (Q := fun x H1 => gName i x σ H1 De.nx) ⟨S, ρ, re, AfterS.toE h re fun d h v S1 H1 e1 s1 r1 => h _ S1 H1 e1.s (RE.set hG (re.grow e1 s1) i r1)⟩
/-- a call within such an element -/
theorem de_callB {E' : XK} {m : List D → Res D} {e : Expr} {es : List Expr} {mas : MA} {x : Str} {k : Nat} {p pos : Pos} (C : Cal X.prog X.w X.K X.mg X.base G.cls k x m) (hr : Room k X.A) (hg : Gl X x) (pa : ∀ τ, PassesAt (L2.CX X.prog X.w) X τ E') (ha : DA X G (fun c d _ H => E' c d H) (e :: es) mas)
    (hdb : (x == ("__debug__" : Str)) = false := by decide) (he : starEach (e :: es) X.env = (false, eval e
          X.env) :: starEach es X.env := by rfl) (hpl : (backTo pos (starEach es X.env)).any (·.1) = false := by rfl) :
    DE X G (fun c d _ H => E' c d H) (.Call (.Name x p) (e :: es) [] pos) (eCall m mas) := by
  obtain ⟨f, fd, ps, F, hm⟩ := C
  refine pe_weak (pe_callS F.ok hr hg hm F.kp F.bind (E := fun _ => E') pa ha hdb he hpl) fun σ H Q ⟨S, ρ, re, h⟩ => ?_
  refine ⟨S, ρ, re, After.bind h fun xs h vs S1 H1 e1 s1 r1 => ?_⟩
  refine ⟨S1, xs, s1, r1, ?_⟩
  cases q : m xs with
  | stuck => rw [q] at h; exact h.elim
  | ex c fs => rw [q] at h; exact fun dd S2 H2 e2 s2 x => h dd S2 H2 (e1.trans e2) s2 x
  | ok d => rw [q] at h; exact fun v S2 H2 e2 s2 r2 => h v S2 H2 (e1.trans e2) s2 r2
end
end L2.DL
/-! objects -/
namespace L2.DL
open PySem PyProof.Rows PySem.Spec
/-- the field f of an object; tab: the (class, field) pairs that the text may ask -/
def oFld (tab : List (Nat × Str)) (f : Str) : D → Option D
  | .obj c fs => if (c, f) ∈ tab then fs.lookup f else none
  | _ => none
def eFld (tab : List (Nat × Str)) (f : Str) (a : ME) : ME := fun ρ => (a ρ).bind fun d => lift (oFld tab f d)
def eFldB (tab : List (Nat × Str)) (f : Str) (i : Nat) : ME := fun ρ => match ρ[i]? with
  | some (.bo c fs) => if (c, f) ∈ tab then lift (fs.lookup f) else .stuck
  | _ => .stuck
def putD (f : Str) (v : D) : List (Str × D) → List (Str × D)
  | [] => [(f, v)]
  | (g, x) :: r => if g = f then (g, v) :: r else (g, x) :: putD f v r
def sSetF (tab : List (Nat × Str)) (i : Nat) (f : Str) (e : ME) : MS := fun ρ => match ρ[i]? with
  | some (.bo c fs) => (e ρ).bind fun v => if (c, f) ∈ tab ∧ fs.length < 1000 then .ok (.nx (ρ.set i (.bo c (putD f v fs)))) else .stuck
  | _ => .stuck
/-- what the written part says of these classes and fields -/
def FldT (K : PySem.W.Frag) (cls : Nat → Addr) (tab : List (Nat × Str)) : Prop := ∀ c f, (c, f) ∈ tab → Cls K (cls c) ∧ NoAttr K (cls c) f
theorem RepF.put {R : RC} {S : Hp} {f : Str} {v : V} {d : D} (r : Rep R S v d) : ∀ {vfs : List (Str × V)} {fs : List (Str × D)}, RepF R S vfs fs → RepF R S (putF f v vfs) (putD f d fs)
  | _, _, .nil => .cons r .nil
  | (k, w) :: vs, (_, x) :: ds, .cons h1 h2 => by
    unfold putF putD
    by_cases q : k = f
    · rw [if_pos q, if_pos q]; exact .cons r h2
    · rw [if_neg q, if_neg q]; exact .cons h1 (RepF.put r h2)
theorem RepF.len {R : RC} {S : Hp} : ∀ {vfs : List (Str × V)} {fs : List (Str × D)}, RepF R S vfs fs → vfs.length = fs.length
  | _, _, .nil => rfl
  | _ :: _, _ :: _, .cons _ h2 => congrArg (· + 1) (RepF.len h2)
section
variable {X : Cx} {G : GC} {W : WX} {e o : Expr} {me mo : ME} {pos p1 : Pos} {f x : Str} {tab : List (Nat × Str)}
theorem de_fld (T : FldT X.K G.cls tab) (ho : DE X G W o mo) (hb : attributeBase o f X.env (eval o X.env) = eval o X.env := by rfl) : DE X G W (.Attribute o f pos) (eFld tab f mo) :=
  pe_weak (pe_fld ho hb) fun σ H Q ⟨S, ρ, re, h⟩ => by
    refine ⟨S, ρ, re, After.bind h fun d h v S1 H1 e1 s1 r1 => ?_⟩
    obtain ⟨z, hz, q⟩ := After.lift h
    cases d with
    | obj c fs =>
      have hz : (if (c, f) ∈ tab then fs.lookup f else none) = some z := hz
      by_cases ht : (c, f) ∈ tab
      · rw [if_pos ht] at hz
        cases r1 with
        | obj ha hf =>
          obtain ⟨u, hu, ru⟩ := hf.look hz
          obtain ⟨c1, c2⟩ := T c f ht
          exact ⟨_, _, _, _, u, rfl, s1 _ _ ha, c1, c2, hu, q u S1 H1 e1 s1 ru⟩
      · rw [if_neg ht] at hz; cases hz
    | _ => cases hz
/-- the same of the object that is being made -/
theorem de_fldB (i : Nat) (T : FldT X.K G.cls tab) (hN : X.N[i]? = some x := by rfl) (hv : Vis X.env.scope x := by first | exact Or.inl rfl | exact Or.inr (Or.inl rfl) | exact Or.inr (Or.inr rfl)) (hd : (x == ("__debug__" : Str)) = false := by decide)
    (hcd : (x == ("__classdict__" : Str)) = false := by decide) (hb : attributeBase (.Name x p1) f X.env (eval (.Name x p1) X.env) = eval (.Name x p1) X.env := by rfl) : DE X G W (.Attribute (.Name x p1) f pos) (eFldB tab f i) :=
  pe_weak (pe_fld (pe_var (i := i) hN hv hd hcd) hb) fun σ H Q ⟨S, ρ, re, h⟩ => by
    unfold eFldB at h
    split at h
    · rename_i c fs hz
      obtain ⟨o, h1, dx, vfs, ho, hS, hp, hr⟩ := re.sl i _ hz
      subst ho
      by_cases ht : (c, f) ∈ tab
      · rw [if_pos ht] at h
        obtain ⟨z, hz', q⟩ := After.lift h
        obtain ⟨u, hu, ru⟩ := hr.look hz'
        obtain ⟨c1, c2⟩ := T c f ht
        exact ⟨_, h1, G.slf, _, dx, vfs, u, rfl, hp, c1, c2, hu, q u S H (.refl _ _) re.sub ru⟩
      · rw [if_neg ht] at h; exact h.elim
    · exact h.elim
/-- self.f = e -/
theorem ds_setF (i : Nat) {p2 : Pos} (T : FldT X.K G.cls tab) (he : DE X G W e me) (hN : X.N[i]? = some x := by rfl) (hv : Vis X.env.scope x := by first | exact Or.inl rfl | exact Or.inr (Or.inl rfl) | exact Or.inr (Or.inr rfl)) (hd : (x == ("__debug__" : Str)) = false := by decide)
    (hcd : (x == ("__classdict__" : Str)) = false := by decide) (hs : swapsWith e (some (.Attribute (.Name x p1) f p2)) pos.line X.env = pure false := by rfl) (hG : G.ex = none := by rfl) : DS X G W (.Assign [.Attribute (.Name x p1) f p2] e pos) (sSetF tab i f me) :=
  ps_weak (ps_fld (pe_var (i := i) hN hv hd hcd) he hs) fun De σ H ⟨S, ρ, re, h⟩ => by
    unfold sSetF at h
    split at h
    · rename_i c fs hz
      refine ⟨S, ρ, re, AfterS.toE h re fun d h v S1 H1 e1 s1 r1 => ?_⟩
      have re1 := re.grow e1 s1
      obtain ⟨o, h1, dx, vfs, ho, hS, hp, hr⟩ := re1.sl i _ hz
      subst ho
      by_cases ht : (c, f) ∈ tab ∧ fs.length < 1000
      · rw [if_pos ht] at h
        obtain ⟨c1, c2⟩ := T c f ht.1
        refine ⟨_, h1, G.slf, _, dx, vfs, rfl, hp, c1, c2, by rw [hr.len]; exact ht.2, ?_⟩
        exact h σ S1 _ e1.s (RE.own_set hG re1 (y := .bo c (putD f d fs)) hz rfl h1 rfl ⟨dx, putF f v vfs, rfl, hS, upd_same, hr.put r1⟩ hS fun q hq => upd_ne hq)
      · rw [if_neg ht] at h; exact h.elim
    · exact h.elim
end
/-! ### __init__ -/
/-- names at a def's entry -/
theorem start_sl {K : PySem.W.Frag} {G : GC} {S H : Hp} {vs : List V} {zs : List Sl} {N : List Str} (hG : G.ex = none) (sub : Same S H) (ext : Ext G.S0 G.H0 S H) (hl : zs.length = vs.length) (hn : vs.length ≤ N.length)
    (sl : ∀ (i : Nat) z, zs[i]? = some z → ∃ v, vs[i]? = some v ∧ SlOk (G.R K) G.slf S H (some v) z)
    (own : ∀ (i : Nat) z p, zs[i]? = some z → z.own = true → vs[i]? = some (.ref p) → G.H0 p = none ∧ ∀ (j : Nat) y, zs[j]? = some y → y.own = true → vs[j]? = some (.ref p) → j = i) : RE K G S H (start N vs) (zs ++ List.replicate (N.length - zs.length) .no) := by
  have at1 : ∀ (i : Nat) v, i < vs.length → (start N vs)[i]? = some v → ∃ u, v = some u ∧ vs[i]? = some u := fun i v hi e => by
    unfold start at e
    rw [List.getElem?_append_left (by simpa using hi), List.getElem?_map, List.getElem?_eq_getElem hi] at e
    exact ⟨vs[i], (Option.some.inj e).symm, List.getElem?_eq_getElem hi⟩
  have low : ∀ (i : Nat) z, (zs ++ List.replicate (N.length - zs.length) .no)[i]? = some z → z.own = true → zs[i]? = some z ∧ i < vs.length := fun i z e o => by
    by_cases hi : i < zs.length
    · rw [List.getElem?_append_left hi] at e; exact ⟨e, by omega⟩
    · rw [List.getElem?_append_right (by omega), List.getElem?_replicate] at e
      split at e
      · cases e; cases o
      · cases e
  refine ⟨sub, ext, by simp [start, hl], fun i z e => ?_, fun i z p e o s => ?_, fun i a dd c fs h => by rw [hG] at h; cases h⟩
  · by_cases hi : i < zs.length
    · rw [List.getElem?_append_left hi] at e
      obtain ⟨v, h1, h2⟩ := sl i z e
      refine ⟨some v, ?_, h2⟩
      unfold start
      rw [List.getElem?_append_left (by simp; omega), List.getElem?_map, h1]
      rfl
    · rw [List.getElem?_append_right (by omega), List.getElem?_replicate] at e
      split at e
      · rename_i hlt
        cases e
        refine ⟨none, ?_, trivial⟩
        unfold start
        rw [List.getElem?_append_right (by simp; omega), List.getElem?_replicate, if_pos (by simp; omega)]
      · cases e
  · obtain ⟨ez, hi⟩ := low i z e o
    obtain ⟨u, h1, h2⟩ := at1 i _ hi s
    cases h1
    obtain ⟨a1, a2⟩ := own i z p ez o h2
    refine ⟨a1, fun j y ey oy sy => ?_⟩
    obtain ⟨ez', hj⟩ := low j y ey oy
    obtain ⟨u', k1, k2⟩ := at1 j _ hj sy
    cases k1
    exact a2 j y ez' oy k2
/-- what an __init__ makes of its arguments -/
def runI (c np n : Nat) (m : MS) : List D → Res D := fun ds => if ds.length = np then (m ((Sl.bo c [] :: ds.map Sl.d) ++ List.replicate (n - (np + 1)) .no)).bind fun o => (match o with
  | O.nx ρ' => (match (ρ' : List Sl)[0]? with
    | some (Sl.bo c' fs) => if c' = c then .ok (.obj c fs) else .stuck
    | _ => .stuck)
  | _ => .stuck) else .stuck
def spI (K : PySem.W.Frag) (cls : Nat → Addr) (c : Nat) (f : List D → Res D) : Sp := fun vs H Q _ => ∃ S ds x dx ws, vs = .ref x :: ws ∧ Same S (del H x) ∧ H x = some (.ins (cls c) dx []) ∧ Reps ⟨K, cls⟩ S ws ds ∧ match f ds with
  | .ok d => ∃ fs, d = .obj c fs ∧ ∀ S' H' dx' vfs, Ext S (del H x) S' H' → Same S' H' → S' x = none → H' x = some (.ins (cls c) dx' vfs) → RepF ⟨K, cls⟩ S' vfs fs → Q .non H'
  | _ => False
theorem del_sub {S H : Hp} {x : Addr} (h : Same S (del H x)) : Same S H ∧ S x = none := by
  refine ⟨fun b o e => ?_, ?_⟩
  · have k := h b o e
    by_cases hb : b = x
    · rw [hb, del_same] at k; cases k
    · rw [del_ne hb] at k; exact k
  · cases q : S x with
    | none => rfl
    | some o =>
      have k := h x o q
      rw [del_same] at k; cases k
theorem del_le {H : Hp} {x : Addr} : Same (del H x) H := fun b o e => by
  by_cases hb : b = x
  · rw [hb, del_same] at e; cases e
  · rw [del_ne hb] at e; exact e
theorem fnI_of {P : Program} {w : World} {K : PySem.W.Frag} {mg : Str → Option Value} {base : Heap} {cls : Nat → Addr} {c k : Nat} {qual : Str} {params : Arguments} {body : List Stmt} {scope : Scope} {f : Addr} {fd : FuncData} {N ps : List Str} {np : Nat} {m : MS}
    (F : FunD K "__init__" qual params body scope [] [] f fd) (S : FnScope N ps scope) (hp : ps.length = np + 1) (hN : ps.length ≤ N.length)
    (hbody : ∀ (cdv : Value) (A : Around) (outer : List Env) (s : Shared) (H : Hp) (E : XK) (H0 S0 : Hp) (slf : Addr), Room k (A.deeper (envOfC qual scope s.heap.objs.size f cdv)) →
      PSs (cxOf (L2.CX P w) P w K mg base N qual scope f cdv A outer s H E) body (tDS K ⟨cls, H0, S0, none, slf⟩ (fun c d _ H => E c d H) m)) : FnOk P w K mg base (L2.CX P w) (k + 1) f fd ps (spI K cls c (runI c np N.length m)) := by
  refine F.ok S (fun vs H Q E h => ?_) (fun cdv A outer s H vs Q E hr h => ?_)
  · obtain ⟨S1, ds, x, dx, ws, rfl, sub, hx, r, h⟩ := h
    unfold runI at h
    by_cases hl : ds.length = np
    · rw [List.length_cons, r.length, hl, hp]
    · rw [if_neg hl] at h; exact h.elim
  · obtain ⟨S1, ds, x, dx, ws, rfl, sub, hx, r, h⟩ := h
    obtain ⟨sub1, sx⟩ := del_sub sub
    refine ⟨tDS K ⟨cls, del H x, S1, none, x⟩ (fun c d _ H => E c d H) m, hbody cdv A outer s H E _ S1 x hr, ?_⟩
    unfold runI at h
    by_cases hl : ds.length = np
    · rw [if_pos hl] at h
      have wl := r.length
      have zl : (Sl.bo c [] :: ds.map Sl.d).length = np + 1 := by rw [List.length_cons, List.length_map, hl]
      refine ⟨S1, _, start_sl (G := ⟨cls, del H x, S1, none, x⟩) (zs := Sl.bo c [] :: ds.map Sl.d) rfl sub1 ⟨fun _ _ e => e, del_le, fun b o (e : S1 b = some o) (n : S1 b = none) => by rw [n] at e; cases e⟩ (by rw [zl, List.length_cons, wl, hl]) (by rw [List.length_cons, wl, hl]; omega) (fun i z e => ?_) (fun i z p e o s => ?_), ?_⟩
      · cases i with
        | zero =>
          cases e
          exact ⟨_, rfl, dx, [], rfl, sx, hx, .nil⟩
        | succ i =>
          rw [List.getElem?_cons_succ, List.getElem?_map] at e
          obtain ⟨d, hd, rfl⟩ := Option.map_eq_some_iff.mp e
          have hi : i < ws.length := by rw [wl]; exact (List.getElem?_eq_some_iff.mp hd).1
          obtain ⟨d', h1, h2⟩ := r.get (List.getElem?_eq_getElem hi)
          rw [hd] at h1
          cases h1
          exact ⟨ws[i], by rw [List.getElem?_cons_succ]; exact List.getElem?_eq_getElem hi, ws[i], rfl, h2⟩
      · have iz : ∀ (j : Nat) y, (Sl.bo c [] :: ds.map Sl.d)[j]? = some y → y.own = true → j = 0 := fun j y ey oy => by
          cases j with
          | zero => rfl
          | succ j =>
            rw [List.getElem?_cons_succ, List.getElem?_map] at ey
            obtain ⟨d, _, rfl⟩ := Option.map_eq_some_iff.mp ey
            cases oy
        have i0 := iz i z e o
        subst i0
        cases s
        exact ⟨del_same, fun j y ey oy _ => iz j y ey oy⟩
      · rw [zl]
        cases e : m ((Sl.bo c [] :: ds.map Sl.d) ++ List.replicate (N.length - (np + 1)) .no) with
        | stuck => rw [e] at h; exact h.elim
        | ex c' fs => rw [e] at h; exact h.elim
        | ok o =>
          rw [e] at h
          cases o with
          | nx ρ' =>
            intro σ' S' H' s re'
            have h : (match (match ρ'[0]? with | some (Sl.bo c' fs) => if c' = c then Res.ok (D.obj c fs) else .stuck | _ => .stuck) with
              | .ok d => ∃ fs, d = .obj c fs ∧ ∀ S' H' dx' vfs, Ext S1 (del H x) S' H' → Same S' H' → S' x = none → H' x = some (.ins (cls c) dx' vfs) → RepF ⟨K, cls⟩ S' vfs fs → Q .non H'
              | _ => False) := h
            cases q : ρ'[0]? with
            | none => rw [q] at h; exact h.elim
            | some z =>
              rw [q] at h
              cases z with
              | bo c' fs =>
                by_cases hc : c' = c
                · subst hc
                  simp only [if_true] at h
                  obtain ⟨fs', e1, go⟩ := h
                  cases e1
                  obtain ⟨o, _, dx', vfs, _, hS, hH, hF⟩ := re'.sl 0 _ q
                  exact go S' H' dx' vfs re'.ext re'.sub hS hH hF
                · simp only [if_neg hc] at h
              | _ => exact h.elim
          | rt d => exact h.elim
          | bk _ => exact h.elim
          | ct _ => exact h.elim
    · rw [if_neg hl] at h; exact h.elim
/-- the module's class x: its __init__ lets nothing out -/
def CalI (P : Program) (w : World) (K : PySem.W.Frag) (mg : Str → Option Value) (base : Heap) (cls : Nat → Addr) (k : Nat) (x : Str) (c : Nat) (m : List D → Res D) : Prop :=
  ∃ f fd ps, Mk K (cls c) f ∧ FnOk P w K mg base (L2.CX P w) k f fd ps (spI K cls c m) ∧ Binds K fd ps [] ∧ mg x = some (.ref (cls c)) ∧ ∀ ds d, m ds = .ok d → ∃ fs, d = .obj c fs
section
variable {X : Cx} {G : GC} {W : WX} {e : Expr} {es : List Expr} {mas : MA} {p pos : Pos} {x : Str} {k c : Nat} {m : List D → Res D}
theorem de_make (C : CalI X.prog X.w X.K X.mg X.base G.cls k x c m) (hr : Room (k + 1) X.A) (hg : Gl X x) (ha : DA X G W (e :: es) mas)
    (hdb : (x == ("__debug__" : Str)) = false := by decide) (hst : starEach (e :: es) X.env = (false, eval e X.env) :: starEach es X.env := by rfl) (hpl : (backTo pos (starEach es X.env)).any (·.1) = false := by rfl) :
    DE X G W (.Call (.Name x p) (e :: es) [] pos) (eCallN m mas) := by
  obtain ⟨f, fd, ps, M, F, B, hm, only⟩ := C
  refine pe_weak (pe_make M F hr hg hm B .nil passL ha hdb hst hpl) fun σ H Q ⟨S, ρ, re, h⟩ => ?_
  refine ⟨S, ρ, re, After.bind h fun xs h vs S1 H1 e1 s1 r1 => ?_⟩
  intro a dx ha hd ne
  have Sa : S1 a = none := s1.free ha
  have Sd : S1 dx = none := s1.free hd
  have sH : Same H1 (del (upd (upd H1 dx (.own a)) a (.ins (G.cls c) dx [])) a) := fun b o eb => by
    have nb : b ≠ a := ne_of_none eb ha
    rw [del_ne nb, upd_ne nb, upd_ne (ne_of_none eb hd)]
    exact eb
  refine ⟨S1, xs, a, dx, vs, by rw [List.append_nil], s1.trans sH, upd_same, r1, ?_⟩
  cases q : m xs with
  | stuck => rw [q] at h; exact h.elim
  | ex c' fs => rw [q] at h; exact h.elim
  | ok d =>
    obtain ⟨fs, rfl⟩ := only xs d q
    rw [q] at h
    refine ⟨fs, rfl, fun S' H' dx' vfs e2 s2 hS hH hF => ⟨rfl, ?_⟩⟩
    have eH : Same H1 H' := sH.trans e2.h
    have up : Same S' (upd S' a (.ins (G.cls c) dx' vfs)) := fun b o eb => by rw [upd_ne (ne_of_none eb hS)]; exact eb
    refine h (.ref a) (upd S' a (.ins (G.cls c) dx' vfs)) H' ⟨e1.s.trans (e2.s.trans up), e1.h.trans eH, fun b o eb nb => ?_⟩ (fun b o eb => ?_) (.obj upd_same (hF.mono up))
    · by_cases hb : b = a
      · subst hb
        exact e1.h.free ha
      · rw [upd_ne hb] at eb
        cases q1 : S1 b with
        | some o1 => exact e1.new b o1 q1 nb
        | none =>
          have := e2.new b o eb q1
          exact (e1.h.trans sH).free this
    · by_cases hb : b = a
      · subst hb
        rw [upd_same] at eb
        cases eb
        exact hH
      · rw [upd_ne hb] at eb
        exact s2 b o eb
end
/-! ### operators of the text's own: both operands of the class -/
section
open PySem.W
variable {prog : Program} {w : World} {A : Around} {E : Value → Shared → Prop} {s : Shared} {K : PySem.W.Frag} {x y C f : Addr} {ox oy : Obj} {od od2 : Option Obj}
theorem bin_same {op : Operator} {Q : Value → Shared → Prop} (X : K.In s.heap) (I : InstAt s.heap x ox C od) (I2 : InstAt s.heap y oy C od2) (hc : selfFirst K C = true)
    (hs : findIn K (.ref C) (PySem.dunder op.info.2) = some (some (.ref f))) (hf : isFn K (.ref f) = true) (h : wpAny (model prog w) A (call (.ref f) [.ref x, .ref y]) (PySem.W.CmpBack Q) E s) : wpAny (model prog w) A (binaryOp op (.ref x) (.ref y)) Q E s := by
  (obtain ⟨cd, rest, hcd, hm⟩ := ksp_first hc)
  (rcases hi : op.info with ⟨sym, nm'⟩)
  rw [hi] at hs
  dsimp only at hs
  have one :=
        ksp_try X I hs hf h
  (obtain ⟨hh, g, d, tt, os⟩ := s)
  have L1 : Looks (model prog w) hh
        (typeOf (.ref x)) (.ref C) := I.type
  have L2 : Looks (model prog w) hh (typeOf (.ref y)) (.ref C) := I2.type
  have L3 : Looks (model prog w) hh (fillsNumberSlot
        (.ref C) nm') true := fills_K X hcd hm hs
  simp only [binaryOp, hi]
  (refine wpAny_holding (wpAny_bind ?_))
  unfold binaryOp1
  (refine wpAny_bind (L1.at (wpAny_bind (L2.at (wpAny_bind (L3.at ?_))))))
  have self : (Value.ref C == Value.ref C) = true := beq_self_eq_true _
  simp only [self, if_true]
  ksp_lk
  (refine wpAny_mono one (fun r s' hr' => ?_) fun _ _ e => e)
  obtain ⟨v, rfl, hq⟩ := hr'
  ksp_lk
  exact hq
end
/-- a op b, a and b of the class c; m: its method -/
def oOwn (c : Nat) (m : List D → Res D) (x y : D) : Option D := match x, y with
  | .obj a fa, .obj b fb => if a = c ∧ b = c then (match m [.obj a fa, .obj b fb] with
    | .ok d => some d
    | _ => none) else none
  | _, _ => none
/-- what the written part says of an operator's method -/
structure OpD (P : Program) (w : World) (K : PySem.W.Frag) (mg : Str → Option Value) (base : Heap) (cls : Nat → Addr) (k : Nat) (c : Nat) (nm : Str) (m : List D → Res D) : Prop where
  ex : ∃ f fd ps, FnC P w K mg base cls k f fd ps m ∧ PySem.W.findIn K (.ref (cls c)) nm = some (some (.ref f)) ∧ PySem.W.isFn K (.ref f) = true
  first : PySem.W.selfFirst K (cls c) = true
theorem not_ni {v : V} {u : Value} {Q : Value → Shared → Prop} {s : Shared} (r : RelV v u) (h : Q u s) : PySem.W.CmpBack Q u s := by
  cases u <;> first | exact h | (cases v <;> first | exact r.elim | (obtain ⟨_, r⟩ := r; cases r) | cases r)
section
variable {X : Cx} {G : GC} {k c : Nat} {m : List D → Res D}
theorem os_own {op : Operator} (C : OpD X.prog X.w X.K X.mg X.base G.cls k c (PySem.dunder op.info.2) m) (hr : Room k X.A) : OpR X (binaryOp op) (rD2 (G.R X.K) (oOwn c m)) := by
  obtain ⟨⟨f, fd, ps, F, hs, hf⟩, hc⟩ := C
  intro pins s σ H x y v u Q I rx ry ⟨S, d1, d2, z, sub, r1, r2, e, q⟩
  unfold oOwn at e
  split at e
  · rename_i a fa b fb
    by_cases h : a = c ∧ b = c
    · rw [if_pos h] at e
      obtain ⟨rfl, rfl⟩ := h
      cases r1 with
      | obj ha hfa =>
        cases r2 with
        | obj hb hfb =>
          cases rx
          cases ry
          obtain ⟨mA, J, _⟩ := ins_get I.hok (sub _ _ ha)
          obtain ⟨mB, J2, _⟩ := ins_get I.hok (sub _ _ hb)
          obtain ⟨od, J, _⟩ := J.look
          obtain ⟨od2, J2, _⟩ := J2.look
          refine bin_same I.kIn J J2 hc hs hf ?_
          cases qm : m [.obj _ fa, .obj _ fb] with
          | stuck => rw [qm] at e; cases e
          | ex _ _ => rw [qm] at e; cases e
          | ok d =>
            rw [qm] at e
            cases e
            refine wpAny_mono (run_fn (dvs := []) (ds := []) (E := E0) F.ok hr F.bind .nil passL I (vs := [V.ref _, V.ref _]) (.cons rfl (.cons rfl .nil)) (Q := Q) ⟨S, _, sub, .cons (.obj ha hfa) (.cons (.obj hb hfb) .nil), ?_⟩) (fun r s' hq => ?_) fun _ _ z => z
            · rw [qm]
              exact fun v S' H' e2 s2 r3 => q v S' H' e2 s2 r3
            · obtain ⟨v, H', I', rv, qv⟩ := hq
              exact not_ni rv ⟨v, H', I', rv, qv⟩
    · rw [if_neg h] at e; cases e
  · cases e
end
/-- ~a -/
def oOwn1 (c : Nat) (m : List D → Res D) (x : D) : Option D := match x with
  | .obj a fa => if a = c then (match m [.obj a fa] with
    | .ok d => some d
    | _ => none) else none
  | _ => none
section
variable {X : Cx} {G : GC} {k c : Nat} {m : List D → Res D}
theorem os_inv (C : OpD X.prog X.w X.K X.mg X.base G.cls k c "__invert__" m) (hr : Room k X.A) : UnR X (unaryOp .Invert) (rD1 (G.R X.K) (oOwn1 c m)) := by
  obtain ⟨⟨f, fd, ps, F, hs, hf⟩, hc⟩ := C
  intro pins s σ H x v Q I rx ⟨S, d1, z, sub, r1, e, q⟩
  unfold oOwn1 at e
  split at e
  · rename_i a fa
    by_cases h : a = c
    · rw [if_pos h] at e
      subst h
      cases r1 with
      | obj ha hfa =>
        cases rx
        obtain ⟨mA, J, _⟩ := ins_get I.hok (sub _ _ ha)
        obtain ⟨od, J, _⟩ := J.look
        obtain ⟨mm, hF⟩ := I.fr
        refine PySem.W.ksp_inv hF I.ok.mod.kin J hs hf ?_
        cases qm : m [.obj _ fa] with
        | stuck => rw [qm] at e; cases e
        | ex _ _ => rw [qm] at e; cases e
        | ok d =>
          rw [qm] at e
          cases e
          refine run_fn (dvs := []) (ds := []) (E := E0) F.ok hr F.bind .nil passL I (vs := [V.ref _]) (.cons rfl .nil) (Q := Q) ⟨S, _, sub, .cons (.obj ha hfa) .nil, ?_⟩
          rw [qm]
          exact fun v S' H' e2 s2 r3 => q v S' H' e2 s2 r3
    · rw [if_neg h] at e; cases e
  · cases e
end
end L2.DL
/-! sorted, dict comprehensions, `in` a dict, isinstance, methods, static methods -/
namespace L2.DL
open PySem PyProof.Rows PySem.Spec
/-! ### sorted(xs), xs of alike data -/
def tupB : D → Bool
  | .tup (_ :: _) => true
  | _ => false
def ordB : D → Bool
  | .tup _ => false
  | .non => false
  | .dct _ => false
  | .obj _ _ => false
  | _ => true
def leD (x y : D) : Bool := !PySem.W.dataLt (y.py 29) (x.py 29)
def sortB (xs : List D) : Bool := (xs.all fun x => x.dep 29 && xs.all fun y => PySem.W.alike (x.py 29) (y.py 29)) && (xs.all tupB || xs.all ordB)
def fSort : List D → Option D
  | [.lst xs] => if sortB xs = true then some (.lst (xs.mergeSort leD)) else none
  | _ => none
/-- a machine's value that stands for d -/
def RepM (R : RC) (S : Hp) (u : Value) (d : D) : Prop := ∃ w, RelV w u ∧ Rep R S w d
theorem each_rep {R : RC} {S : Hp} : ∀ {vs : List V} {us : List Value} {ds : List D}, Vals vs us → Reps R S vs ds → PySem.W.EachIs (RepM R S) us ds
  | _, _, _, .nil, .nil => .nil
  | _, _, _, .cons r1 r2, .cons h1 h2 => .cons ⟨_, r1, h1⟩ (each_rep r2 h2)
theorem rep_each {R : RC} {S : Hp} : ∀ {us : List Value} {ds : List D}, PySem.W.EachIs (RepM R S) us ds → ∃ vs, Vals vs us ∧ Reps R S vs ds
  | _, _, .nil => ⟨[], .nil, .nil⟩
  | _, _, .cons ⟨w, r, h⟩ t => let ⟨vs, a, b⟩ := rep_each t; ⟨w :: vs, .cons r a, .cons h b⟩
theorem sortB_dep {xs : List D} (h : sortB xs = true) : ∀ x ∈ xs, x.dep 29 = true := fun x hx => by
  unfold sortB at h
  have h := (Bool.and_eq_true_iff.mp h).1
  exact (Bool.and_eq_true_iff.mp (List.all_eq_true.mp h x hx)).1
theorem sortB_alike {xs : List D} (h : sortB xs = true) : PySem.W.AllAlike (xs.map (D.py 29)) := fun d hd d' hd' => by
  obtain ⟨x, hx, rfl⟩ := List.mem_map.mp hd
  obtain ⟨y, hy, rfl⟩ := List.mem_map.mp hd'
  unfold sortB at h
  have h := (Bool.and_eq_true_iff.mp h).1
  exact List.all_eq_true.mp (Bool.and_eq_true_iff.mp (List.all_eq_true.mp h x hx)).2 y hy
theorem tupB_py {x : D} (h : tupB x = true) : ∃ a r, x.py 29 = .tuple (a :: r) := by
  unfold tupB at h
  split at h
  · exact ⟨_, _, rfl⟩
  · cases h
theorem ordB_py {x : D} (h : ordB x = true) : x.py 29 ≠ .none ∧ ∀ xs, x.py 29 ≠ .tuple xs := by
  cases x <;> first | exact absurd h Bool.false_ne_true | (refine ⟨fun z => ?_, fun _ z => ?_⟩ <;> cases z)
theorem sortB_able {xs : List D} (h : sortB xs = true) : PySem.W.Sortable (xs.map (D.py 29)) := by
  unfold sortB at h
  rcases (Bool.or_eq_true _ _).mp (Bool.and_eq_true_iff.mp h).2 with h | h
  · refine .inl fun d hd => ?_
    obtain ⟨x, hx, rfl⟩ := List.mem_map.mp hd
    exact tupB_py (List.all_eq_true.mp h x hx)
  · refine .inr fun d hd => ?_
    obtain ⟨x, hx, rfl⟩ := List.mem_map.mp hd
    exact ordB_py (List.all_eq_true.mp h x hx)
section
variable {X : Cx} {G : GC}
/-- a machine's value that stands for d is read as d says -/
theorem repM_reads {pins : List (Addr × Obj)} {s : Shared} {σ : St} {S H : Hp} (I : Inv X pins σ H s) (sub : Same S H) {u : Value} {d : D} {n : Nat} (hd : d.dep n = true) (h : RepM (G.R X.K) S u d) : ∃ as, Reads s.heap u (d.py n) as := by
  obtain ⟨w, r, h⟩ := h
  exact Dp.reads I _ w u (Rep.dp n d w hd (h.mono sub)) r
theorem cs_sort (hu : X.A.units + 64 < cLine) : CallR X (.builtin "sorted") (rDn (G.R X.K) fSort) := by
  intro pins s σ H vs us Q I r ⟨S, ds, z, sub, rr, e, q⟩
  unfold fSort at e
  split at e
  · rename_i xs
    split at e
    · rename_i hb
      cases e
      obtain ⟨v, rfl, r1⟩ := rep_one rr
      obtain ⟨p, ws, rfl, h1, h2⟩ := r1.lstq
      obtain rfl := Vals.ref1 r
      obtain ⟨its, rv, hl, hz⟩ := I.list (SqL.of (K := X.K) (sub _ _ h1))
      have e1 : PySem.W.EachIs (RepM (G.R X.K) S) its xs := each_rep rv h2
      have e2 : PySem.W.EachIs (fun u d => ∃ as, Reads s.heap u (D.py 29 d) as) its xs := (PySem.W.each_mem e1).mono fun u d ⟨a, b⟩ => repM_reads I sub (sortB_dep hb d b) a
      refine PySem.W.sorted_data (R := RepM (G.R X.K) S) hl.isList e1 e2 (sortB_alike hb) (sortB_able hb) (by rw [← h2.length]; exact hz) (fun d hd => ?_) fun out hlen eo => ?_
      · have := (D.py_plain 29 d (sortB_dep hb d hd)).2
        omega
      · obtain ⟨ys, rv2, ro⟩ := rep_each eo
        obtain ⟨ep, hep⟩ := PyProof.Rows.sortedAll_at s.heap its out.toArray
        have lo : ys.length ≤ sizeLine := by rw [ro.length, List.length_mergeSort, ← h2.length]; exact hz
        have fr := I.hok.fresh (Nat.le_succ s.heap.objs.size)
        refine ⟨.ref _, upd H (s.heap.objs.size + 1) (.lst ys), I.laid (t' := s.toks) (fun _ _ => PyProof.Rows.sortedAll_old) (Nat.le_succ _) ⟨lo, _, ep, rv2, hep⟩, rfl, ?_⟩
        exact give_lst sub ro q _ fr
    · cases e
  · cases e
end
end L2.DL
/-! sorted(xs, key=f), f a def of the text -/
namespace L2.DL
open PySem PyProof.Rows PySem.Spec
def keysD (m : List D → Res D) : List D → Option (List D)
  | [] => some []
  | x :: xs => match m [x] with
    | .ok k => (keysD m xs).map (k :: ·)
    | _ => none
def sortK (xs ks : List D) : List D := ((xs.zip ks).mergeSort fun p q => leD p.2 q.2).map (·.1)
def fSortK (m : List D → Res D) : List D → Option D
  | [.lst xs] => (keysD m xs).bind fun ks => if sortB ks = true then some (.lst (sortK xs ks)) else none
  | _ => none
theorem keysD_len {m : List D → Res D} : ∀ {xs ks : List D}, keysD m xs = some ks → ks.length = xs.length
  | [], _, e => by cases e; rfl
  | x :: xs, ks, e => by
    unfold keysD at e
    split at e
    · obtain ⟨r, e1, rfl⟩ := Option.map_eq_some_iff.mp e
      simp [keysD_len e1]
    · cases e
theorem keysD_at {m : List D → Res D} : ∀ {xs ks : List D} {i : Nat} {x : D}, keysD m xs = some ks → xs[i]? = some x → ∃ k, ks[i]? = some k ∧ m [x] = .ok k
  | [], _, _, _, _,
        h => by simp at h
  | y :: xs, ks, i, x, e, h => by
    unfold keysD at e
    split at e
    · rename_i k hk
      obtain ⟨r, e1, rfl⟩ := Option.map_eq_some_iff.mp e
      cases i with
      | zero =>
        (simp only [List.getElem?_cons_zero, Option.some.injEq] at h)
        subst h
        exact ⟨k, rfl, hk⟩
      | succ i =>
        rw [List.getElem?_cons_succ] at h
        obtain ⟨k', a, b⟩ := keysD_at e1 h
        exact ⟨k', by rw [List.getElem?_cons_succ]; exact a, b⟩
    · cases e
theorem each_take {R : RC} {S : Hp} {us : List Value} {ds : List D} {i : Nat} {u : Value} {d : D} (h : PySem.W.EachIs (RepM R S) us (ds.take i)) (hd : ds[i]? = some d) (r : RepM R S u d) : PySem.W.EachIs (RepM R S) (us ++ [u]) (ds.take (i + 1)) := by
  rw [List.take_add_one, hd]
  exact PySem.W.each_snoc r h
theorem RepM.mono {R : RC} {S S' : Hp} (e : Same S S') {u : Value} {d : D} (h : RepM R S u d) : RepM R S' u d := let ⟨w, a, b⟩ := h; ⟨w, a, b.mono e⟩
theorem each_at {α β : Type} {R : α → β → Prop} : ∀ {as : List α} {bs : List β} {i : Nat} {a : α}, PySem.W.EachIs R as bs → as[i]? = some a → ∃ b, bs[i]? = some b ∧ R a b
  | _, _, _, _, .nil, h => by simp at h
  | _, _, 0, _, .cons r _, h => by
    (simp only [List.getElem?_cons_zero, Option.some.injEq] at h)
    subst h
    exact ⟨_, rfl, r⟩
  | _, _, i + 1, _, .cons _ t, h => by
    rw [List.getElem?_cons_succ] at h
    obtain ⟨b, e, r⟩ := each_at t h
    exact ⟨b, by rw [List.getElem?_cons_succ]; exact e, r⟩
section
variable {X : Cx} {G : GC} {k : Nat} {m : List D → Res D}
/-- what stands while the keys are asked -/
def KeyAt (X : Cx) (pins : List (Addr × Obj)) (σ : St) (R : RC) (S H : Hp) (a kS : Addr) (e1 : Nat) (ks : List D) (i : Nat) (s : Shared) : Prop :=
  ∃ S' H' kA e, Inv X pins σ H' s ∧ Ext S H S' H' ∧ Same S' H' ∧ H' kS = none ∧ H' a = none ∧ s.heap.get? kS = some (seqObj "list" kA e) ∧ s.heap.get? a = some (seqObj "list" #[] e1) ∧ PySem.W.EachIs (RepM R S') kA.toList (ks.take i)
theorem fp_free {X : Cx} {pins : List (Addr × Obj)} {H H' : Hp} {b : Addr} (f : FpOk X pins H b) (h : H' b = none) : FpOk X pins H' b := ⟨h, f.2⟩
/-- one key is asked: the two lists stand by -/
theorem key_turn {f : Addr} {fd : FuncData} {ps : List Str} {s : Shared} {σ : St} {S' H' : Hp} {u : Value} {x kd : D} {prs : List (Addr × Obj)} (F : FnC X.prog X.w X.K X.mg X.base G.cls k f fd ps m) (hr : Room (k + 2) X.A) (I : Inv X prs σ H' s) (sub : Same S' H')
    (ru : RepM (G.R X.K) S' u x) (hk : m [x] = .ok kd) :
    wpAny (model X.prog X.w) X.A.in1.in1 (call (.ref f) [u]) (fun v s2 => ∃ H2 S2, Inv X prs σ H2 s2 ∧ Ext S' H' S2 H2 ∧ Same S2 H2 ∧ RepM (G.R X.K) S2 v kd) (fun _ _ => False) s := by
  obtain ⟨w, rw_, rp⟩ := ru
  have sp : spD X.K G.cls m [w] H' (fun v H2 => ∃ S2, Ext S' H' S2 H2 ∧ Same S2 H2 ∧ Rep (G.R X.K) S2 v kd) E0 := by
    refine ⟨S', [x], sub, .cons rp .nil, ?_⟩
    rw [hk]
    exact fun v S2 H2 e s r => ⟨S2, e, s, r⟩
  have I0 : Inv (X.wish fun _ _ => False) prs σ H' s := I.wish _
  have hl : ([u] ++ ([] : List Value)).length = ps.length := by
    have z := F.ok.len _ _ _ _ sp
    simpa using z
  have hb := F.bind s [u] I.kIn hl
  have r2 : Vals [w] [u] := .cons rw_ .nil
  refine wpAny_call (codeAny_mono (F.ok.run X.A.in1.in1 X.stack s H' ⟨[u], []⟩ ([u] ++ []) [w] _ E0 hr.in1.in1 I.env0.in1.in1 hb (by simpa using r2) sp) fun r s2 hq => ?_)
  cases r with
  | error e => exact passL (X := X.wish fun _ _ => False) prs σ H' s e s2 I0 hq
  | ok fl =>
    cases fl with
    | ret v =>
      obtain ⟨v', H2, I2, rv, S2, e2, s2', rp2⟩ := I.after hq
      exact ⟨H2, S2, I2, e2, s2', v', rv, rp2⟩
    | next => exact False.elim hq
    | brk => exact False.elim hq
    | cont => exact False.elim hq
theorem key_rest {f : Addr} {fd : FuncData} {ps : List Str} {pins : List (Addr × Obj)} {s : Shared} {σ : St} {S H : Hp} {a kS : Addr} {e1 : Nat} {vs : List Value} {xs ks : List D} {P : PySem.Fin → Shared → Prop} {E : Value → Shared → Prop}
    (F : FnC X.prog X.w X.K X.mg X.base G.cls k f fd ps m) (hr : Room (k + 2) X.A) (hka : kS ≠ a) (fa : FpOk X pins H a) (fk : FpOk X pins H kS) (ex : PySem.W.EachIs (RepM (G.R X.K) S) vs xs) (hk : keysD m xs = some ks) (hb : sortB ks = true) (hZ : vs.length ≤ sizeLine)
    (st : KeyAt X pins σ (G.R X.K) S H a kS e1 ks 0 s)
    (q : ∀ s' S' H' c out, Inv X pins σ H' s' → Ext S H S' H' → Same S' H' → H' a = none → s'.heap.get? a = some (seqObj "list" (List.toArray out) c) → PySem.W.EachIs (RepM (G.R X.K) S') out (sortK xs ks) → out.length ≤ sizeLine → P (.done (.ret .none)) s') :
    wpAny (model X.prog X.w) X.A.in1.in1 (ksk_rest a (.ref f) false vs.toArray e1 (.ref kS)) P E s := by
  have lx := ex.length
  have lk := keysD_len hk
  unfold ksk_rest
  (refine wpAny_bind (wpAny_rule ?_))
  first
    | rw [List.forIn_toArray]
    | (rw [← Array.forIn_toList];
          simp only [List.toList_toArray])
  refine wpAny_bind (ksk_fold (fun i s' => KeyAt X pins σ (G.R X.K) S H a kS e1 ks i s') vs 0 s st ?step ?done)
  case step =>
    rintro j u s1 hu ⟨S1, H1, kA, ep, I1, e1', s1', nk1, na1, gk, ga, ea⟩
    simp only [Nat.zero_add] at ea ⊢
    obtain ⟨x, hx, rx⟩ := each_at ex hu
    obtain ⟨kd, hkd, hm⟩ := keysD_at hk hx
    have Ip : Inv X ((kS, seqObj "list" kA ep) :: (a, seqObj "list" #[] e1) :: pins) σ H1 s1 := I1.pins_of fun p hp => by
      (rcases List.mem_cons.mp hp with rfl | hp)
      · exact ⟨gk, nk1, fk.2.1, fk.2.2.1, fun v z => by cases z⟩
      · (rcases List.mem_cons.mp hp with rfl | hp)
        · exact ⟨ga, na1, fa.2.1, fa.2.2.1, fun v z => by cases z⟩
        · exact I1.pin p (List.mem_append_right _ hp)
    refine wpAny_bind (wpAny_attempt (wpAny_mono (key_turn F hr Ip s1' (rx.mono e1'.s) hm) (fun v s2 hv => ?_) fun _ _ hF => hF.elim))
    obtain ⟨H2, S2, I2, e2, s2', rv⟩ := hv
    try dsimp only
    have gk2 := (I2.pin (kS, seqObj "list" kA ep) (List.mem_append_right _ (by simp)))
    have ga2 := (I2.pin (a, seqObj "list" #[] e1) (List.mem_append_right _ (by simp)))
    have I3 : Inv X pins σ H2 s2 := I2.pins_of fun p hp => I2.pin p (List.mem_append_right _ (by simp [hp]))
    have hz : kA.size
          ≤ vs.length := by
      have h1 := ea.length
      (rw [Array.length_toList, List.length_take] at h1)
      omega
    have sb := Heap.SameBut.update s2.heap kS (Obj.mapSeq (·.push v))
    obtain ⟨c2, hc2⟩ : ∃ c2, (s2.heap.update kS (Obj.mapSeq (·.push v))).get? kS = some (seqObj "list" (kA.push v) c2) := ⟨_, get?_update_seq gk2.1 (·.push v)⟩
    refine wpAny_bind (listUpdate_at gk2.1 rfl ?_ (Nat.le_trans hz hZ) (Nat.le_trans (Nat.le_of_eq (Array.size_push ..)) (Nat.succ_le_succ (Nat.le_trans hz hZ))))
    refine wpAny_pure ⟨rfl, S2, H2, kA.push v, c2, ?_, e1'.trans e2, s2', gk2.2.1, ga2.2.1, hc2, (sb.2 a hka.symm).trans ga2.1, ?_⟩
    · exact I3.turnedL (t' := s2.toks) (ch := [kS]) (fun b o hb z => (sb.2 b (fun w => hb (by simp [w]))).trans z) fun b hb => by
        have e : b = kS := by simpa using hb
        rw [e]
        exact fp_free fk gk2.2.1
    · rw [Array.toList_push]
      exact each_take (ea.mono fun _ _ z => z.mono e2.s) hkd rv
  case done =>
    rintro s1 ⟨S1, H1, kA, ep, I1, e1', s1', nk1, na1, gk, ga, ea⟩
    have ek : ks.take (0 + vs.length) = ks := List.take_of_length_le (by omega)
    rw [ek] at ea
    have hsz : kA.size
          = vs.length := by
      have h1 := ea.length
      (rw [Array.length_toList] at h1)
      omega
    try dsimp only
    refine wpAny_bind (PyProof.Rows.listItems_at gk rfl ?_)
    obtain ⟨B, b1, b2⟩ := restrict s1.heap fun b => decide (b ≠ kS)
    have b1 : ∀ b, b ≠ kS → B.get? b = s1.heap.get? b := fun b hb => b1 b (by simpa using hb)
    have b2 : B.get? kS = none := b2 kS (by simp)
    have kb : PySem.W.KeepsBut a B s1.heap := fun b o _ e => by
      by_cases hb : b = kS
      · rw [hb, b2] at e; cases e
      · rw [b1 b hb] at e; exact e
    have kr : PySem.W.EachIs (fun v d => ∃ as, Reads s1.heap v d as) kA.toList (ks.map (D.py 29)) := by
      refine PySem.W.each_map (R := fun v d => ∃ as, Reads s1.heap v d as) (D.py 29) ?_
      exact (PySem.W.each_mem ea).mono fun u d ⟨p, q⟩ => repM_reads (G := G) I1 s1' (sortB_dep hb d q) p
    refine PySem.W.keyH_end (κ := PySem.W.dataKind s1.heap (ks.map (D.py 29))) (h₁ := B) kb b2 gk ga hka (PySem.W.SortsAt.data kr (sortB_alike hb) (sortB_able hb) fun d hd => ?_) hsz hZ fun h3 tk c k3 n3 => ?_
    · obtain ⟨x, hx, rfl⟩ := List.mem_map.mp hd
      have h1 := (D.py_plain 29 x (sortB_dep hb x hx)).2
      have h2 := hr.un
      show X.A.units + 1 + 1 + _ < _
      omega
    · have ko : PySem.W.KeyedOut false (ks.map (D.py 29)) vs (PySem.W.sortVals (PySem.W.dataKind s1.heap (ks.map (D.py 29))) false kA.toList vs) := ⟨s1.heap, kA.toList, sortB_alike hb, rfl, kr⟩
      have zip1 : ∀ {us : List Value} {as bs : List D}, PySem.W.EachIs (RepM (G.R X.K) S) us as → bs.length = as.length → PySem.W.EachIs (fun u (p : D × D) => RepM (G.R X.K) S u p.1) us (as.zip bs) := by
        intro us as bs h
        induction h generalizing bs with
        | nil => intro _; simp only [List.zip_nil_left]; exact .nil
        | cons r t ih =>
          intro hl
          cases bs with
          | nil => simp at hl
          | cons b bs => exact .cons r (ih (by simpa using hl))
      have zm : (xs.zip ks).map (fun p : D × D => p.2.py 29) = ks.map (D.py 29) := by
        have e : ((xs.zip ks).map Prod.snd) = ks := List.map_snd_zip (by omega)
        calc (xs.zip ks).map (fun p : D × D => p.2.py 29) = ((xs.zip ks).map Prod.snd).map (D.py 29) := by rw [List.map_map]; rfl
          _ = _ := by rw [e]
      rw [← zm] at ko
      have fin := PySem.W.keyedOut_each (R := fun u (p : D × D) => RepM (G.R X.K) S u p.1) (bs := xs.zip ks) (fun p : D × D => p.2.py 29) ko (zip1 ex lk)
      rw [zm] at fin
      have fin2 : ∀ {us : List Value} {ps : List (D × D)}, PySem.W.EachIs (fun u (p : D × D) => RepM (G.R X.K) S u p.1) us ps → PySem.W.EachIs (RepM (G.R X.K) S) us (ps.map (·.1)) := by
        intro us ps h
        induction h with
        | nil => exact .nil
        | cons r t ih => exact .cons r ih
      have fin := fin2 fin
      have hlo := fin.length
      have I4 := I1.turnedL (t' := tk) (h' := h3) (ch := [kS, a]) (fun b o hb z => by
        have h1 : b ≠ kS := fun w => hb (by simp [w])
        have h2 : b ≠ a := fun w => hb (by simp [w])
        exact k3 b o h2 (by rw [b1 b h1]; exact z)) fun b hb => by
          (rcases List.mem_cons.mp hb with e | hb)
          · rw [e]; exact fp_free fk nk1
          · have e : b = a := by simpa using hb
            rw [e]; exact fp_free fa na1
      refine q _ S1 H1 c _ I4 e1' s1' na1 n3 ?_ ?_
      · exact fin.mono fun _ _ z => z.mono e1'.s
      · rw [hlo, List.length_map, List.length_mergeSort, List.length_zip]
        omega
/-- sorted(xs, key=f) -/
theorem cr_sortKey {x : Str} (C : Cal X.prog X.w X.K X.mg X.base G.cls k x m) (hr : Room (k + 2) X.A) : CallRK X (.builtin "sorted") [Str.ofString "key"] (fun vs zs H Q => ∃ f S xs z, X.mg x = some (.ref f) ∧ vs.length = 1 ∧ zs = [.ref f] ∧ Same S H ∧ Reps (G.R X.K) S vs [.lst xs] ∧ fSortK m [.lst xs] = some z ∧ Give (G.R X.K) S H z Q) := by
  intro pins s σ H vs zs us ws Q I r rz h0
  obtain ⟨f', S, xs, z, hm', _, rfl, sub, rr, e, q⟩ := h0
  obtain ⟨f, fd, ps, F, hm⟩ := C
  have ef : f' = f := by rw [hm] at hm'; cases hm'; rfl
  subst ef
  unfold fSortK at e
  obtain ⟨ks, hk, e⟩ := Option.bind_eq_some_iff.mp e
  split at e
  · rename_i hb
    cases e
    obtain ⟨v, rfl, r1⟩ := rep_one rr
    obtain ⟨p, vs', rfl, h1, h2⟩ := r1.lstq
    obtain rfl := Vals.ref1 r
    obtain rfl := Vals.ref1 rz
    obtain ⟨its, rv, hl, hz⟩ := I.list (SqL.of (K := X.K) (sub _ _ h1))
    have e1 : PySem.W.EachIs (RepM (G.R X.K) S) its xs := each_rep rv h2
    have hzi : its.length ≤ sizeLine := by rw [← rv.length]; exact hz
    refine PySem.W.sorted_of_sort hl.isList hzi (PyProof.Rows.ksk_s1 _ _) (fun _ => PyProof.Rows.ksk_l1 _ _) fun E' => ?_
    rw [show [Str.ofString "key"].zip [Value.ref f'] = [(Str.ofString "key", Value.ref f')] from rfl, PyProof.Rows.ksk_t1]
    have ho := PySem.W.copyHeap_at s.heap its
    obtain ⟨ee, ho1⟩ : ∃ ee, ((PySem.W.copyHeap s.heap its).update (s.heap.objs.size + 1) (Obj.mapSeq fun _ => (#[] : Array Value))).get? (s.heap.objs.size + 1) = some (seqObj "list" #[] ee) := ⟨_, get?_update_seq ho fun _ => #[]⟩
    have csz : s.heap.objs.size + 1 < (PySem.W.copyHeap s.heap its).objs.size := Heap.lt_size ho
    have hkS : (((PySem.W.copyHeap s.heap its).update (s.heap.objs.size + 1) (Obj.mapSeq fun _ => (#[] : Array Value))).push (seqObj "tuple" its.toArray 0)).objs.size = (PySem.W.copyHeap s.heap its).objs.size + 1 := by rw [size_push', Heap.size_update]
    unfold ksk_tree
    refine wpAny_bind (PyProof.Rows.listItems_at ho rfl ?_)
    refine wpAny_bind (listUpdate_at ho rfl ?_ (by rw [List.size_toArray]; exact hzi) (Nat.zero_le _))
    (refine wpAny_bind (seqEpoch_at ho1 rfl ?_))
    refine wpAny_bind (wpAny_newTuple ?_ (by show its.length ≤ _; exact hzi))
    (refine wpAny_bind (wpAny_newList ?_ (Nat.zero_le _)))
    refine wpAny_holding ?_
    have na : H (s.heap.objs.size + 1) = none := I.hok.fresh (Nat.le_succ _)
    have nk : H ((((PySem.W.copyHeap s.heap its).update (s.heap.objs.size + 1) (Obj.mapSeq fun _ => (#[] : Array Value))).push (seqObj "tuple" its.toArray 0)).objs.size) = none := I.hok.fresh (by rw [hkS]; omega)
    have ne : (((PySem.W.copyHeap s.heap its).update (s.heap.objs.size + 1) (Obj.mapSeq fun _ => (#[] : Array Value))).push (seqObj "tuple" its.toArray 0)).objs.size ≠ s.heap.objs.size + 1 := by rw [hkS]; omega
    have le2 : s.heap.objs.size ≤ (((PySem.W.copyHeap s.heap its).update (s.heap.objs.size + 1) (Obj.mapSeq fun _ => (#[] : Array Value))).push (seqObj "tuple" its.toArray 0)).objs.size := by rw [hkS]; omega
    refine key_rest (S := S) (H := H) (pins := pins) (σ := σ) F hr ne (I.fpOk (Nat.le_succ _) na) (I.fpOk le2 nk) e1 hk hb hzi ?_ fun s' S' H' c out I' ex' sub' na' ga eo hlo => ⟨rfl, ?_⟩
    · refine ⟨S, H, #[], 0, I.kept (t' := s.toks) fun b u hb => PySem.W.sorting_copy_old hb, .refl _ _, sub, nk, na, Heap.get?_push_size _ rfl, Heap.get?_push_of_some _ (Heap.get?_push_of_some _ ho1), by rw [List.take_zero]; exact .nil⟩
    · obtain ⟨ys, rv2, ro⟩ := rep_each eo
      have f' := I.fpOk (H' := H') (Nat.le_succ s.heap.objs.size) na'
      refine ⟨.ref _, upd H' (s.heap.objs.size + 1) (.lst ys), I'.take (t' := s'.toks) (fun _ _ _ z => z) f' ⟨by rw [rv2.length]; exact hlo, _, c, rv2, ga⟩, rfl, ?_⟩
      refine give_lst sub' ro (fun u S2 H2 e2 s2 r2 => q u S2 H2 (ex'.trans e2) s2 r2) _ na'
  · cases e
end
/-- sorted(e, key=f) as an expression -/
def eSortK (m : List D → Res D) (a : ME) : ME := fun ρ => (a ρ).bind fun d => lift (fSortK m [d])
section
variable {X : Cx} {G : GC} {W : WX} {e : Expr} {me : ME} {x : Str} {k : Nat} {m : List D → Res D} {p p2 pos kpos : Pos}
theorem de_sortK (C : Cal X.prog X.w X.K X.mg X.base G.cls k x m) (hr : Room (k + 2) X.A) (hg : Gl X "sorted") (hm : X.mg "sorted" = none) (hgx : Gl X x) (he : DE X G W e me) (hdx : (x == ("__debug__" : Str)) = false := by decide)
    (hst : starEach (e :: []) X.env = (false, eval e X.env) :: starEach [] X.env := by rfl) (h1 : backTo pos (starEach (e :: []) X.env) = (false, eval e X.env) :: backTo pos (starEach [] X.env) := by rfl) (h2 : (backTo pos (starEach (e :: []) X.env)).any (·.1) = false := by rfl)
    (h3 : (backToKw pos (keywordEach [⟨some "key", .Name x p2, kpos⟩] X.env)).all (·.1.isSome) = true := by rfl) (h4 : (backToKw pos (keywordEach [⟨some "key", .Name x p2, kpos⟩] X.env)).any (·.1.isNone) = false := by rfl) (h5 : (backToKw pos (keywordEach [⟨some "key", .Name x p2, kpos⟩] X.env)).filterMap (·.1) = [Str.ofString "key"] := by rfl) :
    DE X G W (.Call (.Name "sorted" p) [e] [⟨some "key", .Name x p2, kpos⟩] pos) (eSortK m me) := by
  have C' := C
  obtain ⟨f, fd, ps, F, hmx⟩ := C
  refine pe_weak (pe_callBK (cr_sortKey C' hr) hg hm (by decide +kernel) (pa_cons he pa_nil hst) (pk_cons (pe_glob (v := .ref f) hgx hmx rfl hdx) pk_nil) (by decide) (by decide) h1 h2 h3 h4 h5) fun σ H Q ⟨S, ρ, re, h⟩ => ?_
  refine ⟨S, ρ, re, After.bind h fun d h v S1 H1 e1 s1 r1 => ?_⟩
  obtain ⟨z, hz, q⟩ := After.lift h
  cases d with
  | lst xs =>
    show ∃ f' S xs z, X.mg x = some (.ref f') ∧ [v].length = 1 ∧ [V.ref f] = [V.ref f'] ∧ Same S H1 ∧ Reps (G.R X.K) S [v] [.lst xs] ∧ fSortK m [.lst xs] = some z ∧ Give (G.R X.K) S H1 z Q
    exact ⟨f, S1, xs, z, hmx, rfl, rfl, s1, .cons r1 .nil, hz, fun u S2 H2 e2 s2 r2 => q u S2 H2 (e1.trans e2) s2 r2⟩
  | _ => cases hz
end
end L2.DL
/-! methods, static methods, isinstance, dict comprehensions, `in` a dict -/
namespace L2.DL
open PySem PyProof.Rows PySem.Spec
/-! ### methods -/
theorem RepF.none {R : RC} {S : Hp} {f : Str} : ∀ {a : List (Str × V)} {c : List (Str × D)}, RepF R S a c → c.lookup f = none → a.lookup f = none
  | _, _, .nil, _ => rfl
  | _, _, @RepF.cons _ _ k v d' vs ds _ h2, h => by
    rw [List.lookup_cons] at h ⊢
    cases e : f == k with
    | true => rw [e] at h; cases h
    | false => rw [e] at h; exact RepF.none h2 h
structure MetD (P : Program) (w : World) (K : PySem.W.Frag) (mg : Str → Option Value) (base : Heap) (cls : Nat → Addr) (k : Nat) (c : Nat) (nm : Str) (m : List D → Res D) : Prop where
  ex : ∃ f fd ps, FnC P w K mg base cls k f fd ps m ∧ Meth K (cls c) nm f
  cl : Cls K (cls c)
def methD (un : Res D → Res D) (c : Nat) (nm : Str) (m : List D → Res D) (as : MA) (ρ : List Sl) : D → Res D
  | .obj c' fs => if c' = c ∧ (fs.lookup nm).isNone = true then (as ρ).bind fun xs => un (m (.obj c' fs :: xs)) else .stuck
  | _ => .stuck
theorem methD_obj (un : Res D → Res D) (c : Nat) (nm : Str) (m : List D → Res D) (as : MA) (ρ : List Sl) (c' : Nat) (fs : List (Str × D)) : methD un c nm m as ρ (.obj c' fs) = if c' = c ∧ (fs.lookup nm).isNone = true then (as ρ).bind fun xs => un (m (.obj c' fs :: xs)) else .stuck := rfl
def eMethG (un : Res D → Res D) (c : Nat) (nm : Str) (m : List D → Res D) (o : ME) (as : MA) : ME := fun ρ => (o ρ).bind (methD un c nm m as ρ)
abbrev eMeth := eMethG nox
abbrev eMethX := eMethG id
section
variable {X : Cx} {G : GC} {W : WX} {o e : Expr} {es : List Expr} {mo : ME} {mas : MA} {k c : Nat} {nm x : Str} {m : List D → Res D} {p pos apos : Pos} {pl : Sem Bool}
/-- what a method's call asks -/
theorem t_meth {un : Res D → Res D} {sp : Sp → List V → Hp → VK → Prop} {σ : St} {H : Hp} {Q : VK} (hu : ∀ (S H : Hp) (vs : List V) (ds : List D) (Q : VK), Same S H → Reps (G.R X.K) S vs ds → After X.K G W S H σ (un (m ds)) (fun d => ∀ v S' H', Ext S H S' H' → Same S' H' → Rep (G.R X.K) S' v d → Q v H') → sp (spD X.K G.cls m) vs H Q)
    (h : tD X.K G W (eMethG un c nm m mo mas) σ H Q) : tD X.K G W mo σ H fun x H1 => ∃ a dx fs, x = .ref a ∧ H1 a = some (.ins (G.cls c) dx fs) ∧ fs.lookup nm = none ∧ tDA X.K G W mas σ H1 fun vs H2 => sp (spD X.K G.cls m) (x :: vs) H2 Q := by
  obtain ⟨S, ρ, re, h⟩ := h
  refine ⟨S, ρ, re, After.bind h fun d h0 v S1 H1 e1 s1 r1 => ?_⟩
  clear h
  cases d with
  | obj c' fs =>
    by_cases hc : c' = c ∧ (fs.lookup nm).isNone = true
    · rw [methD_obj, if_pos hc] at h0
      obtain ⟨rfl, hn⟩ := hc
      have hn : fs.lookup nm = none := by simpa using hn
      have r1' := r1
      cases r1 with
      | @obj a dx _ vfs _ ha hf =>
        refine ⟨a, dx, vfs, rfl, s1 _ _ ha, hf.none hn, S1, ρ, re.grow e1 s1, After.bind (After.ext e1 h0 fun _ q => q) fun xs h vs S2 H2 e2 s2 r2 => ?_⟩
        exact hu S2 H2 _ _ Q s2 (.cons (r1'.mono e2.s) r2) (After.ext e2 h fun z q v S3 H3 e3 s3 r3 => q v S3 H3 ((e1.trans e2).trans e3) s3 r3)
    · rw [methD_obj, if_neg hc] at h0
      exact h0.elim
  | _ => exact h0.elim
theorem sp_nox {K : PySem.W.Frag} {σ : St} (S H : Hp) (vs : List V) (ds : List D) (Q : VK) (sub : Same S H) (r : Reps (G.R K) S vs ds) (h : After K G W S H σ (nox (m ds)) (fun d => ∀ v S' H', Ext S H S' H' → Same S' H' → Rep (G.R K) S' v d → Q v H')) : spD K G.cls m vs H Q E0 := by
  refine ⟨S, ds, sub, r, ?_⟩
  cases q : m ds with
  | stuck => rw [q] at h; exact h.elim
  | ex _ _ => rw [q] at h; exact h.elim
  | ok d => rw [q] at h; exact h
theorem sp_id {K : PySem.W.Frag} {σ : St} (S H : Hp) (vs : List V) (ds : List D) (Q : VK) (sub : Same S H) (r : Reps (G.R K) S vs ds) (h : After K G W S H σ (m ds) (fun d => ∀ v S' H', Ext S H S' H' → Same S' H' → Rep (G.R K) S' v d → Q v H')) : spD K G.cls m vs H Q (fun c d H => W c d σ H) := by
  refine ⟨S, ds, sub, r, ?_⟩
  cases q : m ds with
  | stuck => rw [q] at h; exact h.elim
  | ex _ _ => rw [q] at h; exact h
  | ok d => rw [q] at h; exact h
theorem de_meth (M : MetD X.prog X.w X.K X.mg X.base G.cls k c nm m) (hr : Room k X.A) (ho : DE X G W o mo) (ha : DA X G W (e :: es) mas)
    (hst : starEach (e :: es) X.env = (false, eval e X.env) :: starEach es X.env := by
          rfl) (hpl : (backTo pos (starEach es X.env)).any (·.1) = false := by rfl)
    (ht : eval (.Call (.Attribute o nm apos) (e :: es) [] pos) X.env = (do
      let ov ← eval o X.env
      standAt apos.atName
      let (f, first) ← holding [ov] (getMethod ov nm pl)
      callWith pos f first (backTo pos (starEach (e :: es) X.env)) (backToKw pos (keywordEach [] X.env))) := by rfl) : DE X G W (.Call (.Attribute o nm apos) (e :: es) [] pos) (eMeth c nm m mo mas) := by
  obtain ⟨⟨f, fd, ps, F, hm⟩, hc⟩ := M
  refine pe_weak (pe_meth (pl := pl) ho hc hm F.ok hr F.bind .nil passL ha hst hpl ht) fun σ H Q h => ?_
  have := t_meth (sp := fun s vs H Q => s vs H Q E0) (fun S H vs ds Q => sp_nox S H vs ds Q) h
  simpa only [tMeth, List.append_nil] using this
/-- o.m(e, ..), what it raises goes on -/
theorem de_methX (M : MetD X.prog X.w X.K X.mg X.base G.cls k c nm m) (hr : Room k X.A) (tk : Takes X W) (ho : DE X G W o mo) (ha : DA X G W (e :: es) mas)
    (hst : starEach (e :: es) X.env = (false, eval e X.env) :: starEach es X.env := by
          rfl) (hpl : (backTo pos (starEach es X.env)).any (·.1) = false := by rfl)
    (ht : eval (.Call (.Attribute o nm apos) (e :: es) [] pos) X.env = (do
      let ov ← eval o X.env
      standAt apos.atName
      let (f, first) ← holding [ov] (getMethod ov nm pl)
      callWith pos f first (backTo pos (starEach (e :: es) X.env)) (backToKw pos (keywordEach [] X.env))) := by rfl) : DE X G W (.Call (.Attribute o nm apos) (e :: es) [] pos) (eMethX c nm m mo mas) := by
  obtain ⟨⟨f, fd, ps, F, hm⟩, hc⟩ := M
  (refine ⟨fun pins s σ H Q I h => ?_⟩)
  have h := t_meth (sp := fun s vs H Q => s vs H Q (fun c d H => W c d σ H)) (fun S H vs ds Q => sp_id S H vs ds Q) h
  refine PySem.W.methodCall_KW (pl := pl) (thn (ho.run pins s σ H _ I h) fun u s1 ⟨x, H1, I1, rx, a, dx, fs, ex, ea, l, q⟩ => ?_) ht
  subst ex
  (obtain rfl : u = Value.ref a := rx)
  refine getmeth_ok I1 ea hc hm l ?_
  refine PySem.W.callWith_K (first := [Value.ref a]) (h₀ := X.base) I.ok.mod.kin hm.kp (thn (ha.run pos pins s1 σ H1 _ I1 q) fun us s2 ⟨vs, H2, I2, r, q2⟩ => ⟨I2.kIn, ?_⟩) hst hpl
  exact run_fnS (us := .ref a :: us) (vs := .ref a :: vs) (E := fun σ c d H => W c d σ H) F.ok hr F.bind (passAt tk σ) I2 (.cons rfl r) q2
/-! ### static methods -/
structure StaD (P : Program) (w : World) (K : PySem.W.Frag) (mg : Str → Option Value) (base : Heap) (cls : Nat → Addr) (k : Nat) (c : Nat) (C nm : Str) (m : List D → Res D) : Prop where
  ex : ∃ f fd ps p rest, FnC P w K mg base cls k f fd ps m ∧ PySem.W.findCls K (.ref (cls c)) (.type "type") nm = some (.get (.builtin "staticmethod.__get__") (.ref p) .none (.ref (cls c))) ∧ PySem.W.recIn K p "staticmethod" = some (.ref f :: rest)
  rd : ClX.CRead K (cls c) (.type "type")
  gl : mg C = some (.ref (cls c))
theorem de_static {C : Str} (M : StaD X.prog X.w X.K X.mg X.base G.cls k c C nm m) (hr : Room k X.A) (hg : Gl X C) (ha : DA X G W (e :: es) mas) (hdb : (C == ("__debug__" : Str)) = false := by decide)
    (hst : starEach (e :: es) X.env = (false, eval e X.env) :: starEach es X.env := by
          rfl) (hpl : (backTo pos (starEach es X.env)).any (·.1) = false := by rfl)
    (ht : eval (.Call (.Attribute (.Name C p) nm apos) (e :: es) [] pos) X.env = (do
      let ov ← eval (.Name C p) X.env
      standAt apos.atName
      let (f, first) ← holding [ov] (getMethod ov nm pl)
      callWith pos f first (backTo pos (starEach (e :: es) X.env)) (backToKw pos (keywordEach [] X.env))) := by rfl) : DE X G W (.Call (.Attribute (.Name C p) nm apos) (e :: es) [] pos) (eCallN m mas) := by
  obtain ⟨⟨f, fd, ps, q0, rest, F, h1, h2⟩, rd, gl⟩ := M
  (refine ⟨fun pins s σ H Q I h => ?_⟩)
  have h := t_callN h
  refine PySem.W.methodCall_KW (pl := pl) (thn ((pe_glob (v := .ref (G.cls c)) hg gl rfl hdb : PE X (.Name C p) (tC (.ref (G.cls c)))).run pins s σ H (fun v H1 => v = .ref (G.cls c) ∧ H1 = H) I ⟨rfl, rfl⟩) fun u s1 ⟨x, H1, I1, rx, ex, eH⟩ => ?_) ht
  subst ex eH
  obtain rfl : u = Value.ref (G.cls c) := rx
  refine PySem.W.method_cls I1.kIn rd.ga (PySem.W.cls_bind I1.kIn rd.rd h1 (wpAny_call (PySem.W.sm_get (s := { s1 with toks := s1.toks + 1 }) I1.kIn h2 (PySem.W.handed_on rfl ?_))))
  have I2 : Inv X pins σ H1 { s1 with toks := s1.toks + 1 } := I1.tok _
  refine PySem.W.callWith_K (first := []) (h₀ := X.base) I.ok.mod.kin F.kp (thn (ha.run pos pins _ σ H1 _ I2 h) fun us s2 ⟨vs, H2, I3, r, q2⟩ => ⟨I3.kIn, ?_⟩) hst hpl
  exact run_fn F.ok hr F.bind .nil passL I3 r q2
end
/-! ### isinstance -/
inductive TyN where
  | int | bool | str | tuple | list
def TyN.s : TyN → String
  | .int => "int" | .bool => "bool" | .str => "str" | .tuple => "tuple" | .list => "list"
def isTyD (t : TyN) : D → Option Bool
  | .non => some false
  | .bl _ => some (match t with | .int => true | .bool => true | _ => false)
  | .int _ => some (match t with | .int => true | _ => false)
  | .str _ => some (match t with | .str => true | _ => false)
  | .tup _ => some (match t with | .tuple => true | _ => false)
  | .lst _ => some (match t with | .list => true | _ => false)
  | .dct _ => some false
  | _ => none
def eIsT (t : TyN) (a : ME) : ME := fun ρ => (a ρ).bind fun d => lift ((isTyD t d).map .bl)
section
variable {X : Cx} {G : GC} {W : WX} {e : Expr} {me : ME} {p p2 pos : Pos} {x : Str}
theorem rep_ty {K : PySem.W.Frag} {R : RC} {S H : Hp} (hR : R.K = K) (sub : Same S H) {v : V} {d : D} {t : TyN} {b : Bool} (h : Rep R S v d) (e : isTyD t d = some b) : ∃ u, TyX K H v u ∧ PySem.W.kitOne K u (.type t.s) = some b := by
  subst hR
  cases h with
  | non => cases e; exact ⟨_, .base .non, by cases t <;> exact kit_ty (by decide +kernel)⟩
  | bl k => cases e; exact ⟨_, .base (.bl k), by cases t <;> exact kit_ty (by decide +kernel)⟩
  | int k => cases e; exact ⟨_, .base (.int k), by cases t <;> exact kit_ty (by decide +kernel)⟩
  | str k => cases e; exact ⟨_, .base (.str k), by cases t <;> exact kit_ty (by decide +kernel)⟩
  | lst h1 _ => cases e; exact ⟨_, .base (.lst (sub _ _ h1)), by cases t <;> exact kit_ty (by decide +kernel)⟩
  | dct h1 _ => cases e; exact ⟨_, .base (.dK (sub _ _ h1)), by cases t <;> exact kit_ty (by decide +kernel)⟩
  | tup h1 _ =>
    cases e
    have ty := same_sqT sub h1
    rcases ty with (q | ⟨o, q⟩) | ⟨o, its, n, q, hc, _⟩
    · exact ⟨_, .base (.tup q), by cases t <;> exact kit_ty (by decide +kernel)⟩
    · exact ⟨_, .fTuple q, by cases t <;> exact kit_ty (by decide +kernel)⟩
    · exact ⟨_, .kTuple q hc, by cases t <;> exact kit_ty (by decide +kernel)⟩
  | ro _ _ => cases e
  | obj _ _ => cases e
theorem de_isT (t : TyN) (hg : Gl X "isinstance") (hm : X.mg "isinstance" = none) (hgx : Gl X x) (hmx : X.mg x = none) (hb : bootBuiltins x = some (.type t.s)) (he : DE X G W e me) (hnx : x ≠ "__name__" := by decide) (hdx : (x == ("__debug__" : Str)) = false := by decide)
    (hs1 : starEach [e, .Name x p2] X.env = (false, eval e X.env) :: starEach [.Name x p2] X.env := by rfl) (hs2 : starEach [.Name x p2] X.env = (false, eval (.Name x p2) X.env) :: starEach [] X.env := by rfl) (hpl : (backTo pos (starEach [.Name x p2] X.env)).any (·.1) = false := by rfl) :
    DE X G W (.Call (.Name "isinstance" p) [e, .Name x p2] [] pos) (eIsT t me) := by
  refine pe_weak (pe_callB call_isi hg hm (by decide +kernel) (pa_cons he (pa_cons (pe_bltn (v := .ty t.s) hgx hmx hb rfl hnx hdx) pa_nil hs2) hs1) (by decide) (by decide) hs1 hpl) fun σ H Q ⟨S, ρ, re, h⟩ => ?_
  refine ⟨S, ρ, re, After.bind h fun d h v S1 H1 e1 s1 r1 => ?_⟩
  obtain ⟨z, hz, q⟩ := After.lift h
  obtain ⟨b, hb', rfl⟩ := Option.map_eq_some_iff.mp hz
  obtain ⟨u, ty, kt⟩ := rep_ty (K := X.K) rfl s1 r1 hb'
  exact ⟨v, .ty t.s, u, .type t.s, b, rfl, .ty _, ty, kt, q _ S1 H1 e1 s1 (.bl b)⟩
end
/-! ### dict comprehensions -/
def putKD (kvs : List (Key × D)) (k : Key) (v : D) : List (Key × D) :=
  if (kvs.any fun kv => decide (kv.1 = k)) = true then kvs.map (fun
        kv => if kv.1 = k then (kv.1, v) else kv) else kvs ++ [(k, v)]
theorem RepK.keys {R : RC} {S : Hp} : ∀ {vs : List (Key × V)} {ds : List (Key × D)}, RepK R S vs ds → ∀ k, (vs.any fun kv => decide (kv.1 = k)) = ds.any fun kv => decide (kv.1 = k)
  | _, _, .nil, _ => rfl
  | _, _, .cons _ h2, k => by rw [List.any_cons, List.any_cons, RepK.keys h2 k]
theorem RepK.map {R : RC} {S : Hp} {k : Key} {v : V} {d : D} (r : Rep R S v d) : ∀ {vs : List (Key × V)} {ds : List (Key × D)}, RepK R S vs ds → RepK R S (vs.map fun kv => if kv.1 = k then (kv.1, v) else kv) (ds.map fun kv => if kv.1 = k then (kv.1, d) else kv)
  | _, _, .nil => .nil
  | _, _, @RepK.cons _ _ k' v' d' vs ds h1 h2 => by
    (rw [List.map_cons, List.map_cons])
    by_cases h : k' = k
    · rw [if_pos h, if_pos h]; exact .cons r (RepK.map r h2)
    · rw [if_neg h, if_neg h]; exact .cons h1 (RepK.map r h2)
theorem RepK.app {R : RC} {S : Hp} : ∀ {vs ws : List (Key × V)} {ds es : List (Key × D)}, RepK R S vs ds → RepK R S ws es → RepK R S (vs ++ ws) (ds ++ es)
  | _, _, _, _, .nil, h => h
  | _, _, _, _, .cons h1 h2, h => .cons h1 (RepK.app h2 h)
theorem RepK.put {R : RC} {S : Hp} {k : Key} {v : V} {d : D} (r : Rep R S v d) {vs : List (Key × V)} {ds : List (Key × D)} (h : RepK R S vs ds) : RepK R S (putK vs k v) (putKD ds k d) := by
  unfold putK putKD
  rw [h.keys k]
  split
  · exact h.map r
  · exact h.app (.cons r .nil)
theorem RepK.len {R : RC} {S : Hp} : ∀ {vs : List (Key × V)} {ds : List (Key × D)}, RepK R S vs ds → vs.length = ds.length
  | _, _, .nil => rfl
  | _, _, .cons _ h2 => by simp [RepK.len h2]
theorem putKD_len (kvs : List (Key × D)) (k : Key) (v : D) : (putKD kvs k v).length ≤ kvs.length + 1 := by
  unfold putKD
  split <;> simp
def dcL (g : MG) (tt : MT) (tk tv : ME) (ρ : List Sl) : List (Key × D) → List D → Res (List (Key × D))
  | acc, [] => .ok acc
  | acc, d :: ds => (lift (g d ρ)).bind fun ρ1 => (nox (tt ρ1)).bind fun b => if b = true then (nox (tk ρ1)).bind fun y => (lift (keyD y)).bind fun k => (nox (tv ρ1)).bind fun v => dcL g tt tk tv ρ (putKD acc k v) ds else dcL g tt tk tv ρ acc ds
def eDc (src : MI) (vs : List Nat) (g : MG) (tt : MT) (tk tv : ME) : ME := fun ρ => (src ρ).bind fun ds => if ds.length ≤ sizeLine then (dcL g tt tk tv (wipeD ρ vs) [] ds).bind fun r => .ok (.dct r) else .stuck
theorem keyD_rep {R : RC} {S : Hp} {v : V} {d : D} {k : Key} (r : Rep R S v d) (h : keyD d = some k) : v = kV k := by
  cases r <;> first | (cases h; rfl) | cases h
section
variable {X : Cx} {G : GC} {W : WX}
theorem dcL_nox {g : MG} {tt : MT} {tk tv : ME} {ρ : List Sl} : ∀ (ds : List D) (acc : List (Key × D)), (∃ r, dcL g tt tk tv ρ acc ds = .ok r) ∨ dcL g tt tk tv ρ acc ds = .stuck
  | [], acc => .inl ⟨acc, rfl⟩
  | d :: ds, acc => by
    simp only [dcL]
    cases q1 : g d ρ with
    | none => exact .inr rfl
    | some ρ1 =>
      simp only [lift, Res.bind]
      cases q2 : tt ρ1 with
      | stuck => exact .inr rfl
      | ex _ _ => exact .inr rfl
      | ok b =>
        simp only [nox]
        cases b with
        | false => simpa using dcL_nox ds acc
        | true =>
          simp only [if_true]
          cases q3 : tk ρ1 with
          | stuck => exact .inr rfl
          | ex _ _ => exact .inr rfl
          | ok y =>
            simp only [nox]
            cases q4 : keyD y with
            | none => exact .inr rfl
            | some k =>
              simp only
              cases q5 : tv ρ1 with
              | stuck => exact .inr rfl
              | ex _ _ => exact .inr rfl
              | ok v => simp only [nox]; exact dcL_nox ds _
theorem t_dc (hG : G.ex = none) {K : PySem.W.Frag} {src : MI} {vs : List Nat} {g : MG} {tt : MT} {tk tv : ME} {σ : St} {H : Hp} {Q : VK} (h : tD K G W (eDc src vs g tt tk tv) σ H Q) : tDc (tDI K G W src) (tDG K G vs g) (tDT K G W0 tt) (tD K G W0 tk) (tD K G W0 tv) vs σ H Q := by
  obtain ⟨S, ρ, re, h⟩ := h
  refine ⟨S, ρ, re, After.bind h fun ds h J S1 H1 e1 s1 wk Dd hD => ?_⟩
  have re1 := re.grow e1 s1
  by_cases hlen : ds.length ≤ sizeLine
  case neg => rw [if_neg hlen] at h; exact h.elim
  rw [if_pos hlen] at h
  have h' : ∃ r, dcL g tt tk tv (wipeD ρ vs) [] ds = .ok r ∧ ∀ v S' H', Ext S H S' H' → Same S' H' → Rep (G.R K) S' v (.dct r) → Q v H' := by
    rcases dcL_nox (g := g) (tt := tt) (tk := tk) (tv := tv) (ρ := wipeD ρ vs) ds [] with ⟨r, e⟩ | e
    · rw [e] at h; exact ⟨r, e, h⟩
    · rw [e] at h; exact h.elim
  obtain ⟨r, hr, q⟩ := h'
  have hS1 : S1 Dd = none := s1.free hD
  refine ⟨fun i m Hc => ∃ S2 av ad, Ext S1 H1 S2 Hc ∧ Same S2 Hc ∧ S2 Dd = none ∧ Hc Dd = some (.dK av) ∧ RepK (G.R K) S2 av ad ∧ ad.length ≤ i ∧ dcL g tt tk tv (wipeD ρ vs) ad (ds.drop i) = .ok r ∧ i ≤ ds.length ∧ m = ds.length - i, ?_, ?_⟩
  · refine ⟨_, S1, [], [], ⟨fun _ _ e => e, fun q u e => by rw [upd_ne (ne_of_none e hD)]; exact e, fun q u e n => by rw [n] at e; cases e⟩, fun q u e => ?_, hS1, upd_same, .nil, Nat.zero_le _, by rw [List.drop_zero]; exact hr, Nat.zero_le _, rfl⟩
    rw [upd_ne (ne_of_none e hS1)]
    exact s1 _ _ e
  · rintro i m Hc ⟨S2, av, ad, e2, s2, hS2, hc, ra, hal, hrr, hi, hm⟩
    have re2 := re1.grow e2 s2
    by_cases hlt : i < ds.length
    · have hd' : ds.drop i = ds[i] :: ds.drop (i + 1) := List.drop_eq_getElem_cons hlt
      rw [hd'] at hrr
      simp only [dcL] at hrr
      obtain ⟨ρ1, q1, hrr⟩ := res_bind_ok hrr
      have q1 := lift_ok q1
      obtain ⟨b, q2, hrr⟩ := res_bind_ok hrr
      have q2 := nox_ok q2
      refine .inr ⟨wk.go i S2 Hc hlt e2.s s2, fun Hc => ∃ S2 av ad, Ext S1 H1 S2 Hc ∧ Same S2 Hc ∧ S2 Dd = none ∧ Hc Dd = some (.dK av) ∧ RepK (G.R K) S2 av ad ∧ ad.length ≤ i + 1 ∧ dcL g tt tk tv (wipeD ρ vs) ad (ds.drop (i + 1)) = .ok r,
        fun H' ⟨S2, av, ad, a1, a2, a3, a4, a5, a6, a7⟩ => ⟨_, by omega, S2, av, ad, a1, a2, a3, a4, a5, a6, a7, hlt, rfl⟩, fun x H' y => ?_⟩
      obtain ⟨S3, d, e3, s3, hd, r3⟩ := wk.yld i S2 Hc x H' hlt e2.s s2 y
      rw [List.getElem?_eq_getElem hlt] at hd
      have hd := Option.some.inj hd
      rw [hd] at q1
      have re3 := re2.grow e3 s3
      refine ⟨S3, wipeD ρ vs, d, ρ1, RE.wipe hG re3 vs, r3, q1, fun σ4 re4 w4 => ⟨w4.trans (wipe_wipe σ vs), S3, ρ1, re4, ?_⟩⟩
      rw [q2]
      intro S5 H5 e5 s5
      have re5 := re4.grow e5 s5
      have e25 : Ext S2 Hc S5 H5 := e3.trans e5
      have far : ∀ {S6 H6 : Hp}, Ext S2 Hc S6 H6 → S6 Dd = none := fun {S6 H6} e26 => by
        cases z : S6 Dd with
        | none => rfl
        | some o => have := e26.new Dd o z hS2; rw [hc] at this; cases this
      cases b with
      | false =>
        rw [if_neg Bool.false_ne_true] at hrr ⊢
        exact ⟨S5, av, ad, e2.trans e25, s5, far e25, e25.h _ _ hc, ra.mono e25.s, by omega, hrr⟩
      | true =>
        rw [if_pos rfl] at hrr ⊢
        obtain ⟨y, q3, hrr⟩ := res_bind_ok hrr
        have q3 := nox_ok q3
        obtain ⟨kk, q4, hrr⟩ := res_bind_ok hrr
        have q4 := lift_ok q4
        obtain ⟨vv, q5, hrr⟩ := res_bind_ok hrr
        have q5 := nox_ok q5
        refine ⟨S5, ρ1, re5, ?_⟩
        rw [q3]
        intro v S6 H6 e6 s6 r6
        have e26 : Ext S2 Hc S6 H6 := e25.trans e6
        refine ⟨S6, ρ1, re5.grow e6 s6, ?_⟩
        rw [q5]
        intro v2 S7 H7 e7 s7 r7
        have e27 : Ext S2 Hc S7 H7 := e26.trans e7
        have hS7 := far e27
        have hc7 := e27.h _ _ hc
        refine ⟨av, kk, keyD_rep r6 q4, hc7, by rw [ra.len]; omega, S7, putK av kk v2, putKD ad kk vv, ?_, ?_, hS7, upd_same, RepK.put r7 (ra.mono e27.s), Nat.le_trans (putKD_len _ _ _) (by omega), hrr⟩
        · have e17 := e2.trans e27
          exact ⟨e17.s, fun q u e => by rw [upd_ne (ne_of_none e hD)]; exact e17.h _ _ e, e17.new⟩
        · intro q u e
          rw [upd_ne (ne_of_none e hS7)]
          exact s7 _ _ e
    · have e : i = ds.length := by omega
      subst e
      refine .inl ⟨wk.stop S2 Hc e2.s s2, ?_⟩
      rw [List.drop_length] at hrr
      have hrr : ad = r := by cases hrr; rfl
      subst hrr
      have sS : Same S2 (upd S2 Dd (.dK av)) := fun q u e => by rw [upd_ne (ne_of_none e hS2)]; exact e
      refine q (.ref Dd) (upd S2 Dd (.dK av)) Hc (e1.trans ⟨e2.s.trans sS, e2.h, fun q u e n => ?_⟩) (fun q u e => ?_) (.dct upd_same (ra.mono sS))
      · by_cases hq : q = Dd
        · rw [hq]; exact hD
        · rw [upd_ne hq] at e; exact e2.new q u e n
      · by_cases hq : q = Dd
        · subst hq; rw [upd_same] at e; cases e; exact hc
        · rw [upd_ne hq] at e; exact s2 _ _ e
theorem de_dc {src : MI} {g : MG} {tt : MT} {tk tv : ME} {kx vx tg iter : Expr} {ifs : List Expr} {scope : Scope} {own : List (Str × Nat)} {pos : Pos} (hc : X.calm = true) (hN : X.N.Nodup) (hi : DI X G W tg iter src) (ok : BlkOk X.N X.env.scope scope own)
    (hg : ∀ (s : Shared) (H : Hp) (C : Addr) (cl : List (Str × Addr)) (fp : List Addr), PG (X.blk s H scope (compEnvC scope cl C X.env) fp) tg (tDG X.K G (own.map (·.2)) g)) (ht : ∀ (s : Shared) (H : Hp) (C : Addr) (cl : List (Str × Addr)) (fp : List Addr), PTs (X.blk s H scope (compEnvC scope cl C X.env) fp) ifs (tDT X.K G W0 tt))
    (hk : ∀ (s : Shared) (H : Hp) (C : Addr) (cl : List (Str × Addr)) (fp : List Addr), PE (X.blk s H scope (compEnvC scope cl C X.env) fp) kx (tD X.K G W0 tk))
    (he : ∀ (s : Shared) (H : Hp) (C : Addr) (cl : List (Str × Addr)) (fp : List Addr), PE (X.blk s H scope (compEnvC scope cl C X.env) fp) vx (tD X.K G W0 tv)) (hs : ∀ x, foldedSetIterable iter X.env x = pure x := by intro _; rfl) (hG : G.ex = none := by rfl) :
    DE X G W (.DictComp kx vx [⟨tg, iter, ifs, 0⟩] scope pos) (eDc src (own.map (·.2)) g tt tk tv) := pe_weak (pe_dc hc hN hi ok hg ht hk he hs) fun _ _ _ => t_dc hG
theorem sw_trueD {kx vx : Expr} {gs : List Comprehension} {scope : Scope} {pos py : Pos} {y : Str} {l : Nat} {env : Env} (hk : env.scope.kind = .function) (hy : env.scope.names.lookup y = some .local) (hl : (py.line == pos.line) = true)
    (ha : (scope.names.any fun (n, k) => n == y && (k == .local || k == .cell)) = false) : swapsWith (.DictComp kx vx gs scope pos) (some (.Name y py)) l env = pure true := by
  have a1 : env.kindOf y = some .local := hy
  have a2 : env.blockKind = .function := by unfold Env.blockKind; rw [hk]; rfl
  unfold swapsWith
  simp only [a2, a1, ha, Expr.pos, hl]
  rfl
theorem ds_setDc {i : Nat} {y : Str} {py : Pos} {src : MI} {g : MG} {tt : MT} {tk tv : ME} {kx vx tg iter : Expr} {ifs : List Expr} {scope : Scope} {own : List (Str × Nat)} {pos spos : Pos} (hc : X.calm = true) (hN : X.N.Nodup) (hy : X.N[i]? = some y) (hyl : X.env.scope.names.lookup y = some .local)
    (hsw : swapsWith (.DictComp kx vx [⟨tg, iter, ifs, 0⟩] scope pos) (some (.Name y py)) spos.line X.env = pure true) (hi : DI X G W tg iter src) (ok : BlkOk X.N X.env.scope scope own)
    (hg : ∀ (s : Shared) (H : Hp) (C : Addr) (cl : List (Str × Addr)) (fp : List Addr), PG (X.blk s H scope (compEnvC scope cl C X.env) fp) tg (tDG X.K G (own.map (·.2)) g)) (ht : ∀ (s : Shared) (H : Hp) (C : Addr) (cl : List (Str × Addr)) (fp : List Addr), PTs (X.blk s H scope (compEnvC scope cl C X.env) fp) ifs (tDT X.K G W0 tt))
    (hk : ∀ (s : Shared) (H : Hp) (C : Addr) (cl : List (Str × Addr)) (fp : List Addr), PE (X.blk s H scope (compEnvC scope cl C X.env) fp) kx (tD X.K G W0 tk))
    (he : ∀ (s : Shared) (H : Hp) (C : Addr) (cl : List (Str × Addr)) (fp : List Addr), PE (X.blk s H scope (compEnvC scope cl C X.env) fp) vx (tD X.K G W0 tv)) (hs : ∀ x, foldedSetIterable iter X.env x = pure x := by intro _; rfl) (hG : G.ex = none := by rfl) :
    DS X G W (.Assign [.Name y py] (.DictComp kx vx [⟨tg, iter, ifs, 0⟩] scope pos) spos) (sAsg (eDc src (own.map (·.2)) g tt tk tv) (gN i)) := by
  refine ⟨fun pins s σ H De I ⟨S, ρ, re, h0⟩ => ?_⟩
  have h : tDc (tDI X.K G W src) (tDG X.K G (own.map (·.2)) g) (tDT X.K G W0 tt) (tD X.K G W0 tk) (tD X.K G W0 tv) (own.map (·.2)) σ H (fun x H1 => gName i x σ H1 De.nx) :=
    t_dc hG ⟨S, ρ, re, AfterS.toE h0 re fun d h v S1 H1 e1 s1 r1 => h _ S1 H1 e1.s (RE.set hG (re.grow e1 s1) i r1)⟩
  (rw [exec_Assign_Name_used _ _ _ _ hsw])
  (refine wpAny_bind (wpAny_standAt (wpAny_bind ?_)))
  refine wpAny_bind (thn (dc_core (Qf := fun _ t => SP X pins De .next t) hc hN I hi ok hg ht hk he hs h fun L C t m H' I' q hn f => ?_) fun _ t hq => wpAny_pure (wpAny_pure hq))
  show wpAny _ _ (assign (.Name
        y py) X.env (.ref L)) _ _ _
  refine wpAny_assign_Name (store_ok2 (v := V.ref L) I' hN hy (.inl hyl) rfl (fun t2 iv2 ⟨a, sb, ha⟩ => ?_) (.inr hyl))
  have far : C ≠ a := ha.elim (fun z => by rw [z]; exact f.2.1) fun z e => f.2.2.2.2.1 y a z e.symm
  exact ⟨m, hn.sameBut sb far, fun g3 sb3 => ⟨_, H', iv2.turned (t' := t2.toks) (fun b o hb e => by rw [sb3.2 b hb]; exact e) f.1 f.2.1 f.2.2.2.1 f.2.2.2.2.1 f.2.2.2.2.2, q⟩⟩
end
end L2.DL
namespace L2.DL
open PySem PyProof.Rows PySem.Spec
theorem runI_only {c np n : Nat} {m : MS} : ∀ (ds : List D) (d : D), runI c np n m ds = .ok d → ∃ fs, d = .obj c fs := fun ds d h => by
  unfold runI at h
  split at h
  · obtain ⟨o, _, h⟩ := res_bind_ok h
    cases o with
    | nx ρ' =>
      dsimp only at h
      split at h
      · split at h
        · cases h; exact ⟨_, rfl⟩
        · cases h
      · cases h
    | _ => cases h
  · cases h
/-- a def that is never called -/
theorem cal_stuck {P : Program} {w : World} {K : PySem.W.Frag} {mg : Str → Option Value} {base : Heap} {cls : Nat → Addr} {k : Nat} {x qual : Str} {params : Arguments} {body : List Stmt} {scope : Scope} {f : Addr} {fd : FuncData} {N ps : List Str} (F : FunD K x qual params body scope [] [] f fd) (S : FnScope N ps scope)
    (hb : ∀ (kV doc pm : Value) (an : Option Addr) (cdv ct : Value) (us : List Value), us.length = ps.length → bindArgs (PySem.W.fnOf x qual params body scope .none kV doc pm an cdv ct) ⟨us, []⟩ = pure (ps.zip us)) (hN : ps.length ≤ N.length) (hm : mg x = some (.ref f)) : Cal P w K mg base cls (k + 1) x (fun _ => .stuck) := by
  refine ⟨f, fd, ps, ?_, hm⟩
  have h := fnC_of (P := P) (w := w) (mg := mg) (base := base) (cls := cls) (k := k) (m := sNever) F S hb hN fun cdv A outer s H E H0 S0 hr => dss_never
  have e : (fun _ => Res.stuck : List D → Res D) = runB ps.length N.length sNever := by
    funext ds
    unfold runB
    split <;> rfl
  rw [e]
  exact h
/-! ### a list that is being made is shown to a def that gives back a plain thing -/
def atomB : D → Bool
  | .non => true
  | .bl _ => true
  | .int _ => true
  | .str _ => true
  | _ => false
def eAtom (i : Nat) (m : ME) : ME := fun ρ => match ρ[i]? with
  | some (.bl xs) => (nox (m (ρ.set i (.d (.lst xs))))).bind fun d => if atomB d = true then .ok d else .stuck
  | _ => .stuck
theorem atom_rep {R : RC} {S S' : Hp} {v : V} {d : D} (h : atomB d = true) (r : Rep R S v d) : Rep R S' v d := by
  cases r <;> first | exact .non | exact .bl _ | exact .int _ | exact .str _ | cases h
theorem RE.froze {K : PySem.W.Frag} {G : GC} {S H : Hp} {σ : St} {ρ : List Sl} {i : Nat} {p : Addr} {vs : List V} {xs : List D} (hG : G.ex = none) (re : RE K G S H σ ρ) (hz : ρ[i]? = some (.bl xs)) (h1 : σ[i]? = some (some (.ref p))) (h2 : S p = none) (h3 : H p = some (.lst vs)) (h4 : Reps (G.R K) S vs xs) :
    RE K G (upd S p (.lst vs)) H σ (ρ.set i (.d (.lst xs))) := by
  obtain ⟨h0, hu⟩ := re.own i _ p hz rfl h1
  have hl : i < ρ.length := (List.getElem?_eq_some_iff.mp hz).1
  have sS : Same S (upd S p (.lst vs)) := fun q u e => by rw [upd_ne (ne_of_none e h2)]; exact e
  have sub : Same (upd S p (.lst vs)) H := fun q u e => by
    by_cases hq : q = p
    · subst hq; rw [upd_same] at e; cases e; exact h3
    · rw [upd_ne hq] at e; exact re.sub q u e
  refine ⟨sub, ⟨re.ext.s.trans sS, re.ext.h, fun q u e n => ?_⟩, by simp [re.len], fun j y e => ?_, fun j y q e oy s => ?_, fun i a dd c fs h => by rw [hG] at h; cases h⟩
  · by_cases hq : q = p
    · rw [hq]; exact h0
    · rw [upd_ne hq] at e; exact re.ext.new q u e n
  · by_cases hj : i = j
    · subst hj
      rw [List.getElem?_set_self hl] at e
      cases e
      exact ⟨_, h1, _, rfl, .lst upd_same (h4.mono sS)⟩
    · rw [List.getElem?_set_ne hj] at e
      obtain ⟨o', a1, a2⟩ := re.sl j y e
      have far : ∀ q, y.own = true → o' = some (.ref q) → S q = none → upd S p (.lst vs) q = none := fun q oy eo hq => by
        have ne : q ≠ p := fun w => by
          subst w
          exact hj (hu j y e oy (by rw [a1, eo])).symm
        rw [upd_ne ne]; exact hq
      refine ⟨o', a1, ?_⟩
      cases y with
      | no => trivial
      | d x => obtain ⟨v, b1, b2⟩ := a2; exact ⟨v, b1, b2.mono sS⟩
      | bl xs => obtain ⟨q, vs, b1, b2, b3, b4⟩ := a2; exact ⟨q, vs, b1, far q rfl b1 b2, b3, b4.mono sS⟩
      | bd xs => obtain ⟨q, vs, b1, b2, b3, b4⟩ := a2; exact ⟨q, vs, b1, far q rfl b1 b2, b3, b4.mono sS⟩
      | bo c xs => obtain ⟨dx, vs, b1, b2, b3, b4⟩ := a2; exact ⟨dx, vs, b1, far _ rfl b1 b2, b3, b4.mono sS⟩
  · have nj : ∀ (k : Nat) w, (ρ.set i (.d (.lst xs)))[k]? = some w → w.own = true → i ≠ k := fun k w ek ow z => by
      subst z
      rw [List.getElem?_set_self hl] at ek
      cases ek; cases ow
    have hj := nj j y e oy
    rw [List.getElem?_set_ne hj] at e
    obtain ⟨a1, a2⟩ := re.own j y q e oy s
    refine ⟨a1, fun k w ek ow sk => ?_⟩
    rw [List.getElem?_set_ne (nj k w ek ow)] at ek
    exact a2 k w ek ow sk
theorem de_atom {X : Cx} {G : GC} {W : WX} {e : Expr} {me : ME} (i : Nat) (h : DE X G W e me) (hG : G.ex = none := by rfl) : DE X G W e (eAtom i me) := pe_weak h fun σ H Q ⟨S, ρ, re, h⟩ => by
  unfold eAtom at h
  split at h
  · rename_i xs hz
    obtain ⟨o, a1, p, vs, b1, b2, b3, b4⟩ := re.sl i _ hz
    subst b1
    refine ⟨_, _, RE.froze hG re hz a1 b2 b3 b4, ?_⟩
    cases q : me (ρ.set i (.d (.lst xs))) with
    | stuck => rw [q] at h; exact h.elim
    | ex _ _ => rw [q] at h; exact h.elim
    | ok d =>
      rw [q] at h
      by_cases hb : atomB d = true
      · simp only [nox, Res.bind, if_pos hb] at h
        intro v S' H' e' s' r'
        exact h v S H' ⟨fun _ _ z => z, e'.h, fun b o z n => by rw [n] at z; cases z⟩ (fun b o z => e'.h _ _ (re.sub b o z)) (atom_rep hb r')
      · simp only [nox, Res.bind, if_neg hb] at h
        exact h.elim
  · exact h.elim
end L2.DL
/-! the head's facts for the data layer -/
namespace L2.DL
open PySem PyProof.Rows PySem.Spec
open He (ga ma fAd ba)
def slotB : List (Option Value) → Bool
  | [_, _, _, _, some (.builtin x), _] => decide (x = "ValueError.__new__")
  | _ => false
def mroB (C : Addr) : List Value → Bool
  | .ref c :: bm => decide (c = C) && PySem.HandSPX.refsVE bm
  | _ => false
def oexO (K : PySem.W.Frag) (C : Addr) : Bool := match K.lookup C with
  | some ⟨.type t, _, .cls cd, sl⟩ => decide (t = "type") && (mroB C cd.mro && (cd.hasDict && (slotB sl.toList && decide (cd.hasDel = false))))
  | _ => false
def oexB (K : PySem.W.Frag) (C : Addr) : Bool := oexO K C && (decide (PySem.W.findIn K (.ref C) "__setattr__" = some (some (.builtin "object.__setattr__"))) && (decide (PySem.W.subIn K (.ref C) (.type "BaseException") = some true) && (decide (PySem.W.typeIn K (.ref C) = some (.type "type")) && PySem.W.keepIn K (.ref C))))
theorem slotB_ok {l : List (Option Value)} (h : slotB l = true) : ∃ a b c d e, l = [a, b, c, d, some (.builtin "ValueError.__new__"), e] := by
  unfold slotB at h
  split at h
  · exact ⟨_, _, _, _, _, by rw [of_decide_eq_true h]⟩
  · cases h
theorem mroB_ok {C : Addr} {l : List Value} (h : mroB C l = true) : ∃ bm, l = .ref C :: bm ∧ PySem.HandSPX.refsVE bm = true := by
  unfold mroB at h
  split at h
  · obtain ⟨h1, h2⟩ := ba h
    exact ⟨_, by rw [of_decide_eq_true h1], h2⟩
  · cases h
theorem oexO_ok {K : PySem.W.Frag} {C : Addr} (h : oexO K C = true) : ∃ nm q N bs bm sn sub ab col dd k0 k1 k2 k3 k5, K.lookup C = some (excClassObj nm q C N bs bm true sn sub ab col dd k0 k1 k2 k3 k5 "ValueError.__new__") ∧ PySem.HandSPX.refsVE bm = true := by
  unfold oexO at h
  split at h
  · rename_i t d cd sl hl
    obtain ⟨h1, h⟩ := ba h
    obtain ⟨h2, h⟩ := ba h
    obtain ⟨h3, h⟩ := ba h
    obtain ⟨h4, h5⟩ := ba h
    have h6 : cd.hasDel = false := of_decide_eq_true h5
    obtain ⟨bm, e2, r⟩ := mroB_ok h2
    obtain ⟨a, b, c, d, e, e4⟩ := slotB_ok h4
    have es : sl = #[a, b, c, d, some (.builtin "ValueError.__new__"), e] := Array.toList_inj.mp e4
    have et := of_decide_eq_true h1
    subst es et
    obtain ⟨n1, n2, n3, n4, n5, n6, n7, n8, n9, n10, n11⟩ := cd
    simp only at e2 h3 h6
    subst e2 h3 h6
    exact ⟨_, _, _, _, bm, _, _, _, _, _, _, _, _, _, _, hl, r⟩
  · cases h
theorem oexB_ok {K : PySem.W.Frag} {C : Addr} (h : oexB K C = true) : OexC K C := by
  obtain ⟨h1, h⟩ := ba h
  obtain ⟨h2, h⟩ := ba h
  obtain ⟨h3, h⟩ := ba h
  obtain ⟨h4, h5⟩ := ba h
  exact ⟨oexO_ok h1, of_decide_eq_true h2, of_decide_eq_true h3, of_decide_eq_true h4, h5⟩
def excB (K : PySem.W.Frag) (D : Addr) : Bool := decide (PySem.W.findIn K (.ref D) "__getattribute__" = some (some (.builtin "BaseException.__getattribute__"))) && (decide (PySem.W.findIn K (.ref D) "__getattr__" = some none) && (decide (PySem.W.subIn K (.ref D) (.type "BaseException") = some true) && (PySem.W.hasDictIn K D &&
  (decide (PySem.W.findIn K (.ref D) "__class__" = some (some (.builtin "object.__class__"))) && (decide (PySem.W.specialIn K (.builtin "object.__class__") "__get__" = some (some (.builtin "getset_descriptor.__get__"))) && (decide (PySem.W.takesIn K (.builtin "object.__class__") = some true) && decide (PySem.W.mroIn K D (.type "object") = some true)))))))
theorem excB_ok {K : PySem.W.Frag} {D : Addr} (h : excB K D = true) : ExcC K D := by
  obtain ⟨h1, h⟩ := ba h
  obtain ⟨h2, h⟩ := ba h
  obtain ⟨h3, h⟩ := ba h
  obtain ⟨h4, h⟩ := ba h
  obtain ⟨h5, h⟩ := ba h
  obtain ⟨h6, h⟩ := ba h
  obtain ⟨h7, h8⟩ := ba h
  exact ⟨of_decide_eq_true h1, of_decide_eq_true h2, of_decide_eq_true h3, h4, of_decide_eq_true h5, of_decide_eq_true h6, of_decide_eq_true h7, of_decide_eq_true h8⟩
def kitB (K : PySem.W.Frag) (C D : Addr) (b : Bool) : Bool := decide (PySem.W.kitOne K (.ref C) (.ref D) = some b)
def gblB (K : PySem.W.Frag) (x : Str) (n : String) : Bool := decide (PySem.W.nsIn K mainGlobals x = some (some (.builtin n)))
def fnB (K : PySem.W.Frag) (a : Addr) : Bool := decide (PySem.W.typeIn K (.ref a) = some (.type "function"))
def fldB (K : PySem.W.Frag) (C : Addr) (f : Str) : Bool := decide (PySem.W.findIn K (.ref C) f = some none)
/-- a law's end: what may get out hangs on the world -/
theorem walk_w {l : PySem.W.OpenLaw} {most lev : Nat} {vw : Program} {lo : List Str} {XP : (Str → Option Value) → Heap → Prop} {YP : World → Heap → Prop} {dr : DefRec} {CXw : World → CXT} {x : Str} (h1 : l.most = some most) (h2 : most ≤ sizeLine) (h3 : dr.params.defaults = []) (h4 : Room lev callerA)
    (go : ∀ (w : World) (mg : Str → Option Value) (fa : Addr) (h : Heap), YP w h → h.Ns mainGlobals mg → mg dr.name = some (.ref fa) → ∃ (K : PySem.W.Frag) (fd : FuncData) (sp : Sp), K.In h ∧ (∀ (s : Shared) (u : Value), BindsTo s fd ⟨[u], []⟩ [(x, u)]) ∧ (∀ (H : Hp) (a : Addr) (ns : List Int), ns.length ≤ most → Only H → SqL K H a (ns.map V.int) → sp [.ref a] H (fun v _ => v = .bl true) fun _ _ _ => False) ∧ ∀ base : Heap, K.In base → base.Ns mainGlobals mg → FnOk l.prog w K mg base (CXw w) lev fa fd [x] sp)
    (none_out : ∀ (w : World) (H : Hp) (s : Shared) (e : Value) (s' : Shared), CXw w [] H s (fun _ _ _ => False) e s' → False) : PySem.W.WalkO vw lo XP YP l.row.toRowW dr [] (fun f us => PySem.call f us) :=
  Att.attach_call h1 h3 fun w s₀ s₁ mg mb fa o pm cd doc a us ns G Y ho hd hcd hmg hobj hints hlen hg => by
    obtain ⟨K, fd, sp, KX, hb, hsp, hF⟩ := go w mg fa _ Y G.T.g hmg
    exact law_call KX G.T.g G.T.b G.T.builtins G.T.nolimit hg hobj hints (by exact Nat.le_trans hlen h2) h4 hF hb (fun H hO hS => hsp H a ns hlen hO hS) (fun H e s' z => none_out w H s₁ e s' z)
theorem cx_none {P : Program} {w : World} {H : Hp} {s s' : Shared} {e : Value} (z : L2.CX P w [] H s (fun _ _ _ => False) e s') : False := by
  obtain ⟨_, _, _, _, _, _, _, _, _, _, _, _, k⟩ := z
  exact k
/-- the script as the law gets it -/
abbrev script (ns : List Int) : D := .ro (ns.map D.int)
theorem reps_ints {R : RC} {S : Hp} : ∀ ns : List Int, Reps R S (ns.map V.int) (ns.map D.int)
  | [] => .nil
  | n :: ns => .cons (.int n) (reps_ints ns)
theorem law_sp {K : PySem.W.Frag} {cls : Nat → Addr} {m : List D → Res D} {H : Hp} {a : Addr} {ns : List Int} (h : m [script ns] = .ok (.bl true)) (hS : SqL K H a (ns.map V.int)) :
    spD K cls m [.ref a] H (fun v _ => v = .bl true) fun _ _ _ => False := by
  refine ⟨H, [script ns], .refl H, .cons (.ro hS (reps_ints ns)) .nil, ?_⟩
  rw [h]
  intro v S' H' _ _ r
  cases r
  rfl
/-! ### the Hook: defs at any address, a Bool beside -/
abbrev AlZ : Type := He.AlD × Bool
abbrev frZ (g : Addr → Option Obj) (n : Nat) : PySem.W.Frag := He.frG g (He5.asA g n)
def obsZ (n : Nat) (fa : List He.Fa) (fn : List He5.DefA) (ex : PySem.W.Frag → Bool) (g : Addr → Option Obj) : AlZ := (He5.obsA fa fn (frZ g n), ex (frZ g n))
abbrev SaysZ (fa : List He.Fa) (fn : List He5.DefA) (ex : PySem.W.Frag → Bool) (K : PySem.W.Frag) : Prop := He5.SaysA fa fn K ∧ ex K = true
def hookZ (n : Nat) (fa : List He.Fa) (fn : List He5.DefA) (ex : PySem.W.Frag → Bool) : PySem.W.Hook where
  α := AlZ
  obs := fun s => obsZ n fa fn ex s.heap.get?
  val := fun _ => (He5.valA fn, true)
  says := fun _ h => ∃ K : PySem.W.Frag, K.In h ∧ SaysZ fa fn ex K
  of := fun _ _ e => ⟨_, He.frG_in, congrArg (fun z : AlZ => z.1) e, congrArg (fun z : AlZ => z.2) e⟩
  keeps := fun _ _ _ ⟨K, hK, c⟩ k =>
        ⟨K, PySem.W.Frag.In.keeps hK k, c⟩
theorem obsZ_eq {n : Nat} {fa : List He.Fa} {fn : List He5.DefA} {ex : PySem.W.Frag → Bool} {g : Addr → Option Obj} {s : Shared} (h : ∀ a, g a = s.heap.get? a) : obsZ n fa fn ex g = (hookZ n fa fn ex).obs s := by
  have e : g =
        s.heap.get? := funext h
  rw [e]
  rfl
/-! ### facts of classes -/
def creadB (K : PySem.W.Frag) (C : Addr) : Bool := PySem.W.readsIn K C (.type "type") && decide (PySem.W.specialIn K (.ref C) "__getattribute__" = some (some (.builtin "type.__getattribute__")))
theorem creadB_ok {K : PySem.W.Frag} {C : Addr} (h : creadB K C = true) : ClX.CRead K C (.type "type") := ⟨(ba h).1, of_decide_eq_true (ba h).2⟩
def firstB (K : PySem.W.Frag) (C : Addr) : Bool := PySem.W.selfFirst K C
end L2.DL
namespace L2.DL.MM
open PySem PyProof.Rows PySem.Spec
open He (ga ma fAd)
def top (i : Nat) : Stmt := PySem.Challenge.pw_calmspot_k87_fewest_on_a_line.main.body.getD i (.Pass ⟨0, 0, 0, 0⟩)
def bodyOf_ : Stmt → List Stmt
  | .ClassDef
        (body := b) .. => b
  | _ => []
def clsTop (i k : Nat) : Stmt := (bodyOf_ (top i)).getD k (.Pass ⟨0, 0, 0, 0⟩)
abbrev s_is_home : Stmt := top 32
abbrev s_Council___init__ : Stmt := clsTop 33 0
abbrev s__law_digits : Stmt := top 47
abbrev s__law_voters : Stmt := top 57
abbrev s__law_words : Stmt := top 58
abbrev s__law_homes : Stmt := top 61
abbrev s__law_cell : Stmt := top 46
abbrev s__law_number : Stmt := top 56
abbrev s__law_table : Stmt := top 59
abbrev s__law_line_council : Stmt := top 67
abbrev s__law_dot : Stmt := top 52
abbrev s__law_value : Stmt := top 63
abbrev s_dot : Stmt := top 12
abbrev s_ranked : Stmt := top 20
abbrev s_word : Stmt := top 21
abbrev s_ends_of : Stmt := top 23
abbrev s_compare : Stmt := top 17
abbrev s_ratio : Stmt := top 14
abbrev s_minus : Stmt := top 15
abbrev s_mirrored : Stmt := top 24
abbrev s_floor_of : Stmt := top 18
abbrev s_over : Stmt := top 16
abbrev s_rounds_to : Stmt := top 25
abbrev s_fewest_rising : Stmt := top 26
abbrev s_flipped : Stmt := top 27
abbrev s_fewest_between : Stmt := top 28
abbrev s_fewest_on_line : Stmt := top 29
abbrev s__law_wrong : Stmt := top 68
abbrev s_smaller_wins : Stmt := top 39
abbrev s_winning_book : Stmt := top 40
abbrev s_lot_order : Stmt := top 37
abbrev s_lot_of : Stmt := top 36
abbrev s_least_lots : Stmt := top 41
abbrev s_lot_number : Stmt := top 35
abbrev s_is_lot : Stmt := top 38
abbrev s_Rule___init__ : Stmt := clsTop 43 0
abbrev s_Rule___or__ : Stmt := clsTop 43 6
abbrev s_sums_of : Stmt := top 42
abbrev s_Rule_weighted : Stmt := clsTop 43 1
abbrev s_Rule___invert__ : Stmt := clsTop 43 7
abbrev s_Rule___and__ : Stmt := clsTop 43 5
abbrev s__law_rule : Stmt := top 60
abbrev s__law_gcd : Stmt := top 48
abbrev s__law_reduced : Stmt := top 49
abbrev s__law_motion : Stmt := top 62
abbrev s__law_fraction : Stmt := top 50
abbrev s__law_plus : Stmt := top 64
abbrev s__law_mirror : Stmt := top 65
abbrev s__law_sign : Stmt := top 51
abbrev s__law_line_votes : Stmt := top 66
abbrev s__law_far : Stmt := top 70
abbrev s__law_whole : Stmt := top 45
abbrev s__law_way : Stmt := top 53
abbrev s__law_nearer : Stmt := top 54
abbrev s__law_lot : Stmt := top 55
abbrev s__law_asked : Stmt := top 69
abbrev s__law_world : Stmt := top 71
abbrev s_law : Stmt := top 72
abbrev si_WrongDimension : Stmt := clsTop 9 0
abbrev di_WrongDimension : He5.DefA := ⟨fun K => fAd K ("WrongDimension", some "__init__"), "__init__", "WrongDimension.__init__", defArgs si_WrongDimension, defBody si_WrongDimension, defScope si_WrongDimension, [], []⟩
abbrev dd_is_home : He5.DefA := ⟨fun K => fAd K ("is_home", none), "is_home", "is_home", defArgs s_is_home, defBody s_is_home, defScope s_is_home, [], []⟩
abbrev dd_Council___init__ : He5.DefA := ⟨fun K => fAd K ("Council", some "__init__"), "__init__", "Council.__init__", defArgs s_Council___init__, defBody s_Council___init__, defScope s_Council___init__, [], []⟩
abbrev dd__law_digits : He5.DefA := ⟨fun K => fAd K ("_law_digits", none), "_law_digits", "_law_digits", defArgs s__law_digits, defBody s__law_digits, defScope s__law_digits, [], []⟩
abbrev dd__law_voters : He5.DefA := ⟨fun K => fAd K ("_law_voters", none), "_law_voters", "_law_voters", defArgs s__law_voters, defBody s__law_voters, defScope s__law_voters, [], []⟩
abbrev dd__law_words : He5.DefA := ⟨fun K => fAd K ("_law_words", none), "_law_words", "_law_words", defArgs s__law_words, defBody s__law_words, defScope s__law_words, [], []⟩
abbrev dd__law_homes : He5.DefA := ⟨fun K => fAd K ("_law_homes", none), "_law_homes", "_law_homes", defArgs s__law_homes, defBody s__law_homes, defScope s__law_homes, [], []⟩
abbrev dd__law_cell : He5.DefA := ⟨fun K => fAd K ("_law_cell", none), "_law_cell", "_law_cell", defArgs s__law_cell, defBody s__law_cell, defScope s__law_cell, [], []⟩
abbrev dd__law_number : He5.DefA := ⟨fun K => fAd K ("_law_number", none), "_law_number", "_law_number", defArgs s__law_number, defBody s__law_number, defScope s__law_number, [], []⟩
abbrev dd__law_table : He5.DefA := ⟨fun K => fAd K ("_law_table", none), "_law_table", "_law_table", defArgs s__law_table, defBody s__law_table, defScope s__law_table, [], []⟩
abbrev dd__law_line_council : He5.DefA := ⟨fun K => fAd K ("_law_line_council", none), "_law_line_council", "_law_line_council", defArgs s__law_line_council, defBody s__law_line_council, defScope s__law_line_council, [], []⟩
abbrev dd__law_dot : He5.DefA := ⟨fun K => fAd K ("_law_dot", none), "_law_dot", "_law_dot", defArgs s__law_dot, defBody s__law_dot, defScope s__law_dot, [], []⟩
abbrev dd__law_value : He5.DefA := ⟨fun K => fAd K ("_law_value", none), "_law_value", "_law_value", defArgs s__law_value, defBody s__law_value, defScope s__law_value, [], []⟩
abbrev dd_dot : He5.DefA := ⟨fun K => fAd K ("dot", none), "dot", "dot", defArgs s_dot, defBody s_dot, defScope s_dot, [], []⟩
abbrev dd_ranked : He5.DefA := ⟨fun K => fAd K ("ranked", none), "ranked", "ranked", defArgs s_ranked, defBody s_ranked, defScope s_ranked, [], []⟩
abbrev dd_word : He5.DefA := ⟨fun K => fAd K ("word", none), "word", "word", defArgs s_word, defBody s_word, defScope s_word, [], []⟩
abbrev dd_ends_of : He5.DefA := ⟨fun K => fAd K ("ends_of", none), "ends_of", "ends_of", defArgs s_ends_of, defBody s_ends_of, defScope s_ends_of, [], []⟩
abbrev dd_compare : He5.DefA := ⟨fun K => fAd K ("compare", none), "compare", "compare", defArgs s_compare, defBody s_compare, defScope s_compare, [], []⟩
abbrev dd_ratio : He5.DefA := ⟨fun K => fAd K ("ratio", none), "ratio", "ratio", defArgs s_ratio, defBody s_ratio, defScope s_ratio, [], []⟩
abbrev dd_minus : He5.DefA := ⟨fun K => fAd K ("minus", none), "minus", "minus", defArgs s_minus, defBody s_minus, defScope s_minus, [], []⟩
abbrev dd_mirrored : He5.DefA := ⟨fun K => fAd K ("mirrored", none), "mirrored", "mirrored", defArgs s_mirrored, defBody s_mirrored, defScope s_mirrored, [], []⟩
abbrev dd_floor_of : He5.DefA := ⟨fun K => fAd K ("floor_of", none), "floor_of", "floor_of", defArgs s_floor_of, defBody s_floor_of, defScope s_floor_of, [], []⟩
abbrev dd_over : He5.DefA := ⟨fun K => fAd K ("over", none), "over", "over", defArgs s_over, defBody s_over, defScope s_over, [], []⟩
abbrev dd_rounds_to : He5.DefA := ⟨fun K => fAd K ("rounds_to", none), "rounds_to", "rounds_to", defArgs s_rounds_to, defBody s_rounds_to, defScope s_rounds_to, [], []⟩
abbrev dd_fewest_rising : He5.DefA := ⟨fun K => fAd K ("fewest_rising", none), "fewest_rising", "fewest_rising", defArgs s_fewest_rising, defBody s_fewest_rising, defScope s_fewest_rising, [], []⟩
abbrev dd_flipped : He5.DefA := ⟨fun K => fAd K ("flipped", none), "flipped", "flipped", defArgs s_flipped, defBody s_flipped, defScope s_flipped, [], []⟩
abbrev dd_fewest_between : He5.DefA := ⟨fun K => fAd K ("fewest_between", none), "fewest_between", "fewest_between", defArgs s_fewest_between, defBody s_fewest_between, defScope s_fewest_between, [], []⟩
abbrev dd_fewest_on_line : He5.DefA := ⟨fun K => fAd K ("fewest_on_line", none), "fewest_on_line", "fewest_on_line", defArgs s_fewest_on_line, defBody s_fewest_on_line, defScope s_fewest_on_line, [], []⟩
abbrev dd__law_wrong : He5.DefA := ⟨fun K => fAd K ("_law_wrong", none), "_law_wrong", "_law_wrong", defArgs s__law_wrong, defBody s__law_wrong, defScope s__law_wrong, [], []⟩
abbrev dd_smaller_wins : He5.DefA := ⟨fun K => fAd K ("smaller_wins", none), "smaller_wins", "smaller_wins", defArgs s_smaller_wins, defBody s_smaller_wins, defScope s_smaller_wins, [], []⟩
abbrev dd_winning_book : He5.DefA := ⟨fun K => fAd K ("winning_book", none), "winning_book", "winning_book", defArgs s_winning_book, defBody s_winning_book, defScope s_winning_book, [], []⟩
abbrev dd_lot_order : He5.DefA := ⟨fun K => fAd K ("lot_order", none), "lot_order", "lot_order", defArgs s_lot_order, defBody s_lot_order, defScope s_lot_order, [], []⟩
abbrev dd_lot_of : He5.DefA := ⟨fun K => fAd K ("lot_of", none), "lot_of", "lot_of", defArgs s_lot_of, defBody s_lot_of, defScope s_lot_of, [], []⟩
abbrev dd_least_lots : He5.DefA := ⟨fun K => fAd K ("least_lots", none), "least_lots", "least_lots", defArgs s_least_lots, defBody s_least_lots, defScope s_least_lots, [], []⟩
abbrev dd_lot_number : He5.DefA := ⟨fun K => fAd K ("lot_number", none), "lot_number", "lot_number", defArgs s_lot_number, defBody s_lot_number, defScope s_lot_number, [], []⟩
abbrev dd_is_lot : He5.DefA := ⟨fun K => fAd K ("is_lot", none), "is_lot", "is_lot", defArgs s_is_lot, defBody s_is_lot, defScope s_is_lot, [], []⟩
abbrev dd_Rule___init__ : He5.DefA := ⟨fun K => fAd K ("Rule", some "__init__"), "__init__", "Rule.__init__", defArgs s_Rule___init__, defBody s_Rule___init__, defScope s_Rule___init__, [], []⟩
abbrev dd_Rule___or__ : He5.DefA := ⟨fun K => fAd K ("Rule", some "__or__"), "__or__", "Rule.__or__", defArgs s_Rule___or__, defBody s_Rule___or__, defScope s_Rule___or__, [], []⟩
abbrev dd_sums_of : He5.DefA := ⟨fun K => fAd K ("sums_of", none), "sums_of", "sums_of", defArgs s_sums_of, defBody s_sums_of, defScope s_sums_of, [], []⟩
abbrev dd_Rule_weighted : He5.DefA := ⟨fun K => He5.wf K (ga K "Rule") "staticmethod" "weighted", "weighted", "Rule.weighted", defArgs s_Rule_weighted, defBody s_Rule_weighted, defScope s_Rule_weighted, [], []⟩
abbrev dd_Rule___invert__ : He5.DefA := ⟨fun K => fAd K ("Rule", some "__invert__"), "__invert__", "Rule.__invert__", defArgs s_Rule___invert__, defBody s_Rule___invert__, defScope s_Rule___invert__, [], []⟩
abbrev dd_Rule___and__ : He5.DefA := ⟨fun K => fAd K ("Rule", some "__and__"), "__and__", "Rule.__and__", defArgs s_Rule___and__, defBody s_Rule___and__, defScope s_Rule___and__, [], []⟩
abbrev dd__law_rule : He5.DefA := ⟨fun K => fAd K ("_law_rule", none), "_law_rule", "_law_rule", defArgs s__law_rule, defBody s__law_rule, defScope s__law_rule, [], []⟩
abbrev dd__law_gcd : He5.DefA := ⟨fun K => fAd K ("_law_gcd", none), "_law_gcd", "_law_gcd", defArgs s__law_gcd, defBody s__law_gcd, defScope s__law_gcd, [], []⟩
abbrev dd__law_reduced : He5.DefA := ⟨fun K => fAd K ("_law_reduced", none), "_law_reduced", "_law_reduced", defArgs s__law_reduced, defBody s__law_reduced, defScope s__law_reduced, [], []⟩
abbrev dd__law_motion : He5.DefA := ⟨fun K => fAd K ("_law_motion", none), "_law_motion", "_law_motion", defArgs s__law_motion, defBody s__law_motion, defScope s__law_motion, [], []⟩
abbrev dd__law_fraction : He5.DefA := ⟨fun K => fAd K ("_law_fraction", none), "_law_fraction", "_law_fraction", defArgs s__law_fraction, defBody s__law_fraction, defScope s__law_fraction, [], []⟩
abbrev dd__law_plus : He5.DefA := ⟨fun K => fAd K ("_law_plus", none), "_law_plus", "_law_plus", defArgs s__law_plus, defBody s__law_plus, defScope s__law_plus, [], []⟩
abbrev dd__law_mirror : He5.DefA := ⟨fun K => fAd K ("_law_mirror", none), "_law_mirror", "_law_mirror", defArgs s__law_mirror, defBody s__law_mirror, defScope s__law_mirror, [], []⟩
abbrev dd__law_sign : He5.DefA := ⟨fun K => fAd K ("_law_sign", none), "_law_sign", "_law_sign", defArgs s__law_sign, defBody s__law_sign, defScope s__law_sign, [], []⟩
abbrev dd__law_line_votes : He5.DefA := ⟨fun K => fAd K ("_law_line_votes", none), "_law_line_votes", "_law_line_votes", defArgs s__law_line_votes, defBody s__law_line_votes, defScope s__law_line_votes, [], []⟩
abbrev dd__law_far : He5.DefA := ⟨fun K => fAd K ("_law_far", none), "_law_far", "_law_far", defArgs s__law_far, defBody s__law_far, defScope s__law_far, [], []⟩
abbrev dd__law_whole : He5.DefA := ⟨fun K => fAd K ("_law_whole", none), "_law_whole", "_law_whole", defArgs s__law_whole, defBody s__law_whole, defScope s__law_whole, [], []⟩
abbrev dd__law_way : He5.DefA := ⟨fun K => fAd K ("_law_way", none), "_law_way", "_law_way", defArgs s__law_way, defBody s__law_way, defScope s__law_way, [], []⟩
abbrev dd__law_nearer : He5.DefA := ⟨fun K => fAd K ("_law_nearer", none), "_law_nearer", "_law_nearer", defArgs s__law_nearer, defBody s__law_nearer, defScope s__law_nearer, [], []⟩
abbrev dd__law_lot : He5.DefA := ⟨fun K => fAd K ("_law_lot", none), "_law_lot", "_law_lot", defArgs s__law_lot, defBody s__law_lot, defScope s__law_lot, [], []⟩
abbrev dd__law_asked : He5.DefA := ⟨fun K => fAd K ("_law_asked", none), "_law_asked", "_law_asked", defArgs s__law_asked, defBody s__law_asked, defScope s__law_asked, [], []⟩
abbrev dd__law_world : He5.DefA := ⟨fun K => fAd K ("_law_world", none), "_law_world", "_law_world", defArgs s__law_world, defBody s__law_world, defScope s__law_world, [], []⟩
abbrev dd_law : He5.DefA := ⟨fun K => fAd K ("law", none), "law", "law", defArgs s_law, defBody s_law, defScope s_law, [], []⟩
def fn : List He5.DefA := [di_WrongDimension, dd_is_home, dd_Council___init__, dd__law_digits, dd__law_voters, dd__law_words, dd__law_homes, dd__law_cell, dd__law_number, dd__law_table, dd__law_line_council, dd__law_dot, dd__law_value, dd_dot, dd_ranked, dd_word, dd_ends_of, dd_compare, dd_ratio, dd_minus, dd_mirrored, dd_floor_of, dd_over, dd_rounds_to, dd_fewest_rising, dd_flipped, dd_fewest_between, dd_fewest_on_line, dd__law_wrong, dd_smaller_wins, dd_winning_book, dd_lot_order, dd_lot_of, dd_least_lots, dd_lot_number, dd_is_lot, dd_Rule___init__, dd_Rule___or__, dd_sums_of, dd_Rule_weighted, dd_Rule___invert__, dd_Rule___and__, dd__law_rule, dd__law_gcd, dd__law_reduced, dd__law_motion, dd__law_fraction, dd__law_plus, dd__law_mirror, dd__law_sign, dd__law_line_votes, dd__law_far, dd__law_whole, dd__law_way, dd__law_nearer, dd__law_lot, dd__law_asked, dd__law_world, dd_law]
def fa : List He.Fa := [.free "len", .free "range", .free "int", .free "tuple", .free "sum", .free "max", .free "any", .free "list", .free "sorted", .free "min", .free "isinstance", .free "abs", .free "bool", .int "LIMIT" 60, .cls "Council", .noat "Council" "many", .cls "Rule", .noat "Rule" "many", .noat "Council" "homes", .noat "Council" "rule", .noat "Council" "dimension", .noat "Rule" "book", .noat "Rule" "least", .glo "CalmError", .glo "WrongDimension", .meth "WrongDimension" "__init__", .exm "WrongDimension" "CalmError" true, .glo "is_home", .glo "_law_digits", .glo "_law_voters", .glo "_law_words", .glo "_law_homes", .glo "_law_cell", .glo "_law_number", .glo "_law_table", .glo "_law_line_council", .glo "_law_dot", .glo "_law_value", .glo "dot", .glo "ranked", .glo "word", .glo "ends_of", .glo "compare", .glo "ratio", .glo "minus", .glo "mirrored", .glo "floor_of", .glo "over", .glo "rounds_to", .glo "fewest_rising", .glo "flipped", .glo "fewest_between", .glo "fewest_on_line", .glo "_law_wrong", .glo "smaller_wins", .glo "winning_book", .glo "lot_order", .glo "lot_of", .glo "least_lots", .glo "lot_number", .glo "is_lot", .glo "sums_of", .glo "_law_rule", .glo "_law_gcd", .glo "_law_reduced", .glo "_law_motion", .glo "_law_fraction", .glo "_law_plus", .glo "_law_mirror", .glo "_law_sign", .glo "_law_line_votes", .glo "_law_far", .glo "_law_whole", .glo "_law_way", .glo "_law_nearer", .glo "_law_lot", .glo "_law_asked", .glo "_law_world", .glo "law", .mkr "Council", .glo "Council", .mkr "Rule", .glo "Rule", .meth "Rule" "__or__", .meth "Rule" "__invert__", .meth "Rule" "__and__"]
def ex (K : PySem.W.Frag) : Bool := gblB K "gcd" "math.gcd" && (oexB K (ga K "WrongDimension") && (fnB K (He.ma K (ga K "WrongDimension") "__init__") && (fldB K (ga K "WrongDimension") "dimension" && (xfB K (ga K "WrongDimension") && (excB K (ga K "WrongDimension") && (kitB K (ga K "WrongDimension") (ga K "WrongDimension") true && (firstB K (ga K "Rule") && (He5.wrapB K (ga K "Rule") "staticmethod" "staticmethod.__get__" "weighted" && (creadB K (ga K "Rule"))))))))))

def lo0 : List PySem.Str := ["_wall", "CalmError", "ZeroBottom", "NoLots", "BadLot", "BadQuota", "BadHome", "WrongDimension", "ManyDiffer", "dot", "ratio", "minus", "over", "compare", "floor_of", "ranked", "word", "ends_of", "mirrored", "rounds_to", "fewest_rising", "flipped", "fewest_between", "fewest_on_line", "LIMIT", "is_home", "Council", "lot_number", "lot_of", "lot_order"]
def lo1 : List PySem.Str := ["is_lot", "smaller_wins", "winning_book", "least_lots", "sums_of", "Rule", "_law_whole", "_law_cell", "_law_digits", "_law_gcd", "_law_reduced", "_law_fraction", "_law_sign", "_law_dot", "_law_way", "_law_nearer", "_law_lot", "_law_number", "_law_voters", "_law_words", "_law_table", "_law_rule", "_law_homes", "_law_motion", "_law_value", "_law_plus", "_law_mirror", "_law_line_votes", "_law_line_council", "_law_wrong"]
def lo2 : List PySem.Str := ["_law_asked", "_law_far", "_law_world"]
def lo : List PySem.Str := lo0 ++ lo1 ++ lo2
def cl (K : PySem.W.Frag) : Nat → Addr
  | 0 => ga K "CalmError"
  | 1 => ga K "ZeroBottom"
  | 4 => ga K "NoLots"
  | 11 => ga K "BadLot"
  | 12 => ga K "BadQuota"
  | 13 => ga K "BadHome"
  | 14 => ga K "WrongDimension"
  | 26 => ga K "ManyDiffer"
  | 41 => ga K "Council"
  | 40 => ga K "Rule"
  | _ => 0
abbrev R : PySem.W.OpenRow := PySem.W.OpenLaw.row PySem.Challenge.rw_calmspot_k87_fewest_on_a_line
abbrev hk : PySem.W.Hook := hookZ 5 fa fn ex
def ob (s : PySem.W.SharedT) : AlZ := obsZ 5 fa fn ex (HandSHeadRun.getT s)
theorem ob_eq (s : PySem.W.SharedT) : ob s = hk.obs s.abs := obsZ_eq (HandSHeadRun.getT_eq s)
abbrev vw : Program := PySem.W.view R.prog [0, 72]
theorem run (w : World) : HandSHeadRun.RunEqI R vw hk ob 40000 lo w := by
  unfold HandSHeadRun.RunEqI
  kernel_rfl
end L2.DL.MM
/-! (a, b, ..) = a list of that length -/
namespace L2.DL
open PySem PyProof.Rows PySem.Spec
section
variable {prog : Program} {w : World} {A :
      Around} {E : Value → Shared → Prop} {s : Shared}
theorem draw_lst {it t : Addr} {items : Array Value} (hne : t ≠ it) : ∀ (n i : Nat) (s : Shared) (Q : List Value → Shared → Prop), s.heap.IsListIter it t i → s.heap.IsList t items → i + n ≤ items.size →
    (∀ h' : Heap, h'.IsListIter it t (i + n) → Heap.SameBut it s.heap h' → Q ((items.toList.drop i).take n) { s with heap := h' }) → wpAny (model prog w) A (draw (.ref it) n) Q E s
  | 0, i, s, Q, hit,
        _, _, hQ => by
    show wpAny _ _
          (pure []) Q E s
    (exact wpAny_pure (by simpa using hQ s.heap hit (Heap.SameBut.refl ..)))
  | n + 1, i, s, Q, hit,
        ht, hle, hQ => by
    have hlt : i <
          items.size := by omega
    show wpAny _ _ (pyNext
          (.ref it) >>= _) Q E s
    refine wpAny_bind (wpAny_pyNext_list_item hit ht (x := items[i]) (by simp [hlt]) fun h₁ hit₁ hs₁ => ?_)
    refine wpAny_bind (wpAny_holding (draw_lst hne n (i + 1) _ _ hit₁ (ht.extBut hs₁.extBut hne) (by omega) fun h₂ hit₂ hs₂ => wpAny_pure ?_))
    have hd : items.toList.drop i = items[i] :: items.toList.drop
          (i + 1) := by simp [List.drop_eq_getElem_cons, hlt]
    have := hQ h₂ (by rw [show i + (n + 1) = i +
          1 + n by omega]; exact hit₂) (hs₁.trans hs₂)
    (rw [hd, List.take_succ_cons] at this)
    exact this
theorem unpackItems_lst {t : Addr} {items : Array Value} {Q : List Value → Shared → Prop} (hh : A.handled = none) (ht : s.heap.IsList t items)
    (hQ : ∀ h', Heap.ExtBut s.heap.objs.size s.heap h' → Q items.toList { s with heap :=
          h' }) : wpAny (model prog w) A (unpackItems (.ref t) items.size none) Q E s := by
  have hlt : t ≠ s.heap.objs.size := by
    obtain ⟨ob, gob, _⟩ := ht
    exact Nat.ne_of_lt (Heap.lt_size gob)
  unfold unpackItems
  refine wpAny_bind ?_
  · unfold notIterableAtAll
    refine wpAny_bind (wpAny_specialOf ht.typeIs slot_list_iter.lookup ?_)
    refine wpAny_pure ?_
    (simp only [Bool.false_eq_true, if_false])
    refine wpAny_bind (wpAny_holding (wpAny_pyIter_list ht ?_))
    refine wpAny_bind (wpAny_holding (draw_lst hlt items.size 0 _ _ ⟨_, Heap.get?_push_size _ rfl, rfl, rfl⟩ (ht.push _) (by omega) fun h₁ hit₁ hs₁ => ?_))
    have hall : List.take items.size (List.drop
          0 items.toList) = items.toList := by
      (rw [List.drop_zero]; exact List.take_of_length_le (by simp))
    rw [hall]
    rw [if_neg (by simp)]
    have ht₁ : h₁.IsList t items := (ht.push _).extBut hs₁.extBut hlt
    refine wpAny_bind (wpAny_holding (wpAny_pyNext_list_end hh hit₁ ht₁ (by simp) fun h₂ he₂ => ?_))
    (simp only [Option.isSome_none, Bool.false_eq_true, if_false])
    (refine wpAny_pure (hQ h₂ fun b o hb e => he₂ b o hb (hs₁.extBut b o hb (Heap.get?_push_of_some _ e))))
theorem assign_Tuple_lst {env : Env} {elts : List Expr} {x1} {pos : Pos} {t : Addr} {items : Array Value} {Q : Unit → Shared → Prop} (hh : A.handled = none) (ht : s.heap.IsList t items)
    (hn : (assignEach elts env).length = items.size)
          (hstar : (assignEach elts env).findIdx? (·.1) = none)
    (h : ∀ h', Heap.ExtBut s.heap.objs.size s.heap h' → wpAny (model prog w) A (assignInOrder
          ((assignEach elts env).map (·.2)) items.toList) Q E { s with heap := h' }) :
    wpAny (model prog w) A (assign (.Tuple
          elts x1 pos) env (.ref t)) Q E s := by
  (rw [PyProof.Rows.assign_Tuple])
  (refine wpAny_bind (wpAny_standAt ?_))
  unfold unpack
  rw [hn, hstar]
  exact wpAny_bind (wpAny_holding (unpackItems_lst hh ht h))
end
section
variable {X : Cx} {G : GC} {vs : List Nat}
def gLst (K : PySem.W.Frag) (n : Nat) (t : TGs) : TG := fun v σ H
      Q => ∃ a xs, v = .ref a ∧ SqL K H a xs ∧ xs.length = n ∧ t xs σ H Q
theorem pg_lst {es : List Expr} {k : Nat} {t : TGs}
      {n : Nat} (hc : X.calm = true) (h : PGs X es t)
    (hn : (assignEach es X.env).length = n := by rfl) (hst : (assignEach es
          X.env).findIdx? (·.1) = none := by rfl) : PG X (.Tuple es k pos) (gLst X.K n t) := by
  (refine ⟨fun pins s σ H v u Q I r hw => ?_⟩)
  (obtain ⟨a, xs, e1, hq, hl, hw⟩ := hw)
  subst e1
  cases r
  obtain ⟨its, rv, ⟨o, nn, ho, hcl, _, hd⟩, hz⟩ := I.list hq
  refine assign_Tuple_lst (I.ok.hd hc) ⟨o, ho, hcl, nn, hd⟩ (by simp [hn, ← hl, rv.length]) hst fun h' hx => ?_
  have I1 : Inv X pins σ H { s with heap := h' } := I.kept (t' :=
        s.toks) fun b o e => hx b o (Nat.ne_of_lt (Heap.lt_size e)) e
  (exact h.run pins _ σ H xs _ Q I1 (by simpa using rv) hw)
/-- unpacking a list -/
def gU (n : Nat) (gs : MGs) : MG := fun d ρ => match d with
  | .lst xs => if xs.length = n then gs xs ρ else none
  | _ => none
theorem dg_lst {es : List Expr} {k n : Nat} {gs : MGs} (hc : X.calm = true) (h : DGs X G vs es gs) (hn : (assignEach es X.env).length = n := by rfl) (hst : (assignEach es X.env).findIdx? (·.1) = none := by rfl) : DG X G vs (.Tuple es k pos) (gU n gs) :=
  pg_weak (pg_lst hc h hn hst) fun v σ H Q ⟨S, ρ, x, ρ', re, r, e, q⟩ => by
    cases r with
    | @lst a vs' ds s1 r1 =>
      simp only [gU] at e
      split at e
      · rename_i hl
        exact ⟨a, vs', rfl, same_sqL re.sub (SqL.of s1), by rw [r1.length]; exact hl, S, ρ, ds, ρ', re, r1, e, q⟩
      · cases e
    | _ => cases e
end
end L2.DL
/-! the mirrors' own laws -/
namespace L2.DL
open PySem PyProof.Rows PySem.Spec
theorem beq_dec {α : Type} [BEq α] [LawfulBEq α] [DecidableEq α] (a b : α) : (a == b) = decide (a = b) := by
  by_cases h : a = b
  · subst h; simp
  · simp [h]
/-- range(j) -/
theorem rg_nat {n : Nat} (h : n ≤ 1000000000) : ((n : Int).natAbs < 4611686018427387904) = True := by
  rw [Int.natAbs_natCast]
  exact eq_true (by omega)
section
variable {α β : Type} {a b : ME} {as : MA} {c c2 : MT} {s s2 : MS} {ρ : List Sl} {d x y : D} {xs : List D} {g : MG}
@[simp] theorem bind_ok (q : α) (f : α → Res β) : (Res.ok q).bind f = f q := rfl
@[simp] theorem bind_ex (k : Nat) (fs : List (Str × D)) (f : α → Res β) : (Res.ex k fs).bind f = .ex k fs := rfl
@[simp] theorem bind_stuck (f : α → Res β) : (Res.stuck : Res α).bind f = .stuck := rfl
@[simp] theorem lift_some (q : α) : lift (some q) = .ok q := rfl
@[simp] theorem nox_ok1 (q : α) : nox (.ok q) = .ok q := rfl
@[simp] theorem ev_V (i : Nat) (h : ρ[i]? = some (.d d)) : eV i ρ = .ok d := by unfold eV; rw [h]
@[simp] theorem ev_C : eC d ρ = .ok d := rfl
@[simp] theorem ev_Op (o : D → D → Option D) : eOp o a b ρ = (a ρ).bind fun x => (b ρ).bind fun y => lift (o x y) := rfl
@[simp] theorem ev_Un (o : D → Option D) : eUn o a ρ = (a ρ).bind fun x => lift (o x) := rfl
@[simp] theorem ev_Nil : aNil ρ = .ok [] := rfl
@[simp] theorem ev_Cons : aCons a as ρ = (a ρ).bind fun x => (as ρ).bind fun xs => .ok (x :: xs) := rfl
@[simp] theorem ev_Fn (o : List D → Option D) : eFn o as ρ = (as ρ).bind fun xs => lift (o xs) := rfl
@[simp] theorem ev_Call (f : List D → Res D) : eCall f as ρ = (as ρ).bind f := rfl
@[simp] theorem ev_CallN (f : List D → Res D) : eCallN f as ρ = (as ρ).bind fun xs => nox (f xs) := rfl
@[simp] theorem ev_Ms (o : Str → List D → Option D) : eMs o a as ρ = (a ρ).bind fun x => (match x with
  | .str z => (as ρ).bind fun xs => lift (o z xs)
  | _ => .stuck) := by
  unfold eMs
  rfl
@[simp] theorem ev_E : cE a ρ = (a ρ).bind fun x => lift (toB x) := rfl
@[simp] theorem ev_And : cAnd c c2 ρ = (c ρ).bind fun x => if x = true then c2 ρ else .ok false := rfl
@[simp] theorem ev_Or : cOr c c2 ρ = (c ρ).bind fun x => if x = true then .ok true else c2 ρ := rfl
@[simp] theorem ev_Not : cNot c ρ = (c ρ).bind fun x => .ok (!x) := rfl
@[simp] theorem ev_Yes : cYes ρ = .ok true := rfl
@[simp] theorem ev_If : eIf c a b ρ = (c ρ).bind fun x => if x = true then a ρ else b ρ := rfl
@[simp] theorem ev_eAnd : eAnd a b ρ = (a ρ).bind fun x => (lift (toB x)).bind fun k => if k = true then b ρ else .ok (.bl false) := rfl
@[simp] theorem ev_eOr : eOr a b ρ = (a ρ).bind fun x => (lift (toB x)).bind fun k => if k = true then .ok (.bl true) else b ρ := rfl
@[simp] theorem ev_eNot : eNot a ρ = (a ρ).bind fun x => (lift (toB x)).bind fun k => .ok (.bl (!k)) := rfl
@[simp] theorem ev_pNo : pNo ρ = .ok none := rfl
@[simp] theorem ev_pE : pE a ρ = (a ρ).bind fun d => (match d with
  | .int i => .ok (some i)
  | _ => .stuck) := rfl
@[simp] theorem ev_Cut (lo hi : MO) : eCut a lo hi ρ = (a ρ).bind fun d => (lo ρ).bind fun l => (hi ρ).bind fun u => lift (oCut d l u) := rfl
@[simp] theorem sv_Nx : sNx ρ = .ok (.nx ρ) := rfl
@[simp] theorem sv_Bk : sBk ρ = .ok (.bk ρ) := rfl
@[simp] theorem sv_Ct : sCt ρ = .ok (.ct ρ) := rfl
@[simp] theorem sv_Seq : sSeq s s2 ρ = (s ρ).bind fun o => (match o with
  | .nx ρ' => s2 ρ'
  | o => .ok o) := rfl
@[simp] theorem sv_If : sIf c s s2 ρ = (c ρ).bind fun x => if x = true then s ρ else s2 ρ := rfl
@[simp] theorem sv_Ret : sRet a ρ = (a ρ).bind fun d => .ok (.rt d) := rfl
@[simp] theorem sv_Ex : sEx a ρ = (a ρ).bind fun _ => .ok (.nx ρ) := rfl
@[simp] theorem sv_Asg : sAsg a g ρ = (a ρ).bind fun d => (lift (g d ρ)).bind fun ρ' => .ok (.nx ρ') := rfl
@[simp] theorem gv_N (i : Nat) : gN i d ρ = some (ρ.set i (.d d)) := rfl
@[simp] theorem gv_Nil : gsNil [] ρ = some ρ := rfl
@[simp] theorem gv_Cons (h : MG) (hs : MGs) : gsCons h hs (d :: xs) ρ = (h d ρ).bind fun ρ1 => hs xs ρ1 := rfl
@[simp] theorem gv_T (n : Nat) (hs : MGs) : gT n hs (.tup xs) ρ = if xs.length = n then hs xs ρ else none := rfl
@[simp] theorem sv_For (src : MI) : sFor src g s ρ = (src ρ).bind fun ds => forL g s ds ρ := rfl
@[simp] theorem sv_While (f : List Sl → Nat) : sWhile f c s ρ = whileL c s (f ρ) ρ := rfl
@[simp] theorem sv_NewL (i : Nat) : sNewL i as ρ = (as ρ).bind fun xs => if i < ρ.length ∧ xs.length ≤ sizeLine then .ok (.nx (ρ.set i (.bl xs))) else .stuck := rfl
@[simp] theorem sv_FrzL (i : Nat) (h : ρ[i]? = some (.bl xs)) : sFrz i s ρ = s (ρ.set i (.d (.lst xs))) := by unfold sFrz; rw [h]
@[simp] theorem sv_App (i : Nat) (h : ρ[i]? = some (.bl xs)) : sApp i a ρ = (a ρ).bind fun x => if xs.length < sizeLine then .ok (.nx (ρ.set i (.bl (xs ++ [x])))) else .stuck := by unfold sApp; rw [h]
@[simp] theorem ev_Lc (src : MI) (vs : List Nat) : eLc src vs g c a ρ = (src ρ).bind fun ds => if ds.length ≤ sizeLine then (compL g c a (wipeD ρ vs) ds).bind fun r => .ok (.lst r) else .stuck := rfl
@[simp] theorem ev_LcX (src : MI) (vs : List Nat) : eLcX src vs g a ρ = (src ρ).bind fun ds => if ds.length ≤ sizeLine then (compLX g a (wipeD ρ vs) ds).bind fun r => .ok (.lst r) else .stuck := rfl
@[simp] theorem iv_Sq : iSq a ρ = (a ρ).bind fun d => lift (itemsD d) := rfl
@[simp] theorem iv_R1 : iR1 as ρ = (as ρ).bind fun xs => (match xs with
  | [.int j] => if j.natAbs < 4611686018427387904 then .ok (rangeD 0 j.toNat) else .stuck
  | _ => .stuck) := by
  unfold iR1
  rfl
@[simp] theorem sv_Raise (k : Nat) (fl : List Str) : sRaise k fl as ρ = (as ρ).bind fun xs => if xs.length = fl.length then .ex k ((fl.zip xs).reverse) else .stuck := rfl
@[simp] theorem it_lst : itemsD (.lst xs) = some xs := rfl
@[simp] theorem it_ro : itemsD (.ro xs) = some xs := rfl
@[simp] theorem it_tup : itemsD (.tup xs) = some xs := rfl
@[simp] theorem it_str (z : Str) : itemsD (.str z) = some (signsD z) := rfl
@[simp] theorem tb_bl (k : Bool) : toB (.bl k) = some k := rfl
@[simp] theorem wi_nil : wipeD ρ [] = ρ := rfl
@[simp] theorem wi_cons (i : Nat) (is : List Nat) : wipeD ρ (i :: is) = (wipeD ρ is).set i .no := rfl
-- operations
variable {i j : Int} {z w : Str} {ys : List D}
@[simp] theorem o_add : oAdd (.int i) (.int j) = some (.int (i + j)) := rfl
@[simp] theorem o_adds (h : z.length + w.length ≤ sizeLine) : oAdd (.str z) (.str w) = some (.str (z ++ w)) := if_pos h
@[simp] theorem o_addl (h : xs.length + ys.length ≤ sizeLine) : oAdd (.lst xs) (.lst ys) = some (.lst (xs ++ ys)) := if_pos h
@[simp] theorem o_addt (h : xs.length + ys.length ≤ sizeLine) : oAdd (.tup xs) (.tup ys) = some (.tup (xs ++ ys)) := if_pos h
@[simp] theorem o_sub : oSub (.int i) (.int j) = some (.int (i - j)) := rfl
@[simp] theorem o_mul (h : CMulW i j) : oMul (.int i) (.int j) = some (.int (i * j)) := if_pos h
@[simp] theorem o_mull (h0 : 0 ≤ j) (h1 : j < 1000000) (h2 : xs.length * j.toNat ≤ 1000000) : oMul (.lst xs) (.int j) = some (.lst (repD j xs)) := if_pos ⟨h0, h1, h2⟩
@[simp] theorem o_fdiv (h : j ≠ 0) (h2 : j.natAbs.log2 < 9000) : oFdiv (.int i) (.int j) = some (.int (i.fdiv j)) := if_pos ⟨h, h2⟩
@[simp] theorem o_mod (h : j ≠ 0) : oMod (.int i) (.int j) = some (.int (i.fmod j)) := if_pos h
@[simp] theorem o_neg : oNeg (.int i) = some (.int (-i)) := rfl
@[simp] theorem o_lt : oLt (.int i) (.int j) = some (.bl (decide (i < j))) := rfl
@[simp] theorem o_le : oLe (.int i) (.int j) = some (.bl (decide (i ≤ j))) := rfl
@[simp] theorem o_gt : oGt (.int i) (.int j) = some (.bl (decide (j < i))) := rfl
@[simp] theorem o_ge : oGe (.int i) (.int j) = some (.bl (decide (j ≤ i))) := rfl
@[simp] theorem o_tup (h : xs.length ≤ sizeLine) : oTup xs = some (.tup xs) := if_pos h
@[simp] theorem o_lst (h : xs.length ≤ sizeLine) : oLst xs = some (.lst xs) := if_pos h
@[simp] theorem f_lenL : fLen [.lst xs] = some (.int xs.length) := rfl
@[simp] theorem f_lenR : fLen [.ro xs] = some (.int xs.length) := rfl
@[simp] theorem f_lenT : fLen [.tup xs] = some (.int xs.length) := rfl
@[simp] theorem f_lenS (h : z.length ≤ sizeLine) : fLen [.str z] = some (.int z.length) := if_pos h
@[simp] theorem f_abs : fAbs [.int i] = some (.int i.natAbs) := rfl
@[simp] theorem f_intI : fInt [.int i] = some (.int i) := rfl
@[simp] theorem f_intS (h : z.length ≤ 640) : fInt [.str z] = (PySem.intText? z).map .int := if_pos h
@[simp] theorem f_str (h : i.natAbs.log2 < 1920) : fStr [.int i] = some (.str (toString i)) := if_pos h
@[simp] theorem f_tupL : fTup [.lst xs] = some (.tup xs) := rfl
@[simp] theorem f_tupT : fTup [.tup xs] = some (.tup xs) := rfl
@[simp] theorem f_gcd : fGcd [.int i, .int j] = some (.int ((Nat.gcd i.natAbs j.natAbs : Nat) : Int)) := rfl
@[simp] theorem f_any (bs : List Bool) (h : blsD xs = some bs) : fAny [.lst xs] = some (.bl (bs.any id)) := by show (blsD xs).map _ = _; rw [h]; rfl
@[simp] theorem f_all (bs : List Bool) (h : blsD xs = some bs) : fAll [.lst xs] = some (.bl (bs.all id)) := by show (blsD xs).map _ = _; rw [h]; rfl
@[simp] theorem x_lst : oIx (.lst xs) (.int i) = atI xs i := rfl
@[simp] theorem x_ro : oIx (.ro xs) (.int i) = atI xs i := rfl
@[simp] theorem x_tup : oIx (.tup xs) (.int i) = atI xs i := rfl
theorem blsD_map (bs : List Bool) : blsD (bs.map D.bl) = some bs := by
  induction bs with
  | nil => rfl
  | cons k bs ih => show (blsD (bs.map D.bl)).map _ = _; rw [ih]; rfl
-- ==
@[simp] theorem q_int : oEq (.int i) (.int j) = some (.bl (decide (i = j))) := by
  unfold oEq eqD
  simp only [D.dep, D.py, PyData.eqv, and_self, if_true, beq_dec]
@[simp] theorem q_str : oEq (.str z) (.str w) = some (.bl (decide (z = w))) := by
  unfold oEq eqD
  simp only [D.dep, D.py, PyData.eqv, and_self, if_true, beq_dec]
@[simp] theorem n_int : oNe (.int i) (.int j) = some (.bl (!decide (i = j))) := by
  unfold oNe eqD
  simp only [D.dep, D.py, PyData.eqv, and_self, if_true, beq_dec]
@[simp] theorem n_str : oNe (.str z) (.str w) = some (.bl (!decide (z = w))) := by
  unfold oNe eqD
  simp only [D.dep, D.py, PyData.eqv, and_self, if_true, beq_dec]
theorem eqD_refl (h : x.dep 30 = true) : eqD x x = true   := PySem.SeqAt.eqv_refl_plain _ (D.py_plain 30 x h).1
theorem q_refl (h : x.dep 30 = true) : oEq x x = some (.bl true) := by
  unfold oEq
  rw [if_pos ⟨h, h⟩, eqD_refl h]
theorem n_refl (h : x.dep 30 = true) : oNe x x = some (.bl false) := by
  unfold oNe
  rw [if_pos ⟨h, h⟩, eqD_refl h]
  rfl
theorem eqD_str : eqD (.str z) (.str w) = decide (z = w) := by
  unfold eqD
  simp only [D.py, PyData.eqv, beq_dec]
@[simp] theorem q_tup2 {k l : Int} : oEq (.tup [.int i, .int j]) (.tup [.int k, .int l]) = some (.bl (decide (i = k) && decide (j = l))) := by
  unfold oEq eqD
  simp only [D.dep, D.py, PyData.eqv, PyData.eqvAll, List.all_cons, List.all_nil, List.map_cons, List.map_nil, Bool.and_true, and_self, if_true, beq_dec]
theorem any_strs (l : List Str) : (l.map D.str).any (fun y => eqD y (.str z)) = decide (z ∈ l) := by
  induction l with
  | nil => rfl
  | cons a l ih =>
    rw [List.map_cons, List.any_cons, ih, eqD_str]
    by_cases h : a = z
    · subst h; simp
    · simp [h, Ne.symm h]
theorem dep_strs (l : List Str) (n : Nat) : (l.map D.str).all (D.dep n) = true := by
  induction l with
  | nil => rfl
  | cons a l ih => rw [List.map_cons, List.all_cons, ih]; cases n <;> rfl
theorem dep_ints (l : List Int) (n : Nat) : (l.map D.int).all (D.dep n) = true := by
  induction l with
  | nil => rfl
  | cons a l ih => rw [List.map_cons, List.all_cons, ih]; cases n <;> rfl
theorem in_tupS (l : List Str) : inB (.str z) (.tup (l.map D.str)) = some (decide (z ∈ l)) := by
  show (if _ ∧ _ then _ else _) = _
  rw [if_pos ⟨rfl, dep_strs l 29⟩, any_strs]
theorem in_lstS (l : List Str) : inB (.str z) (.lst (l.map D.str)) = some (decide (z ∈ l)) := by
  show (if _ ∧ _ then _ else _) = _
  rw [if_pos ⟨rfl, dep_strs l 29⟩, any_strs]
@[simp] theorem in_sign (q : Nat) : inB (.str ⟨#[q]⟩) (.str w) = some (decide (q ∈ w.cps.toList)) := rfl
-- subscripts
theorem atI_nat {xs : List α} {k : Nat} (h : k < xs.length) : atI xs (k : Int) = xs[k]? := by
  unfold atI ixN
  (rw [if_pos (by omega), if_pos (by omega)])
  rfl
@[simp] theorem at0 {q : α} {qs : List α} : atI (q :: qs) 0 = some q := atI_nat (k := 0) (by simp)
@[simp] theorem at1 {q q1 : α} {qs : List α} : atI (q :: q1 :: qs) 1 = some q1 := atI_nat (k := 1) (by simp)
@[simp] theorem at2 {q q1 q2 : α} {qs : List α} : atI (q :: q1 :: q2 :: qs) 2 = some q2 := atI_nat (k := 2) (by simp)
@[simp] theorem at3 {q q1 q2 q3 : α} {qs : List α} : atI (q :: q1 :: q2 :: q3 :: qs) 3 = some q3 := atI_nat (k := 3) (by simp)
theorem atI_last {xs : List α} {q : α} : atI (xs ++ [q]) (-1) = some q := by
  unfold atI ixN
  rw [if_neg (by omega), if_pos (by simp only [List.length_append, List.length_singleton]; omega)]
  have e : ((-1 : Int) + ((xs ++ [q]).length : Nat)).toNat = xs.length := by simp only [List.length_append, List.length_singleton]; omega
  rw [e]
  simp
end
/-! ### loops, comprehensions -/
section
variable {g : MG} {body : MS} {c : MT} {te : ME} {ρ : List Sl} {ds : List D}
/-- a loop that runs to its end: I tells what holds before the rest -/
theorem forL_inv (I : List D → List Sl → Prop) (h : ∀ d r ρ, I (d :: r) ρ → ∃ ρ1, g d ρ = some ρ1 ∧ ∃ ρ2, (body ρ1 = .ok (.nx ρ2) ∨ body ρ1 = .ok (.ct ρ2)) ∧ I r ρ2) : ∀ (ds : List D) (ρ : List Sl), I ds ρ → ∃ ρ', forL g body ds ρ = .ok (.nx ρ') ∧ I [] ρ'
  | [], ρ, hi => ⟨ρ, rfl, hi⟩
  | d :: ds, ρ, hi => by
    obtain ⟨ρ1, h1, ρ2, h2, h3⟩ := h d ds ρ hi
    obtain ⟨ρ', e, hn⟩ := forL_inv I h ds ρ2 h3
    refine ⟨ρ', ?_, hn⟩
    rw [forL, h1]
    rcases h2 with h2 | h2 <;> · simp only [lift_some, bind_ok, h2]; exact e
/-- a loop that ends at the first d that fails p, by return r -/
theorem forL_all (I : List Sl → Prop) (p : D → Bool) (r : D) (h : ∀ d ρ, I ρ → ∃ ρ1, g d ρ = some ρ1 ∧ (p d = true → ∃ ρ2, body ρ1 = .ok (.nx ρ2) ∧ I ρ2) ∧ (p d = false → body ρ1 = .ok (.rt r))) : ∀ (ds : List D) (ρ : List Sl), I ρ →
    (ds.all p = true → ∃ ρ', forL g body ds ρ = .ok (.nx ρ') ∧ I ρ') ∧ (ds.all p = false → forL g body ds ρ = .ok (.rt r))
  | [], ρ, hi => ⟨fun _ => ⟨ρ, rfl, hi⟩, fun h => by cases h⟩
  | d :: ds, ρ, hi => by
    obtain ⟨ρ1, h1, h2, h3⟩ := h d ρ hi
    rw [List.all_cons, forL, h1]
    simp only [lift_some, bind_ok]
    cases q : p d with
    | true =>
      obtain ⟨ρ2, e2, i2⟩ := h2 q
      rw [e2]
      simp only [bind_ok, Bool.true_and]
      exact forL_all I p r h ds ρ2 i2
    | false =>
      rw [h3 q]
      exact ⟨fun z => by simp at z, fun _ => rfl⟩
/-- .. what holds of the loop's own items -/
theorem forL_allM (I : List Sl → Prop) (p : D → Bool) (r : D) : ∀ (ds : List D), (∀ d ∈ ds, ∀ ρ, I ρ → ∃ ρ1, g d ρ = some ρ1 ∧ (p d = true → ∃ ρ2, body ρ1 = .ok (.nx ρ2) ∧ I ρ2) ∧ (p d = false → body ρ1 = .ok (.rt r))) → ∀ (ρ : List Sl), I ρ →
    (ds.all p = true → ∃ ρ', forL g body ds ρ = .ok (.nx ρ') ∧ I ρ') ∧ (ds.all p = false → forL g body ds ρ = .ok (.rt r))
  | [], _, ρ, hi => ⟨fun _ => ⟨ρ, rfl, hi⟩, fun h => by cases h⟩
  | d :: ds, h, ρ, hi => by
    obtain ⟨ρ1, h1, h2, h3⟩ := h d (by simp) ρ hi
    rw [List.all_cons, forL, h1]
    simp only [lift_some, bind_ok]
    cases q : p d with
    | true =>
      obtain ⟨ρ2, e2, i2⟩ := h2 q
      rw [e2]
      simp only [bind_ok, Bool.true_and]
      exact forL_allM I p r ds (fun d hd => h d (by simp [hd])) ρ2 i2
    | false =>
      rw [h3 q]
      exact ⟨fun z => by simp at z, fun _ => rfl⟩
theorem compL_map (f : D → D) : ∀ (ds : List D), (∀ d ∈ ds, ∃ ρ1, g d ρ = some ρ1 ∧ te ρ1 = .ok (f d)) → compL g cYes te ρ ds = .ok (ds.map f)
  | [], _ => rfl
  | d :: ds, h => by
    obtain ⟨ρ1, h1, h2⟩ := h d (by simp)
    rw [compL, h1]
    simp only [lift_some, bind_ok, ev_Yes, nox_ok1, if_true, h2, compL_map f ds fun d hd => h d (by simp [hd]), List.map_cons]
/-- .. whose items are told by a law -/
theorem compL_some (P : D → D → Prop) : ∀ (ds : List D), (∀ d ∈ ds, ∃ ρ1 x, g d ρ = some ρ1 ∧ te ρ1 = .ok x ∧ P d x) → ∃ xs, compL g cYes te ρ ds = .ok xs ∧ xs.length = ds.length ∧ ∀ x ∈ xs, ∃ d ∈ ds, P d x
  | [], _ => ⟨[], rfl, rfl, by simp⟩
  | d :: ds, h => by
    obtain ⟨ρ1, x, h1, h2, h3⟩ := h d (by simp)
    obtain ⟨xs, e, hl, hx⟩ := compL_some P ds fun d hd => h d (by simp [hd])
    refine ⟨x :: xs, ?_, by simp [hl], ?_⟩
    · rw [compL, h1]
      simp only [lift_some, bind_ok, ev_Yes, nox_ok1, if_true, h2, e]
    · intro y hy
      (rcases List.mem_cons.mp hy with rfl | hy)
      · exact ⟨d, by simp, h3⟩
      · obtain ⟨d', hd, p⟩ := hx y hy
        exact ⟨d', by simp [hd], p⟩
end
end L2.DL
/-! what mirrors come to: a calculus; numbers -/
namespace L2.DL
open PySem PyProof.Rows PySem.Spec
/-! ### sizes -/
/-- a number of at most 400 figures -/
def sm (i : Int) : Prop := i.natAbs < 10 ^ 400
theorem log2_of {n k : Nat} (h : n < 2 ^ k) (hk : 0 < k) : n.log2 < k := by
  by_cases h0 : n = 0
  · subst h0; simpa using hk
  · (exact (Nat.log2_lt h0).mpr h)
theorem sm.log {i : Int} (h : sm i) : i.natAbs.log2 < 1329 := log2_of (Nat.lt_of_lt_of_le h (by decide +kernel)) (by decide)
theorem sm.fd {i : Int} (h : sm i) : i.natAbs.log2 < 9000 := Nat.lt_trans h.log (by decide)
theorem sm.st {i : Int} (h : sm i) : i.natAbs.log2 < 1920 := Nat.lt_trans h.log (by decide)
theorem sm.mu {i j : Int} (h : sm i) (k : sm j) : CMulW i j := by
  have a := h.log
  have b := k.log
  show _ < 1000000
  omega
theorem sm_of {i : Int} {n : Nat} (h : i.natAbs ≤ n) (hn : n < 10 ^ 400) : sm i := Nat.lt_of_le_of_lt h hn
theorem sml {i : Int} (h : i.natAbs ≤ 1000000000000000000000000000000) : sm i := Nat.lt_of_le_of_lt h (by decide +kernel)
theorem size_ge : 1000000 ≤ sizeLine := by decide
theorem size_big : 1000000 ≤ sizeLine := size_ge
/-! ### what comes of it -/
def Ev {α : Type} (r : Res α) (P : α → Prop) : Prop := match r with
  | .ok a => P a
  | _ => False
section
variable {α β γ : Type} {r : Res α} {P : α → Prop} {Q : β → Prop} {f : α → Res β}
@[simp] theorem Ev_ok (a : α) : Ev (.ok a) P = P a := rfl
theorem Ev.bind (h : Ev r P) (k : ∀ a, P a → Ev (f a) Q) : Ev (r.bind f) Q := by
  cases r with
  | ok a => exact k a h
  | ex _ _ => exact h.elim
  | stuck => exact h.elim
theorem Ev.imp {P' : α → Prop} (h : Ev r P) (k : ∀ a, P a → P' a) : Ev r P' := by
  cases r with
  | ok a => exact k a h
  | ex _ _ => exact h.elim
  | stuck => exact h.elim
theorem Ev.get (h : Ev r P) : ∃ a, r = .ok a ∧ P a := by
  cases r with
  | ok a => exact ⟨a, rfl, h⟩
  | ex _ _ => exact h.elim
  | stuck => exact h.elim
theorem Ev.of {a : α} (h : r = .ok a) (p : P a) : Ev r P := by rw [h]; exact p
theorem Ev.eq {a : α} (h : Ev r (fun x => x = a)) : r = .ok a := by
  obtain ⟨b, e, rfl⟩ := h.get
  exact e
theorem Ev.nox (h : Ev r P) : Ev (nox r) P := by
  cases r with
  | ok a => exact h
  | ex _ _ => exact h.elim
  | stuck => exact h.elim
end
/-! ### loops -/
section
variable {α β : Type} {g : MG} {body : MS} {c : MT} {te : ME} {ρ : List Sl} {K : O → Res D} {Q : D → Prop}
/-- a loop, behind what is done: I; T: what it may return; B: at a break -/
theorem ev_for' (enc : α → D) (xs : List α) (I : List α → List Sl → Prop) (T : D → Prop) (B : List Sl → Prop)
    (h : ∀ p x q ρ, xs = p ++ x :: q → I p ρ → ∃ ρ1, g (enc x) ρ = some ρ1 ∧ Ev (body ρ1) fun o => match o with
      | .nx ρ2 => I (p ++ [x]) ρ2
      | .ct ρ2 => I (p ++ [x]) ρ2
      | .rt d => T d
      | .bk ρ2 => B ρ2) : ∀ (q p : List α) (ρ : List Sl), xs = p ++ q → I p ρ → Ev (forL g body (q.map enc) ρ) fun o => match o with
      | .nx ρ' => I xs ρ' ∨ B ρ'
      | .rt d => T d
      | _ => False
  | [], p, ρ, e, hi => by
    rw [List.append_nil] at e
    subst e
    exact .inl hi
  | x :: q, p, ρ, e, hi => by
    obtain ⟨ρ1, h1, h2⟩ := h p x q ρ e hi
    rw [List.map_cons, forL, h1]
    simp only [lift_some, bind_ok]
    refine Ev.bind h2 fun o ho => ?_
    cases o with
    | nx ρ2 => exact ev_for' enc xs I T B h q (p ++ [x]) ρ2 (by rw [e]; simp) ho
    | ct ρ2 => exact ev_for' enc xs I T B h q (p ++ [x]) ρ2 (by rw [e]; simp) ho
    | rt d => exact ho
    | bk ρ2 => exact .inr ho
/-- a loop that runs to its end -/
theorem ev_for (enc : α → D) (xs : List α) (I : List α → List Sl → Prop)
    (h : ∀ p x q ρ, xs = p ++ x :: q → I p ρ → ∃ ρ1, g (enc x) ρ = some ρ1 ∧ Ev (body ρ1) fun o => match o with
      | .nx ρ2 => I (p ++ [x]) ρ2
      | .ct ρ2 => I (p ++ [x]) ρ2
      | _ => False) (h0 : I [] ρ) : Ev (forL g body (xs.map enc) ρ) fun o => ∃ ρ', o = .nx ρ' ∧ I xs ρ' := by
  refine (ev_for' enc xs I (fun _ => False) (fun _ => False) (fun p x q ρ e hi => ?_) xs [] ρ rfl h0).imp fun o ho => ?_
  · obtain ⟨ρ1, a, b⟩ := h p x q ρ e hi
    refine ⟨ρ1, a, b.imp fun o ho => ?_⟩
    cases o <;> exact ho
  · cases o with
    | nx ρ' => exact ⟨ρ', rfl, ho.elim id False.elim⟩
    | _ => exact ho.elim
/-- a loop that may return -/
theorem ev_forT (enc : α → D) (xs : List α) (I : List α → List Sl → Prop) (T : D → Prop)
    (h : ∀ p x q ρ, xs = p ++ x :: q → I p ρ → ∃ ρ1, g (enc x) ρ = some ρ1 ∧ Ev (body ρ1) fun o => match o with
      | .nx ρ2 => I (p ++ [x]) ρ2
      | .ct ρ2 => I (p ++ [x]) ρ2
      | .rt d => T d
      | _ => False) (h0 : I [] ρ) : Ev (forL g body (xs.map enc) ρ) fun o => (∃ ρ', o = .nx ρ' ∧ I xs ρ') ∨ ∃ d, o = .rt d ∧ T d := by
  refine (ev_for' enc xs I T (fun _ => False) (fun p x q ρ e hi => ?_) xs [] ρ rfl h0).imp fun o ho => ?_
  · obtain ⟨ρ1, a, b⟩ := h p x q ρ e hi
    refine ⟨ρ1, a, b.imp fun o ho => ?_⟩
    cases o <;> exact ho
  · cases o with
    | nx ρ' => exact .inl ⟨ρ', rfl, ho.elim id False.elim⟩
    | rt d => exact .inr ⟨d, rfl, ho⟩
    | _ => exact ho.elim
/-- a while: I m, m turns at most are left; J at its end; T: what it may return -/
theorem ev_while (I : Nat → List Sl → Prop) (J : List Sl → Prop) (T : D → Prop)
    (h : ∀ m ρ, I m ρ → Ev (c ρ) fun b => if b = true then Ev (body ρ) fun o => match o with
      | .nx ρ2 => ∃ m', m' < m ∧ I m' ρ2
      | .ct ρ2 => ∃ m', m' < m ∧ I m' ρ2
      | .rt d => T d
      | .bk ρ2 => J ρ2 else J ρ) : ∀ (n m : Nat) (ρ : List Sl), m < n → I m ρ → Ev (whileL c body n ρ) fun o => (∃ ρ', o = .nx ρ' ∧ J ρ') ∨ ∃ d, o = .rt d ∧ T d
  | 0, m, ρ, hm, _ => absurd hm (Nat.not_lt_zero _)
  | n + 1, m, ρ, hm, hi => by
    rw [whileL]
    refine Ev.bind (h m ρ hi) fun b hb => ?_
    cases b with
    | false => exact .inl ⟨ρ, rfl, hb⟩
    | true =>
      rw [if_pos rfl] at hb ⊢
      refine Ev.bind hb fun o ho => ?_
      cases o with
      | nx ρ2 => obtain ⟨m', h1, h2⟩ := ho; exact ev_while I J T h n m' ρ2 (by omega) h2
      | ct ρ2 => obtain ⟨m', h1, h2⟩ := ho; exact ev_while I J T h n m' ρ2 (by omega) h2
      | rt d => exact .inr ⟨d, rfl, ho⟩
      | bk ρ2 => exact .inl ⟨ρ2, rfl, ho⟩
/-! ### comprehensions -/
theorem lc_map (enc : α → D) (f : α → D) : ∀ (xs : List α), (∀ x ∈ xs, ∃ ρ1, g (enc x) ρ = some ρ1 ∧ te ρ1 = .ok (f x)) → compL g cYes te ρ (xs.map enc) = .ok (xs.map f)
  | [], _ => rfl
  | x :: xs, h => by
    obtain ⟨ρ1, h1, h2⟩ := h x (by simp)
    rw [List.map_cons, compL, h1]
    simp only [lift_some, bind_ok, ev_Yes, nox_ok1, if_true, h2, lc_map enc f xs fun d hd => h d (by simp [hd]), List.map_cons]
theorem lc_filter (enc : α → D) (p : α → Bool) (f : α → D) : ∀ (xs : List α), (∀ x ∈ xs, ∃ ρ1, g (enc x) ρ = some ρ1 ∧ c ρ1 = .ok (p x) ∧ (p x = true → te ρ1 = .ok (f x))) → compL g c te ρ (xs.map enc) = .ok ((xs.filter p).map f)
  | [], _ => rfl
  | x :: xs, h => by
    obtain ⟨ρ1, h1, h2, h3⟩ := h x (by simp)
    have ih := lc_filter enc p f xs fun d hd => h d (by simp [hd])
    rw [List.map_cons, compL, h1]
    simp only [lift_some, bind_ok, nox_ok1, h2]
    cases q : p x with
    | true =>
      rw [if_pos rfl, h3 q, ih]
      simp [q]
    | false =>
      rw [if_neg Bool.false_ne_true, ih]
      simp [q]
/-- place by place -/
inductive All2 {α β : Type} (P : α → β → Prop) : List α → List β → Prop
  | nil : All2 P [] []
  | cons {a : α} {b : β} {as : List α} {bs : List β} : P a b → All2 P as bs → All2 P (a :: as) (b :: bs)
theorem All2.len {P : α → β → Prop} : ∀ {as : List α} {bs : List β}, All2 P as bs → bs.length = as.length
  | _, _, .nil => rfl
  | _, _, .cons _ h => by simp [h.len]
theorem All2.mem {P : α → β → Prop} : ∀ {as : List α} {bs : List β}, All2 P as bs → ∀ b ∈ bs, ∃ a ∈ as, P a b
  | _, _, .nil, b, h => by simp at h
  | _, _, .cons h1 h2, b, h => by
    (rcases List.mem_cons.mp h with rfl | h)
    · exact ⟨_, by simp, h1⟩
    · obtain ⟨a, ha, p⟩ := h2.mem b h
      exact ⟨a, by simp [ha], p⟩
theorem All2.at {P : α → β → Prop} : ∀ {as : List α} {bs : List β} {i : Nat} {a : α}, All2 P as bs → as[i]? = some a → ∃ b, bs[i]? = some b ∧ P a b
  | _, _, i, a, .nil, h => by simp at h
  | _, _, 0, a, .cons h1 _, h => by simp at h; subst h; exact ⟨_, rfl, h1⟩
  | _, _, i + 1, a, .cons _ h2, h => by
    rw [List.getElem?_cons_succ] at h
    obtain ⟨b, e, p⟩ := h2.at h
    exact ⟨b, by rw [List.getElem?_cons_succ]; exact e, p⟩
theorem lc_ev (enc : α → D) (enc2 : β → D) (P : α → β → Prop) : ∀ (xs : List α), (∀ x ∈ xs, ∃ ρ1, g (enc x) ρ = some ρ1 ∧ Ev (te ρ1) fun d => ∃ y, d = enc2 y ∧ P x y) → Ev (compL g cYes te ρ (xs.map enc)) fun ds => ∃ ys : List β, ds = ys.map enc2 ∧ All2 P xs ys
  | [], _ => ⟨[], rfl, .nil⟩
  | x :: xs, h => by
    obtain ⟨ρ1, h1, h2⟩ := h x (by simp)
    obtain ⟨d, e, y, rfl, p⟩ := h2.get
    obtain ⟨ds, e2, ys, rfl, a⟩ := (lc_ev enc enc2 P xs fun d hd => h d (by simp [hd])).get
    refine Ev.of (a := (y :: ys).map enc2) ?_ ⟨y :: ys, rfl, .cons p a⟩
    rw [List.map_cons, compL, h1]
    simp only [lift_some, bind_ok, ev_Yes, nox_ok1, if_true, e, e2, List.map_cons]
end
/-! ### ranges -/
def nat (k : Nat) : D := .int (k : Int)
theorem range0 (n : Nat) : rangeD 0 n = (List.range n).map nat := by
  unfold rangeD nat
  simp
theorem rangeN (a n : Nat) : rangeD (a : Int) n = (List.range' a n).map nat := by
  unfold rangeD nat
  rw [List.range'_eq_map_range, List.map_map]
  apply List.map_congr_left
  intro k _
  simp
theorem rg1 {n : Nat} (h : n ≤ 1000000000) {as : MA} {ρ : List Sl} (e : as ρ = .ok [.int (n : Int)]) : iR1 as ρ = .ok ((List.range n).map nat) := by
  rw [iv_R1, e]
  simp only [bind_ok]
  rw [if_pos (by rw [Int.natAbs_natCast]; omega), Int.toNat_natCast, range0]
theorem rg2 {a b : Nat} (ha : a ≤ 1000000000) (h : b ≤ 1000000000) {as : MA} {ρ : List Sl} (e : as ρ = .ok [.int (a : Int), .int (b : Int)]) : iR2 as ρ = .ok ((List.range' a (b - a)).map nat) := by
  unfold iR2
  rw [e]
  simp only [bind_ok]
  rw [if_pos ⟨by rw [Int.natAbs_natCast]; omega, by rw [Int.natAbs_natCast]; omega⟩, show ((b : Int) - (a : Int)).toNat = b - a by omega, rangeN]
/-! ### bits -/
theorem o_shl1 {k : Nat} (h : k ≤ 1000) : oShl (.int 1) (.int (k : Int)) = some (.int ((2 ^ k : Nat) : Int)) := by
  show (if CPow 1 (k : Int) then some (D.int (1 * 2 ^ (k : Int).toNat)) else none) = _
  rw [if_pos (show CPow 1 (k : Int) from ⟨by omega, by omega, by decide⟩), Int.toNat_natCast]
  simp
theorem o_shrN (n k : Nat) : oShr (.int (n : Int)) (.int (k : Int)) = some (.int ((n / 2 ^ k : Nat) : Int)) := by
  show (if 0 ≤ (k : Int) then some (D.int ((n : Int) / 2 ^ (k : Int).toNat)) else none) = _
  (rw [if_pos (by omega), Int.toNat_natCast])
  simp
theorem o_bandN (a b : Nat) : oBand (.int (a : Int)) (.int (b : Int)) = some (.int ((a &&& b : Nat) : Int)) := by
  show some (D.int (Builtin.bitAnd (a : Int) (b : Int))) = _
  rw [PySem.W.os_band]
theorem bit_at (n k : Nat) : ((n / 2 ^ k) &&& 1 = 1) ↔ n.testBit k = true := by
  rw [Nat.testBit_eq_decide_div_mod_eq, Nat.and_one_is_mod]
  simp
theorem fmod_in (i : Int) {k : Int} (hk : 0 < k) : 0 ≤ i.fmod k ∧ i.fmod k < k := ⟨Int.fmod_nonneg_of_pos _ hk, Int.fmod_lt_of_pos _ hk⟩
/-- an item by its number -/
theorem ix_nat {xs : List D} {k : Nat} {d : D} (h : xs[k]? = some d) : oIx (.lst xs) (.int (k : Int)) = some d ∧ oIx (.tup xs) (.int (k : Int)) = some d := by
  have hk : k < xs.length := (List.getElem?_eq_some_iff.mp h).1
  have e : atI xs (k : Int) = some d := by rw [atI_nat hk]; exact h
  exact ⟨e, e⟩
theorem ixL {xs : List D} {k : Nat} {d : D} (h : xs[k]? = some d) : oIx (.lst xs) (.int (k : Int)) = some d := (ix_nat h).1
theorem ixT {xs : List D} {k : Nat} {d : D} (h : xs[k]? = some d) : oIx (.tup xs) (.int (k : Int)) = some d := (ix_nat h).2
/-- .. by an int -/
theorem ixLI {xs : List D} {i : Int} {d : D} (h0 : 0 ≤ i) (h : xs[i.toNat]? = some d) : oIx (.lst xs) (.int i) = some d := by
  have e : ((i.toNat : Nat) : Int)
        = i := Int.toNat_of_nonneg h0
  rw [← e]
  exact ixL h
theorem ixTI {xs : List D} {i : Int} {d : D} (h0 : 0 ≤ i) (h : xs[i.toNat]? = some d) : oIx (.tup xs) (.int i) = some d := by
  have e : ((i.toNat : Nat) : Int)
        = i := Int.toNat_of_nonneg h0
  rw [← e]
  exact ixT h
/-- tuples, lists of ints -/
abbrev tupI (ns : List Int) : D := .tup (ns.map D.int)
abbrev lstI (ns : List Int) : D := .lst (ns.map D.int)
theorem intsD_map (ns : List Int) : intsD (ns.map D.int) = some ns := by
  induction ns with
  | nil => rfl
  | cons n ns ih => show (intsD (ns.map D.int)).map _ = _; rw [ih]; rfl
@[simp] theorem f_sumT (ns : List Int) : fSum [.tup (ns.map D.int)] = some (.int ns.sum) := by
  show (intsD (ns.map D.int)).map _ = _
  rw [intsD_map]
  rfl
@[simp] theorem f_sum (ns : List Int) : fSum [.lst (ns.map D.int)] = some (.int ns.sum) := by
  show (intsD (ns.map D.int)).map _ = _
  rw [intsD_map]
  rfl
end L2.DL
/-! lots as numbers: plain facts -/
namespace L2.DL
open PySem PyProof.Rows PySem.Spec
/-- every voter of m is in n -/
def Sub2 (m n : Nat) : Prop := ∀ i, m.testBit i = true → n.testBit i = true
theorem sub_iff (m n : Nat) : m &&& n = m ↔ Sub2 m n := by
  constructor
  · intro h i hi
    have : (m &&& n).testBit i = true := by rw [h]; exact hi
    rw [Nat.testBit_and] at this
    exact (Bool.and_eq_true_iff.mp this).2
  · intro h
    apply Nat.eq_of_testBit_eq
    intro i
    rw [Nat.testBit_and]
    cases q : m.testBit i with
    | false => rfl
    | true => rw [h i q]; rfl
theorem Sub2.refl (n : Nat) : Sub2 n n := fun _ h => h
theorem Sub2.trans {a b c : Nat} (h : Sub2 a b) (k : Sub2 b c) : Sub2 a c := fun i x => k i (h i x)
theorem bit_lt {n k v : Nat} (h : n < 2 ^ k) (hb : n.testBit v = true) : v < k := by
  by_cases hv : v < k
  · exact hv
  · have : n < 2 ^ v := Nat.lt_of_lt_of_le h (Nat.pow_le_pow_right (by decide) (by omega))
    rw [Nat.testBit_lt_two_pow this] at hb
    cases hb
theorem bit_ge {n v : Nat} (hb : n.testBit v = true) : 2 ^ v ≤ n := Nat.ge_two_pow_of_testBit hb
/-- one voter less -/
theorem less_bit : ∀ (v n : Nat), n.testBit v = true → ∀ i, (n - 2 ^ v).testBit i = (n.testBit i && decide (i ≠ v))
  | 0, n, h, i => by
    have ho : n % 2 = 1 := by simpa [Nat.testBit_zero] using h
    cases i with
    | zero =>
      simp only [Nat.pow_zero, Nat.testBit_zero, ne_eq, not_true_eq_false, decide_false, Bool.and_false, decide_eq_false_iff_not]
      omega
    | succ i =>
      rw [Nat.pow_zero, Nat.testBit_succ, Nat.testBit_succ, show (n - 1) / 2 = n / 2 by omega]
      simp
  | v + 1, n, h, i => by
    rw [Nat.testBit_succ] at h
    have ge := bit_ge h
    have e : 2 ^ (v + 1) = 2 * 2 ^ v := by rw [Nat.pow_succ, Nat.mul_comm]
    cases i with
    | zero =>
      rw [Nat.testBit_zero, Nat.testBit_zero, e, show (n - 2 * 2 ^ v) % 2 = n % 2 by omega]
      simp
    | succ i =>
      rw [Nat.testBit_succ, Nat.testBit_succ, e, show (n - 2 * 2 ^ v) / 2 = n / 2 - 2 ^ v by omega, less_bit v (n / 2) h i]
      simp
theorem less_sub {n v : Nat} (h : n.testBit v = true) : Sub2 (n - 2 ^ v) n := fun i hi => by
  rw [less_bit v n h i] at hi
  exact (Bool.and_eq_true_iff.mp hi).1
theorem less_lt {n v : Nat} (h : n.testBit v = true) : n - 2 ^ v < n := by
  have := bit_ge h
  have : 0 < 2 ^ v := Nat.pow_pos (by decide)
  omega
theorem sub_less {m n v : Nat} (h : Sub2 m n) (hn : n.testBit v = true) (hm : m.testBit v = false) : Sub2 m (n - 2 ^ v) := fun i hi => by
  rw [less_bit v n hn i, h i hi]
  by_cases e : i = v
  · subst e; rw [hm] at hi; cases hi
  · simp [e]
theorem sub_or {m n : Nat} (h : Sub2 m n) : m = n ∨ ∃ v, n.testBit v = true ∧ m.testBit v = false := by
  by_cases e : ∃ v, n.testBit v = true ∧ m.testBit v = false
  · exact .inr e
  · refine .inl (Nat.eq_of_testBit_eq fun i => ?_)
    cases q : m.testBit i with
    | true => exact (h i q).symm
    | false =>
      cases q2 : n.testBit i with
      | false => rfl
      | true => exact absurd ⟨i, q2, q⟩ e
theorem sub_le {m n : Nat} (h : Sub2 m n) : m ≤ n := by
  have := (sub_iff m n).mpr h
  rw [← this]
  exact Nat.and_le_right
/-! ### books -/
/-- the lots that hold one of the told ones -/
def clos (ms : List Nat) (n : Nat) : Bool := ms.any fun m => decide (m &&& n = m)
theorem clos_iff {ms : List Nat} {n : Nat} : clos ms n = true ↔ ∃ m ∈ ms, Sub2 m n := by
  unfold clos
  rw [List.any_eq_true]
  constructor
  · rintro ⟨m, hm, h⟩; exact ⟨m, hm, (sub_iff m n).mp (of_decide_eq_true h)⟩
  · rintro ⟨m, hm, h⟩; exact ⟨m, hm, decide_eq_true ((sub_iff m n).mpr h)⟩
/-- a lot with one voter less wins -/
def sw (f : Nat → Bool) (many n : Nat) : Bool := (List.range many).any fun v => n.testBit v && f (n - 2 ^ v)
theorem sw_iff {f : Nat → Bool} {many n : Nat} : sw f many n = true ↔ ∃ v, v < many ∧ n.testBit v = true ∧ f (n - 2 ^ v) = true := by
  unfold sw
  rw [List.any_eq_true]
  constructor
  · rintro ⟨v, hv, h⟩
    exact ⟨v, List.mem_range.mp hv, Bool.and_eq_true_iff.mp h⟩
  · rintro ⟨v, hv, h⟩
    exact ⟨v, List.mem_range.mpr hv, Bool.and_eq_true_iff.mpr h⟩
theorem clos_step {ms : List Nat} {many n : Nat} (hn : n < 2 ^ many) : clos ms n = (decide (n ∈ ms) || sw (clos ms) many n) := by
  rw [Bool.eq_iff_iff, Bool.or_eq_true, decide_eq_true_eq, sw_iff, clos_iff]
  constructor
  · rintro ⟨m, hm, h⟩
    rcases sub_or h with rfl | ⟨v, h1, h2⟩
    · exact .inl hm
    · exact .inr ⟨v, bit_lt hn h1, h1, clos_iff.mpr ⟨m, hm, sub_less h h1 h2⟩⟩
  · rintro (h | ⟨v, _, h1, h2⟩)
    · exact ⟨n, h, .refl n⟩
    · obtain ⟨m, hm, h⟩ := clos_iff.mp h2
      exact ⟨m, hm, h.trans (less_sub h1)⟩
def minl (f : Nat → Bool) (many n : Nat) : Bool := f n && !sw f many n
def minls (f : Nat → Bool) (many : Nat) : List Nat := (List.range (2 ^ many)).filter (minl f many)
/-- a book by which greater lots win, too; the empty lot does not, the lot of all does -/
structure Book (many : Nat) (f : Nat → Bool) : Prop where
  mono : ∀ m n, m < 2 ^ many → n < 2 ^ many → Sub2 m n → f m = true → f n = true
  none : f 0 = false
  all : f (2 ^ many - 1) = true
theorem sub_all {many n : Nat} (h : n < 2 ^ many) : Sub2 n (2 ^ many - 1) := fun i hi => by
  have := bit_lt h hi
  rw [Nat.testBit_two_pow_sub_one]
  exact decide_eq_true this
theorem min_below {f : Nat → Bool} {many : Nat} : ∀ (n : Nat), n < 2 ^ many → f n = true → ∃ m ∈ minls f many, Sub2 m n := by
  intro n
  induction n using
        Nat.strongRecOn with
  | ind n ih =>
    intro hn hf
    cases q : sw f many n with
    | false => exact ⟨n, List.mem_filter.mpr ⟨List.mem_range.mpr hn, by unfold minl; rw [hf, q]; rfl⟩, .refl n⟩
    | true =>
      obtain ⟨v, _, h1, h2⟩ := sw_iff.mp q
      obtain ⟨m, hm, h⟩ := ih _ (less_lt h1) (Nat.lt_trans (less_lt h1) hn) h2
      exact ⟨m, hm, h.trans (less_sub h1)⟩
theorem minls_mem {f : Nat → Bool} {many m : Nat} : m ∈ minls f many ↔ m < 2 ^ many ∧ f m = true ∧ sw f many m = false := by
  unfold minls
  rw [List.mem_filter, List.mem_range]
  unfold minl
  (rw [Bool.and_eq_true, Bool.not_eq_true'])
theorem clos_min {f : Nat → Bool} {many : Nat} {ms : List Nat} (B : Book many f) (h : ∀ m, m ∈ ms ↔ m ∈ minls f many) {n : Nat} (hn : n < 2 ^ many) : clos ms n = f n := by
  rw [Bool.eq_iff_iff, clos_iff]
  constructor
  · rintro ⟨m, hm, hs⟩
    obtain ⟨h1, h2, _⟩ := minls_mem.mp ((h m).mp hm)
    exact B.mono m n h1 hn hs h2
  · intro hf
    obtain ⟨m, hm, hs⟩ := min_below n hn hf
    exact ⟨m, (h m).mpr hm, hs⟩
/-- told lots make a book -/
theorem clos_book {many : Nat} {ms : List Nat} (h0 : ms ≠ []) (h : ∀ m ∈ ms, 1 ≤ m ∧ m < 2 ^ many) : Book many (clos ms) := by
  refine ⟨fun m n _ _ hs hm => ?_, ?_, ?_⟩
  · obtain ⟨k, hk, h1⟩ := clos_iff.mp hm
    exact clos_iff.mpr ⟨k, hk, h1.trans hs⟩
  · cases q : clos ms 0 with
    | false => rfl
    | true =>
      obtain ⟨k, hk, h1⟩ := clos_iff.mp q
      have := sub_le h1
      have := (h k hk).1
      omega
  · cases ms with
    | nil => exact absurd rfl h0
    | cons m r => exact clos_iff.mpr ⟨m, by simp, sub_all (h m (by simp)).2⟩
theorem Book.pos {many : Nat} {f : Nat → Bool} (B : Book many f) {m : Nat} (h : f m = true) : 1 ≤ m := by
  cases m with
  | zero => rw [B.none] at h; cases h
  | succ m => omega
theorem Book.some {many : Nat} {f : Nat → Bool} (B : Book many f) : ∃ m, m ∈ minls f many := by
  have pp : 0 < 2 ^ many := Nat.pow_pos (by decide)
  obtain ⟨m, hm, _⟩ := min_below (f := f) (many := many) (2 ^ many - 1) (by omega) B.all
  exact ⟨m, hm⟩
theorem Book.and {many : Nat} {f g : Nat → Bool} (B : Book many f) (C : Book many g) : Book many (fun n => f n && g n) := by
  refine ⟨fun m n h1 h2 hs hm => ?_, by rw [B.none]; rfl, by rw [B.all, C.all]; rfl⟩
  obtain ⟨a, b⟩ := Bool.and_eq_true_iff.mp hm
  exact Bool.and_eq_true_iff.mpr ⟨B.mono m n h1 h2 hs a, C.mono m n h1 h2 hs b⟩
theorem Book.or {many : Nat} {f g : Nat → Bool} (B : Book many f) (C : Book many g) : Book many (fun n => f n || g n) := by
  refine ⟨fun m n h1 h2 hs hm => ?_, by rw [B.none, C.none]; rfl, by rw [B.all]; rfl⟩
  rcases (Bool.or_eq_true _ _).mp hm with a | a
  · exact (Bool.or_eq_true _ _).mpr (.inl (B.mono m n h1 h2 hs a))
  · exact (Bool.or_eq_true _ _).mpr (.inr (C.mono m n h1 h2 hs a))
/-- all the others -/
theorem comp_bit {many n : Nat} (h : n < 2 ^ many) (i : Nat) : (2 ^ many - 1 - n).testBit i = (decide (i < many) && !n.testBit i) := by
  have := Nat.testBit_two_pow_sub_succ h i
  rw [show 2 ^ many - 1 - n = 2 ^ many - (n + 1) by omega]
  exact this
theorem Book.opp {many : Nat} {f : Nat → Bool} (B : Book many f) : Book many (fun n => !f (2 ^ many - 1 - n)) := by
  have pp : 0 < 2 ^ many := Nat.pow_pos (by decide)
  refine ⟨fun m n h1 h2 hs hm => ?_, ?_, ?_⟩
  · cases q : f (2 ^ many - 1 - n) with
    | false => rfl
    | true =>
      have hs2 : Sub2 (2 ^ many - 1 - n) (2 ^ many - 1 - m) := fun i hi => by
        rw [comp_bit h2 i] at hi
        rw [comp_bit h1 i]
        obtain ⟨a, b⟩ := Bool.and_eq_true_iff.mp hi
        rw [a]
        cases q2 : m.testBit i with
        | false => rfl
        | true => rw [hs i q2] at b; cases b
      have := B.mono _ _ (by omega) (by omega) hs2 q
      rw [this] at hm
      cases hm
  · show (!f (2 ^ many - 1 - 0)) = false
    rw [Nat.sub_zero, B.all]; rfl
  · show (!f (2 ^ many - 1 - (2 ^ many - 1))) = true
    rw [Nat.sub_self, B.none]; rfl
theorem Book.congr {many : Nat} {f g : Nat → Bool} (B : Book many f) (h : ∀ n, n < 2 ^ many → g n = f n) : Book many g := by
  have pp : 0 < 2 ^ many := Nat.pow_pos (by decide)
  refine ⟨fun m n h1 h2 hs hm => ?_, by rw [h 0 (by omega)]; exact B.none, by rw [h _ (by omega)]; exact B.all⟩
  rw [h n h2]
  rw [h m h1] at hm
  exact B.mono m n h1 h2 hs hm
/-! ### weights -/
def sumN : List Int → Nat → Int
  | [], _ => 0
  | w :: ws, n => (if n.testBit 0 = true then w else 0) + sumN ws (n / 2)
theorem sumN_zero : ∀ ws : List Int, sumN ws 0 = 0
  | [] => rfl
  | w :: ws => by simp [sumN, sumN_zero ws]
theorem sumN_lo : ∀ (p : List Int) (x : Int) (n : Nat), n < 2 ^ p.length → sumN (p ++ [x]) n = sumN p n
  | [], x, n, h => by
    have : n = 0 := by simpa using h
    subst this
    simp [sumN]
  | w :: p, x, n, h => by
    rw [List.cons_append, sumN, sumN, sumN_lo p x (n / 2) (by rw [List.length_cons, Nat.pow_succ] at h; omega)]
theorem sumN_hi : ∀ (p : List Int) (x : Int) (n : Nat), n < 2 ^ p.length → sumN (p ++ [x]) (n + 2 ^ p.length) = sumN p n + x
  | [], x, n, h => by
    have : n = 0 := by simpa using h
    subst this
    simp [sumN]
  | w :: p, x, n, h => by
    have e : 2 ^ (w :: p).length = 2 * 2 ^ p.length := by rw [List.length_cons, Nat.pow_succ, Nat.mul_comm]
    have h' : n / 2 < 2 ^ p.length := by omega
    rw [List.cons_append, sumN, sumN, e, show (n + 2 * 2 ^ p.length) / 2 = n / 2 + 2 ^ p.length by omega, sumN_hi p x (n / 2) h', Nat.testBit_zero, Nat.testBit_zero, show (n + 2 * 2 ^ p.length) % 2 = n % 2 by omega, Int.add_assoc]
theorem sumN_mono : ∀ (ws : List Int), (∀ w ∈ ws, 0 ≤ w) → ∀ m n : Nat, Sub2 m n → sumN ws m ≤ sumN ws n
  | [], _, _, _, _ => Int.le_refl _
  | w :: ws, h, m, n, hs => by
    have ih := sumN_mono ws (fun x hx => h x (by simp [hx])) (m / 2) (n / 2) fun i hi => by
      rw [← Nat.testBit_succ] at hi ⊢
      exact hs (i + 1) hi
    have hw := h w (by simp)
    unfold sumN
    have h0 := hs 0
    cases q : m.testBit 0 with
    | true => rw [h0 q]; simpa using ih
    | false =>
      cases q2 : n.testBit 0 with
      | true => simp only [Bool.false_eq_true, if_false, if_true]; omega
      | false => simpa using ih
theorem sumN_all : ∀ ws : List Int, sumN ws (2 ^ ws.length - 1) = ws.sum
  | [] => rfl
  | w :: ws => by
    have pp : 0 < 2 ^ ws.length := Nat.pow_pos (by decide)
    have e : 2 ^ (w :: ws).length = 2 * 2 ^ ws.length := by rw [List.length_cons, Nat.pow_succ, Nat.mul_comm]
    rw [sumN, e, show (2 * 2 ^ ws.length - 1) / 2 = 2 ^ ws.length - 1 by omega, sumN_all ws, Nat.testBit_zero, show (2 * 2 ^ ws.length - 1) % 2 = 1 by omega]
    simp
theorem weight_book {ws : List Int} {q : Int} (h : ∀ w ∈ ws, 0 ≤ w) (h1 : 1 ≤ q) (h2 : q ≤ ws.sum) : Book ws.length (fun n => decide (q ≤ sumN ws n)) := by
  refine ⟨fun m n _ _ hs hm => ?_, ?_, ?_⟩
  · have a : q ≤ sumN ws m := of_decide_eq_true hm
    exact decide_eq_true (Int.le_trans a (sumN_mono ws h m n hs))
  · show decide (q ≤ sumN ws 0) = false
    rw [sumN_zero]
    (exact decide_eq_false (by omega))
  · show decide (q ≤ sumN ws (2 ^ ws.length - 1)) = true
    rw [sumN_all]
    exact decide_eq_true h2
/-- twice as many -/
theorem range_twice {α : Type} (f : Nat → α) (k : Nat) : (List.range (2 ^ (k + 1))).map f = (List.range (2 ^ k)).map f ++ (List.range (2 ^ k)).map fun n => f (n + 2 ^ k) := by
  rw [Nat.pow_succ, Nat.mul_two, List.range_add, List.map_append, List.map_map]
  congr 1
  apply List.map_congr_left
  intro n _
  show f (2 ^ k + n) = f (n + 2 ^ k)
  rw [Nat.add_comm]
/-! ### lots -/
def lotN (n many : Nat) : List Nat := (List.range many).filter fun v => n.testBit v
def lotD (l : List Nat) : D := .tup (l.map nat)
def numN (l : List Nat) : Nat := (l.map (2 ^ ·)).sum
theorem numN_lotN : ∀ (many n : Nat), n < 2 ^ many → numN (lotN n many) = n
  | 0, n, h => by
    have : n = 0 := by simpa using h
    subst this
    rfl
  | k + 1, n, h => by
    have ih := numN_lotN k (n % 2 ^ k) (Nat.mod_lt _ (Nat.pow_pos (by decide)))
    have e : lotN n (k + 1) = lotN (n % 2 ^ k) k ++ (if n.testBit k = true then [k] else []) := by
      unfold lotN
      rw [List.range_succ, List.filter_append]
      congr 1
      · apply List.filter_congr
        intro v hv
        have := List.mem_range.mp hv
        rw [Nat.testBit_mod_two_pow]
        simp [this]
      · cases q : n.testBit k <;> simp [q]
    rw [e]
    unfold numN at ih ⊢
    rw [List.map_append, List.sum_append, ih]
    have hd : n / 2 ^ k < 2 := by
      rw [Nat.div_lt_iff_lt_mul (Nat.pow_pos (by decide))]
      rw [Nat.pow_succ] at h
      omega
    have dm := Nat.div_add_mod n (2 ^ k)
    have tb : n.testBit k = decide (n / 2 ^ k % 2 = 1) := Nat.testBit_eq_decide_div_mod_eq
    clear ih e
    revert hd dm tb
    generalize n / 2 ^ k = q
    intro hd dm tb
    by_cases h1 : q = 1
    · rw [if_pos (by rw [tb, h1]; rfl)]
      rw [h1] at dm
      simp
      omega
    · have h0 : q = 0 := by omega
      rw [if_neg (by rw [tb, h0]; decide)]
      rw [h0] at dm
      simp at dm ⊢
      omega
theorem lotN_lt {n many v : Nat} (h : v ∈ lotN n many) : v < many := List.mem_range.mp (List.mem_filter.mp h).1
theorem lotN_sorted (n many : Nat) : (lotN n many).Pairwise (· < ·) := List.Pairwise.filter _ List.pairwise_lt_range
theorem lotN_pos {n many : Nat} (h : n < 2 ^ many) (h1 : 1 ≤ n) : 1 ≤ (lotN n many).length := by
  cases q : lotN n many with
  | nil =>
    have := numN_lotN many n h
    rw [q] at this
    have : n = 0 := this.symm
    omega
  | cons a r => simp
theorem lotN_len (n many : Nat) : (lotN n many).length ≤ many := by
  have := List.length_filter_le (fun v => n.testBit v) (List.range many)
  rwa [List.length_range] at this
end L2.DL
/-! the mirrors' own laws: objects, sorting, dicts -/
namespace L2.DL
open PySem PyProof.Rows PySem.Spec
section
variable {a b : ME} {as : MA} {ρ : List Sl} {tab : List (Nat × Str)} {f : Str} {c : Nat} {fs : List (Str × D)} {d : D} {xs : List D}
@[simp] theorem ev_Fld : eFld tab f a ρ = (a ρ).bind fun d => lift (oFld tab f d) := rfl
theorem o_fld (h : (c, f) ∈ tab) : oFld tab f (.obj c fs) = fs.lookup f := if_pos h
theorem ev_FldB (i : Nat) (h : ρ[i]? = some (.bo c fs)) (ht : (c, f) ∈ tab) : eFldB tab f i ρ = lift (fs.lookup f) := by
  unfold eFldB
  rw [h]
  exact if_pos ht
theorem sv_SetF (i : Nat) (h : ρ[i]? = some (.bo c fs)) : sSetF tab i f a ρ = (a ρ).bind fun v => if (c, f) ∈ tab ∧ fs.length < 1000 then .ok (.nx (ρ.set i (.bo c (putD f v fs)))) else .stuck := by
  unfold sSetF
  rw [h]
@[simp] theorem ev_SortK (m : List D → Res D) : eSortK m a ρ = (a ρ).bind fun d => lift (fSortK m [d]) := rfl
@[simp] theorem ev_Dc (src : MI) (vs : List Nat) (g : MG) (tt : MT) (tk tv : ME) : eDc src vs g tt tk tv ρ = (src ρ).bind fun ds => if ds.length ≤ sizeLine then (dcL g tt tk tv (wipeD ρ vs) [] ds).bind fun r => .ok (.dct r) else .stuck := rfl
@[simp] theorem ev_IsT (t : TyN) : eIsT t a ρ = (a ρ).bind fun d => lift ((isTyD t d).map .bl) := rfl
theorem ev_Atom (i : Nat) (h : ρ[i]? = some (.bl xs)) : eAtom i a ρ = (nox (a (ρ.set i (.d (.lst xs))))).bind fun d => if atomB d = true then .ok d else .stuck := by
  unfold eAtom
  rw [h]
@[simp] theorem ev_Meth (un : Res D → Res D) (k : Nat) (nm : Str) (m : List D → Res D) : eMethG un k nm m a as ρ = (a ρ).bind (methD un k nm m as ρ) := rfl
@[simp] theorem sv_Never : sNever ρ = .stuck := rfl
@[simp] theorem iv_R2 : iR2 as ρ = (as ρ).bind fun xs => (match xs with
  | [.int i, .int j] => if i.natAbs < 4611686018427387904 ∧ j.natAbs < 4611686018427387904 then .ok (rangeD i (j - i).toNat) else .stuck
  | _ => .stuck) := by
  unfold iR2
  rfl
end
/-- what a def gives back -/
def runE : O → Res D
  | .rt d => .ok d
  | .nx _ => .ok .non
  | _ => .stuck
theorem runB_eq {np n : Nat} {m : MS} {ds : List D} (h : ds.length = np) : runB np n m ds = (m (ds.map .d ++ List.replicate (n - np) .no)).bind runE := by
  unfold runB
  rw [if_pos h]
  cases m (ds.map .d ++ List.replicate (n - np) .no) with
  | ok o => cases o <;> rfl
  | ex _ _ => rfl
  | stuck => rfl
theorem run1 {n : Nat} {m : MS} (a : D) : runB 1 n m [a] = (m (.d a :: List.replicate (n - 1) .no)).bind runE := runB_eq rfl
theorem run2 {n : Nat} {m : MS} (a b : D) : runB 2 n m [a, b] = (m (.d a :: .d b :: List.replicate (n - 2) .no)).bind runE := runB_eq rfl
theorem run3 {n : Nat} {m : MS} (a b c : D) : runB 3 n m [a, b, c] = (m (.d a :: .d b :: .d c :: List.replicate (n - 3) .no)).bind runE := runB_eq rfl
theorem run4 {n : Nat} {m : MS} (a b c d : D) : runB 4 n m [a, b, c, d] = (m (.d a :: .d b :: .d c :: .d d :: List.replicate (n - 4) .no)).bind runE := runB_eq rfl
theorem run5 {n : Nat} {m : MS} (a b c d e : D) : runB 5 n m [a, b, c, d, e] = (m (.d a :: .d b :: .d c :: .d d :: .d e :: List.replicate (n - 5) .no)).bind runE := runB_eq rfl
theorem run6 {n : Nat} {m : MS} (a b c d e f : D) : runB 6 n m [a, b, c, d, e, f] = (m (.d a :: .d b :: .d c :: .d d :: .d e :: .d f :: List.replicate (n - 6) .no)).bind runE := runB_eq rfl
theorem run7 {n : Nat} {m : MS} (a b c d e f g : D) : runB 7 n m [a, b, c, d, e, f, g] = (m (.d a :: .d b :: .d c :: .d d :: .d e :: .d f :: .d g :: List.replicate (n - 7) .no)).bind runE := runB_eq rfl
@[simp] theorem runE_rt (d : D) : runE (.rt d) = .ok d := rfl
@[simp] theorem runE_nx (ρ : List Sl) : runE (.nx ρ) = .ok .non := rfl
/-! ### one statement on -/
section
variable {a b : MS} {ρ ρ' : List Sl} {r : Res D} {c : MT} {s1 s2 : MS} {Q : D → Prop} {P : List Sl → Prop} {e : ME} {d : D}
theorem step (h : a ρ = .ok (.nx ρ')) (k : (b ρ').bind runE = r) : (sSeq a b ρ).bind runE = r := by
  rw [sv_Seq, h]
  exact k
theorem stepE (h : Ev (a ρ) fun o => ∃ ρ', o = .nx ρ' ∧ P ρ') (k : ∀ ρ', P ρ' → Ev ((b ρ').bind runE) Q) : Ev ((sSeq a b ρ).bind runE) Q := by
  obtain ⟨o, e, ρ', rfl, p⟩ := h.get
  rw [sv_Seq, e]
  exact k ρ' p
theorem step1 (h : a ρ = .ok (.nx ρ')) (k : Ev ((b ρ').bind runE) Q) : Ev ((sSeq a b ρ).bind runE) Q := by
  rw [sv_Seq, h]
  exact k
/-- a loop or a block that may return -/
theorem stepT {T : D → Prop} (h : Ev (a ρ) fun o => (∃ ρ', o = .nx ρ' ∧ P ρ') ∨ ∃ d, o = .rt d ∧ T d) (k : ∀ ρ', P ρ' → Ev ((b ρ').bind runE) Q) (kr : ∀ d, T d → Q d) : Ev ((sSeq a b ρ).bind runE) Q := by
  obtain ⟨o, e, h⟩ := h.get
  rw [sv_Seq, e]
  rcases h with ⟨ρ', rfl, p⟩ | ⟨d, rfl, t⟩
  · exact k ρ' p
  · exact kr d t
theorem stepI {x : Bool} (hc : c ρ = .ok x) (k1 : x = true → Ev ((sSeq s1 b ρ).bind runE) Q) (k2 : x = false → Ev ((sSeq s2 b ρ).bind runE) Q) : Ev ((sSeq (sIf c s1 s2) b ρ).bind runE) Q := by
  rw [sv_Seq, sv_If, hc]
  cases x with
  | true => exact k1 rfl
  | false => exact k2 rfl
theorem step_nx (k : Ev ((b ρ).bind runE) Q) : Ev ((sSeq sNx b ρ).bind runE) Q := k
theorem step_rt (h : e ρ = .ok d) (q : Q d) : Ev ((sSeq (sRet e) b ρ).bind runE) Q := by
  rw [sv_Seq, sv_Ret, h]
  exact q
theorem step_asc {x : MS} (k : Ev ((sSeq a (sSeq b x) ρ).bind runE) Q) : Ev ((sSeq (sSeq a b) x ρ).bind runE) Q := by
  have e : sSeq (sSeq a b) x ρ = sSeq a (sSeq b x) ρ := by
    simp only [sv_Seq]
    cases a ρ with
    | ok o => cases o <;> rfl
    | ex _ _ => rfl
    | stuck => rfl
  rw [e]
  exact k
theorem last_rt (h : e ρ = .ok d) (q : Q d) : Ev ((sRet e ρ).bind runE) Q := by
  rw [sv_Ret, h]
  exact q
theorem last_rtE (h : Ev (e ρ) Q) : Ev ((sRet e ρ).bind runE) Q := by
  obtain ⟨d, e, q⟩ := h.get
  exact last_rt e q
theorem last_if {x : Bool} (hc : c ρ = .ok x) (k1 : x = true → Ev ((s1 ρ).bind runE) Q) (k2 : x = false → Ev ((s2 ρ).bind runE) Q) : Ev ((sIf c s1 s2 ρ).bind runE) Q := by
  rw [sv_If, hc]
  cases x with
  | true => exact k1 rfl
  | false => exact k2 rfl
end
/-! ### rearranged lists -/
theorem perm_map_inv {α β : Type} {f : α → β} {l m : List β} (h : l.Perm m) : ∀ {xs : List α}, m = xs.map f → ∃ ys : List α, l = ys.map f ∧ ys.Perm xs := by
  induction h with
  | nil => intro xs e; exact ⟨[], rfl, by have : xs = [] := by simpa using e.symm
                                          rw [this]⟩
  | cons a _ ih =>
    intro xs e
    cases xs with
    | nil => cases e
    | cons x xs =>
      rw [List.map_cons] at e
      obtain ⟨h1, h2⟩ := List.cons.inj e
      obtain ⟨ys, h3, h4⟩ := ih h2
      exact ⟨x :: ys, by rw [h3, h1]; rfl, h4.cons x⟩
  | swap a b l =>
    intro xs e
    cases xs with
    | nil => cases e
    | cons x xs =>
      cases xs with
      | nil => rw [List.map_cons] at e; simp at e
      | cons y xs =>
        (simp only [List.map_cons, List.cons.injEq] at e)
        obtain ⟨h1, h2, h3⟩ := e
        exact ⟨y :: x :: xs, by rw [h1, h2, h3]; rfl, .swap _ _ _⟩
  | trans _ _ ih1 ih2 =>
    intro xs e
    obtain ⟨ys, h1, h2⟩ := ih2 e
    obtain ⟨zs, h3, h4⟩ := ih1 h1
    exact ⟨zs, h3, h4.trans h2⟩
theorem sortK_perm {xs ks : List D} (h : ks.length = xs.length) : (sortK xs ks).Perm xs := by
  unfold sortK
  have p := (List.mergeSort_perm (xs.zip ks) fun p q => leD p.2 q.2).map (·.1)
  have e : (xs.zip ks).map (·.1) = xs := List.map_fst_zip (by omega)
  rw [e] at p
  exact p
theorem keysD_map {α : Type} {m : List D → Res D} (enc k : α → D) : ∀ (xs : List α), (∀ x ∈ xs, m [enc x] = .ok (k x)) → keysD m (xs.map enc) = some (xs.map k)
  | [], _ => rfl
  | x :: xs, h => by
    rw [List.map_cons, keysD, h x (by simp), keysD_map enc k xs fun y hy => h y (by simp [hy])]
    rfl
/-- tuples that begin with an item each, alike -/
theorem sortB_of {α : Type} (enc : α → D) (xs : List α) (h : ∀ x ∈ xs, tupB (enc x) = true ∧ (enc x).dep 29 = true) (h2 : ∀ x ∈ xs, ∀ y ∈ xs, PySem.W.alike ((enc x).py 29) ((enc y).py 29) = true) : sortB (xs.map enc) = true := by
  unfold sortB
  rw [Bool.and_eq_true, Bool.or_eq_true]
  refine ⟨List.all_eq_true.mpr fun d hd => ?_, .inl (List.all_eq_true.mpr fun d hd => ?_)⟩
  · obtain ⟨x, hx, rfl⟩ := List.mem_map.mp hd
    rw [Bool.and_eq_true]
    refine ⟨(h x hx).2, List.all_eq_true.mpr fun d' hd' => ?_⟩
    obtain ⟨y, hy, rfl⟩ := List.mem_map.mp hd'
    exact h2 x hx y hy
  · obtain ⟨x, hx, rfl⟩ := List.mem_map.mp hd
    exact (h x hx).1
/-! ### keys of a dict -/
theorem look_put (kvs : List (Key × D)) (k j : Key) (v : D) : (lookK (putKD kvs k v) j).isSome = (decide (j = k) || (lookK kvs j).isSome) := by
  have app : ∀ (l : List (Key × D)) (p : Key × D), (lookK (l ++ [p]) j).isSome = ((lookK l j).isSome || decide (p.1 = j)) := by
    intro l p
    induction l with
    | nil =>
      obtain ⟨a, b⟩ := p
      simp only [List.nil_append, lookK]
      by_cases h : a = j <;> simp [h]
    | cons q l ih =>
      obtain ⟨a, b⟩ := q
      rw [List.cons_append, lookK, lookK]
      by_cases h : a = j
      · rw [if_pos h, if_pos h]; simp
      · rw [if_neg h, if_neg h, ih]
  have mp : ∀ l : List (Key × D), (lookK (l.map fun kv => if kv.1 = k then (kv.1, v) else kv) j).isSome = (lookK l j).isSome := by
    intro l
    induction l with
    | nil => rfl
    | cons q l ih =>
      obtain ⟨a, b⟩ := q
      rw [List.map_cons]
      by_cases hk : a = k
      · rw [if_pos hk, lookK, lookK]
        by_cases h : a = j
        · rw [if_pos h, if_pos h]; rfl
        · rw [if_neg h, if_neg h, ih]
      · rw [if_neg hk, lookK, lookK]
        by_cases h : a = j
        · rw [if_pos h, if_pos h]
        · rw [if_neg h, if_neg h, ih]
  unfold putKD
  by_cases h : (kvs.any fun kv => decide (kv.1 = k)) = true
  · rw [if_pos h, mp]
    by_cases e : j = k
    · subst e
      obtain ⟨p, hp, hk⟩ := List.any_eq_true.mp h
      have : (lookK kvs j).isSome = true := by
        clear h
        induction kvs with
        | nil => simp at hp
        | cons q l ih =>
          obtain ⟨a, b⟩ := q
          rw [lookK]
          by_cases ha : a = j
          · rw [if_pos ha]; rfl
          · rw [if_neg ha]
            (rcases List.mem_cons.mp hp with rfl | hp)
            · exact absurd (of_decide_eq_true hk) ha
            · exact ih hp
      simp [this]
    · simp [e]
  · rw [if_neg h, app]
    by_cases e : j = k
    · subst e; simp
    · simp [e, Ne.symm e]
/-- {x: v for x in ..}: which keys it holds -/
theorem dc_keys {g : MG} {tk tv : ME} {ρ : List Sl} {v : D} : ∀ (ns : List Nat) (acc : List (Key × D)), (∀ n ∈ ns, ∃ ρ1, g (nat n) ρ = some ρ1 ∧ tk ρ1 = .ok (nat n) ∧ tv ρ1 = .ok v) → ∃ kvs, dcL g cYes tk tv ρ acc (ns.map nat) = .ok kvs ∧ ∀ j : Nat, (lookK kvs (.inl (j : Int))).isSome = (decide (j ∈ ns) || (lookK acc (.inl (j : Int))).isSome)
  | [], acc, _ => ⟨acc, rfl, fun j => by simp⟩
  | n :: ns, acc, h => by
    obtain ⟨ρ1, h1, h2, h3⟩ := h n (by simp)
    obtain ⟨kvs, e, hk⟩ := dc_keys ns (putKD acc (.inl (n : Int)) v) fun m hm => h m (by simp [hm])
    refine ⟨kvs, ?_, fun j => ?_⟩
    · rw [List.map_cons, dcL, h1]
      simp only [lift_some, bind_ok, ev_Yes, nox_ok1, if_true, h2, h3]
      exact e
    · rw [hk, look_put]
      have e : (decide ((Sum.inl (j : Int) : Key) = .inl (n : Int))) = decide (j = n) := by
        rw [decide_eq_decide]
        constructor
        · intro h; have := Sum.inl.inj h; omega
        · intro h; rw [h]
      rw [e]
      simp only [List.mem_cons]
      by_cases a : j = n <;> by_cases b : j ∈ ns <;> simp [a, b]
end L2.DL
namespace L2.DL.MM
open PySem PyProof.Rows PySem.Spec
def tb_many : List (Nat × Str) := [(41, "many"), (40, "many")]
def tb_homes : List (Nat × Str) := [(41, "homes")]
def tb_rule : List (Nat × Str) := [(41, "rule")]
def tb_dimension : List (Nat × Str) := [(41, "dimension")]
def tb_book : List (Nat × Str) := [(40, "book")]
def tb_least : List (Nat × Str) := [(40, "least")]
def cm_CalmError (c : Nat) : Option Bool := if c = 14 then some true else none
def is_WrongDimension (c : Nat) : Option Bool := if c = 14 then some true else none
def xf_dimension : List Nat := [14]
def m_is_home : List D → Res D := runB 2 3 (sSeq (sIf (cE (eOp oNe (eFn fLen (aCons (eV 0) (aNil))) (eV 1))) (sRet (eC (.bl false))) (sNx))
    (sSeq (sFor (iSq (eV 0)) (gN 2) (sIf (cOr (cE (eOp oLt (eV 2) (eUn oNeg (eC (.int 60))))) (cE (eOp oGt (eV 2) (eC (.int 60))))) (sRet (eC (.bl false))) (sNx)))
    (sRet (eC (.bl true)))))
def i_Council : List D → Res D := runI 41 2 5 (sSeq (sIf (cE (eOp oNe (eFn fLen (aCons (eV 1) (aNil))) (eFld tb_many "many" (eV 2)))) (sNever) (sNx))
    (sSeq (sAsg (eFn fLen (aCons (eOp oIx (eV 1) (eC (.int 0))) (aNil))) (gN 3))
    (sSeq (sFor (iR1 (aCons (eFn fLen (aCons (eV 1) (aNil))) (aNil))) (gN 4) (sIf (cOr (cE (eOp oLt (eV 3) (eC (.int 1)))) (cOr (cE (eOp oGt (eV 3) (eC (.int 3)))) (cNot (cE (eCallN m_is_home (aCons (eOp oIx (eV 1) (eV 4)) (aCons (eV 3) (aNil)))))))) (sNever) (sNx)))
    (sSeq (sSetF tb_homes 0 "homes" (eV 1))
    (sSeq (sSetF tb_rule 0 "rule" (eV 2))
    (sSeq (sSetF tb_dimension 0 "dimension" (eV 3))
    (sSetF tb_many 0 "many" (eFn fLen (aCons (eV 1) (aNil))))))))))
def m__law_digits : List D → Res D := runB 2 8 (sSeq (sNewL 2 (aNil))
    (sSeq (sAsg (eFn fInt (aCons (eV 0) (aNil))) (gN 3))
    (sSeq (sIf (cE (eOp oGe (eV 3) (eOp oPowD (eC (.int 10)) (eC (.int 18))))) (sSeq (sAsg (eOp oSub (eV 3) (eOp oPowD (eC (.int 10)) (eC (.int 18)))) (gN 3))
    (sSeq (sFor (iSq (eV 1)) (gN 6) (sSeq (sApp 2 (eOp oMod (eFn fInt (aCons (eV 3) (aNil))) (eV 6)))
    (sAsg (eOp oFdiv (eFn fInt (aCons (eV 3) (aNil))) (eV 6)) (gN 3))))
    (sFrz 2 (sRet (eV 2))))) (sNx))
    (sSeq (sAsg (eOp oMod (eFn fInt (aCons (eV 3) (aNil))) (eC (.int 2147483629))) (gN 4))
    (sSeq (sFor (iR1 (aCons (eFn fLen (aCons (eV 1) (aNil))) (aNil))) (gN 5) (sSeq (sAsg (eOp oMod (eFn fInt (aCons (eOp oAdd (eOp oAdd (eOp oMul (eV 4) (eC (.int 48271))) (eOp oMul (eC (.int 974711)) (eV 5))) (eC (.int 12345))) (aNil))) (eC (.int 2147483647))) (gN 4))
    (sSeq (sAsg (eOp oMod (eFn fInt (aCons (eOp oMul (eV 4) (eOp oAdd (eOp oFdiv (eV 4) (eC (.int 65537))) (eC (.int 3)))) (aNil))) (eC (.int 2147483629))) (gN 7))
    (sApp 2 (eOp oMod (eOp oFdiv (eV 7) (eC (.int 19))) (eOp oIx (eV 1) (eV 5)))))))
    (sFrz 2 (sRet (eV 2))))))))
def m__law_voters : List D → Res D := runB 2 3 (sRet (eFn fTup (aCons (eLc (iR1 (aCons (eV 1) (aNil))) [2] (gN 2) (cE (eOp oEq (eOp oBand (eOp oShr (eV 0) (eV 2)) (eC (.int 1))) (eC (.int 1)))) (eV 2)) (aNil))))
def m__law_words : List D → Res D := runB 2 10 (sSeq (sAsg (eFn fTup (aCons (eLc (iR1 (aCons (eV 1) (aNil))) [9] (gN 9) (cYes) (eC (.int 1))) (aNil))) (gN 2))
    (sSeq (sAsg (eFn fTup (aCons (eLc (iR1 (aCons (eV 1) (aNil))) [9] (gN 9) (cYes) (eOp oMod (eFn fInt (aCons (eOp oIx (eV 0) (eOp oAdd (eC (.int 2)) (eV 9))) (aNil))) (eOp oIx (eFn oLst (aCons (eC (.int 31)) (aCons (eC (.int 4)) (aCons (eC (.int 2)) (aCons (eC (.int 6)) (aNil)))))) (eOp oMod (eFn fInt (aCons (eOp oIx (eV 0) (eC (.int 1))) (aNil))) (eC (.int 4)))))) (aNil))) (gN 3))
    (sSeq (sIf (cE (eOp oEq (eFn fSum (aCons (eV 3) (aNil))) (eC (.int 0)))) (sAsg (eV 2) (gN 3)) (sNx))
    (sSeq (sAsg (eFn oTup (aCons (eC (.str ("weights" : Str))) (aCons (eV 3) (aCons (eOp oAdd (eC (.int 1)) (eOp oMod (eFn fInt (aCons (eOp oIx (eV 0) (eC (.int 1))) (aNil))) (eFn fSum (aCons (eV 3) (aNil))))) (aNil))))) (gN 4))
    (sSeq (sAsg (eFn oTup (aCons (eC (.str ("weights" : Str))) (aCons (eV 3) (aCons (eOp oAdd (eOp oFdiv (eFn fSum (aCons (eV 3) (aNil))) (eC (.int 2))) (eC (.int 1))) (aNil))))) (gN 5))
    (sSeq (sAsg (eFn oTup (aCons (eC (.str ("weights" : Str))) (aCons (eV 2) (aCons (eOp oAdd (eOp oFdiv (eV 1) (eC (.int 2))) (eC (.int 1))) (aNil))))) (gN 6))
    (sSeq (sAsg (eFn fTup (aCons (eLc (iR1 (aCons (eC (.int 3)) (aNil))) [9] (gN 9) (cYes) (eCallN m__law_voters (aCons (eOp oAdd (eC (.int 1)) (eOp oMod (eOp oMod (eFn fInt (aCons (eOp oIx (eV 0) (eOp oAdd (eC (.int 11)) (eV 9))) (aNil))) (eOp oSub (eOp oPowD (eC (.int 2)) (eC (.int 9))) (eC (.int 1)))) (eOp oSub (eOp oShl (eC (.int 1)) (eV 1)) (eC (.int 1))))) (aCons (eV 1) (aNil))))) (aNil))) (gN 7))
    (sSeq (sAsg (eFn oLst (aCons (eV 6) (aCons (eV 6) (aCons (eV 6) (aCons (eFn oTup (aCons (eC (.str ("weights" : Str))) (aCons (eV 2) (aCons (eOp oAdd (eC (.int 1)) (eOp oMod (eFn fInt (aCons (eOp oIx (eV 0) (eC (.int 1))) (aNil))) (eV 1))) (aNil))))) (aCons (eV 4) (aCons (eV 5) (aNil)))))))) (gN 8))
    (sSeq (sAsg (eOp oAdd (eV 8) (eFn oLst (aCons (eFn oTup (aCons (eC (.str ("lots" : Str))) (aCons (eCut (eV 7) (pNo) (pE (eOp oAdd (eC (.int 1)) (eOp oMod (eFn fInt (aCons (eOp oIx (eV 0) (eC (.int 1))) (aNil))) (eC (.int 3)))))) (aNil)))) (aCons (eFn oTup (aCons (eC (.str ("both" : Str))) (aCons (eV 6) (aCons (eFn oTup (aCons (eC (.str ("lots" : Str))) (aCons (eCut (eV 7) (pNo) (pE (eC (.int 1)))) (aNil)))) (aNil))))) (aNil))))) (gN 8))
    (sSeq (sAsg (eOp oAdd (eV 8) (eFn oLst (aCons (eFn oTup (aCons (eC (.str ("either" : Str))) (aCons (eV 6) (aCons (eFn oTup (aCons (eC (.str ("lots" : Str))) (aCons (eCut (eV 7) (pNo) (pE (eC (.int 2)))) (aNil)))) (aNil))))) (aCons (eFn oTup (aCons (eC (.str ("opposite" : Str))) (aCons (eV 4) (aNil)))) (aCons (eFn oTup (aCons (eC (.str ("both" : Str))) (aCons (eV 5) (aCons (eFn oTup (aCons (eC (.str ("lots" : Str))) (aCons (eCut (eV 7) (pNo) (pE (eC (.int 2)))) (aNil)))) (aNil))))) (aNil)))))) (gN 8))
    (sSeq (sAsg (eOp oAdd (eV 8) (eFn oLst (aCons (eFn oTup (aCons (eC (.str ("weights" : Str))) (aCons (eV 2) (aCons (eFn fMax (aCons (eC (.int 1)) (aCons (eOp oFdiv (eOp oAdd (eOp oMul (eC (.int 2)) (eV 1)) (eC (.int 2))) (eC (.int 3))) (aNil)))) (aNil))))) (aNil)))) (gN 8))
    (sRet (eOp oIx (eV 8) (eOp oIx (eV 0) (eC (.int 0))))))))))))))))
def m__law_homes : List D → Res D := runB 4 14 (sSeq (sAsg (eOp oAdd (eOp oMul (eC (.int 2)) (eV 3)) (eC (.int 1))) (gN 4))
    (sSeq (sAsg (eLc (iR1 (aCons (eV 1) (aNil))) [9] (gN 9) (cYes) (eFn fTup (aCons (eLc (iR1 (aCons (eV 2) (aNil))) [12] (gN 12) (cYes) (eOp oSub (eOp oMod (eFn fInt (aCons (eOp oIx (eV 0) (eOp oAdd (eOp oAdd (eC (.int 1)) (eOp oMul (eV 2) (eV 9))) (eV 12))) (aNil))) (eV 4)) (eV 3))) (aNil)))) (gN 5))
    (sSeq (sAsg (eOp oIx (eV 0) (eC (.int 0))) (gN 6))
    (sSeq (sIf (cE (eOp oEq (eV 6) (eC (.int 5)))) (sRet (eFn fTup (aCons (eLc (iR1 (aCons (eV 1) (aNil))) [9] (gN 9) (cYes) (eOp oIx (eV 5) (eOp oFdiv (eFn fInt (aCons (eOp oMul (eV 9) (eC (.int 2))) (aNil))) (eC (.int 3))))) (aNil)))) (sNx))
    (sSeq (sIf (cAnd (cE (eOp oEq (eV 6) (eC (.int 6)))) (cE (eOp oGt (eV 2) (eC (.int 1))))) (sSeq (sAsg (eFn fTup (aCons (eLc (iR1 (aCons (eV 2) (aNil))) [12] (gN 12) (cYes) (eOp oFdiv (eOp oIx (eOp oIx (eV 5) (eC (.int 0))) (eV 12)) (eC (.int 6)))) (aNil))) (gN 7))
    (sRet (eFn fTup (aCons (eLc (iR1 (aCons (eV 1) (aNil))) [9] (gN 9) (cYes) (eFn fTup (aCons (eLc (iR1 (aCons (eV 2) (aNil))) [12] (gN 12) (cYes) (eOp oMul (eOp oIx (eV 7) (eV 12)) (eOp oSub (eOp oMod (eFn fInt (aCons (eOp oIx (eV 0) (eOp oAdd (eC (.int 1)) (eOp oMul (eV 2) (eV 9)))) (aNil))) (eC (.int 9))) (eC (.int 4))))) (aNil)))) (aNil))))) (sNx))
    (sSeq (sIf (cOr (cE (eOp oEq (eV 6) (eC (.int 4)))) (cE (eOp oEq (eV 6) (eC (.int 7))))) (sSeq (sNewL 8 (aCons (eFn fTup (aCons (eLc (iSq (eOp oIx (eV 5) (eC (.int 0)))) [13] (gN 13) (cYes) (eOp oFdiv (eV 13) (eC (.int 4)))) (aNil))) (aNil)))
    (sSeq (sFor (iR2 (aCons (eC (.int 1)) (aCons (eV 1) (aNil)))) (gN 9) (sSeq (sAsg (eOp oIx (eV 5) (eOp oFdiv (eOp oAdd (eV 9) (eC (.int 1))) (eC (.int 2)))) (gN 10))
    (sSeq (sAsg (eOp oMul (eOp oIx (eFn oLst (aCons (eC (.int 1)) (aCons (eUn oNeg (eC (.int 1))) (aNil)))) (eOp oMod (eFn fInt (aCons (eV 9) (aNil))) (eC (.int 2)))) (eOp oAdd (eC (.int 1)) (eOp oMod (eFn fInt (aCons (eOp oIx (eV 0) (eOp oAdd (eC (.int 1)) (eOp oMul (eV 2) (eV 9)))) (aNil))) (eC (.int 2))))) (gN 11))
    (sApp 8 (eFn fTup (aCons (eLc (iR1 (aCons (eV 2) (aNil))) [12] (gN 12) (cYes) (eOp oAdd (eOp oIx (eIxB 8 (eC (.int 0))) (eV 12)) (eOp oMul (eV 11) (eOp oFdiv (eOp oIx (eV 10) (eV 12)) (eC (.int 4)))))) (aNil)))))))
    (sSeq (sIf (cE (eOp oEq (eV 6) (eC (.int 7)))) (sSetI 8 (eOp oSub (eV 1) (eC (.int 1))) (eOp oAdd (eFn fTup (aCons (eFn oLst (aCons (eOp oAdd (eOp oIx (eIxB 8 (eOp oSub (eV 1) (eC (.int 1)))) (eC (.int 0))) (eC (.int 1))) (aNil))) (aNil))) (eCut (eIxB 8 (eOp oSub (eV 1) (eC (.int 1)))) (pE (eC (.int 1))) (pNo)))) (sNx))
    (sFrz 8 (sRet (eFn fTup (aCons (eV 8) (aNil)))))))) (sNx))
    (sRet (eFn fTup (aCons (eV 5) (aNil))))))))))
def m__law_cell : List D → Res D := runB 2 4 (sSeq (sIf (cE (eOp oLt (eV 1) (eFn fLen (aCons (eV 0) (aNil))))) (sRet (eOp oIx (eV 0) (eV 1))) (sNx))
    (sSeq (sAsg (eC (.int 17)) (gN 2))
    (sSeq (sFor (iSq (eV 0)) (gN 3) (sAsg (eOp oMod (eFn fInt (aCons (eOp oAdd (eOp oMul (eV 2) (eC (.int 31))) (eOp oMod (eFn fInt (aCons (eV 3) (aNil))) (eC (.int 1000003)))) (aNil))) (eC (.int 1000003))) (gN 2)))
    (sRet (eOp oMod (eFn fInt (aCons (eOp oMul (eOp oMul (eOp oAdd (eV 2) (eC (.int 7))) (eOp oAdd (eV 1) (eC (.int 3)))) (eC (.int 69621))) (aNil))) (eC (.int 2147483647)))))))
def m__law_number : List D → Res D := runB 1 3 (sSeq (sAsg (eC (.int 0)) (gN 1))
    (sSeq (sFor (iSq (eV 0)) (gN 2) (sAsg (eOp oAdd (eV 1) (eOp oShl (eC (.int 1)) (eV 2))) (gN 1)))
    (sRet (eV 1))))
def r__law_table (f : List D → Res D) : List D → Res D := runB 2 11 (sSeq (sAsg (eOp oShl (eC (.int 1)) (eV 1)) (gN 2))
    (sSeq (sIf (cE (eOp oEq (eOp oIx (eV 0) (eC (.int 0))) (eC (.str ("weights" : Str))))) (sSeq (sAsg (eFn oLst (aCons (eC (.int 0)) (aNil))) (gN 5))
    (sSeq (sFor (iSq (eOp oIx (eV 0) (eC (.int 1)))) (gN 6) (sAsg (eOp oAdd (eV 5) (eLc (iSq (eV 5)) [9] (gN 9) (cYes) (eOp oAdd (eV 9) (eV 6)))) (gN 5)))
    (sRet (eLc (iSq (eV 5)) [9] (gN 9) (cYes) (eOp oGe (eV 9) (eOp oIx (eV 0) (eC (.int 2)))))))) (sNx))
    (sSeq (sIf (cE (eOp oEq (eOp oIx (eV 0) (eC (.int 0))) (eC (.str ("lots" : Str))))) (sSeq (sAsg (eLc (iSq (eOp oIx (eV 0) (eC (.int 1)))) [10] (gN 10) (cYes) (eCallN m__law_number (aCons (eV 10) (aNil)))) (gN 7))
    (sRet (eLc (iR1 (aCons (eV 2) (aNil))) [8] (gN 8) (cYes) (eFn fAny (aCons (eLc (iSq (eV 7)) [9] (gN 9) (cYes) (eOp oEq (eOp oBand (eV 8) (eV 9)) (eV 9))) (aNil)))))) (sNx))
    (sSeq (sAsg (eCallN f (aCons (eOp oIx (eV 0) (eC (.int 1))) (aCons (eV 1) (aNil)))) (gN 3))
    (sSeq (sIf (cE (eOp oEq (eOp oIx (eV 0) (eC (.int 0))) (eC (.str ("opposite" : Str))))) (sRet (eLc (iR1 (aCons (eV 2) (aNil))) [8] (gN 8) (cYes) (eNot (eOp oIx (eV 3) (eOp oSub (eOp oSub (eV 2) (eC (.int 1))) (eV 8)))))) (sNx))
    (sSeq (sAsg (eCallN f (aCons (eOp oIx (eV 0) (eC (.int 2))) (aCons (eV 1) (aNil)))) (gN 4))
    (sSeq (sIf (cE (eOp oEq (eOp oIx (eV 0) (eC (.int 0))) (eC (.str ("both" : Str))))) (sRet (eLc (iR1 (aCons (eV 2) (aNil))) [8] (gN 8) (cYes) (eAnd (eOp oIx (eV 3) (eV 8)) (eOp oIx (eV 4) (eV 8))))) (sNx))
    (sRet (eLc (iR1 (aCons (eV 2) (aNil))) [8] (gN 8) (cYes) (eOr (eOp oIx (eV 3) (eV 8)) (eOp oIx (eV 4) (eV 8))))))))))))
def mr__law_table : Nat → List D → Res D
  | 0 => fun _ => .stuck
  | n + 1 => r__law_table (mr__law_table n)
def m__law_table : List D → Res D := mr__law_table 4
def m__law_line_council : List D → Res D := runB 2 8 (sSeq (sAsg (eCallN m__law_digits (aCons (eCallN m__law_cell (aCons (eV 0) (aCons (eV 1) (aNil)))) (aCons (eFn oLst (aCons (eC (.int 8)) (aCons (eC (.int 2)) (aCons (eC (.int 3)) (aNil))))) (aNil)))) (gN 2))
    (sSeq (sAsg (eOp oIx (eFn oLst (aCons (eC (.int 3)) (aCons (eC (.int 4)) (aCons (eC (.int 2)) (aCons (eC (.int 5)) (aCons (eC (.int 1)) (aCons (eC (.int 6)) (aCons (eC (.int 7)) (aCons (eC (.int 9)) (aNil)))))))))) (eOp oIx (eV 2) (eC (.int 0)))) (gN 3))
    (sSeq (sAsg (eCallN m__law_words (aCons (eCallN m__law_digits (aCons (eCallN m__law_cell (aCons (eV 0) (aCons (eOp oAdd (eV 1) (eC (.int 1))) (aNil)))) (aCons (eOp oAdd (eOp oAdd (eFn oLst (aCons (eC (.int 12)) (aCons (eC (.int 1000)) (aNil)))) (eOp oMul (eFn oLst (aCons (eC (.int 31)) (aNil))) (eC (.int 9)))) (eOp oMul (eFn oLst (aCons (eC (.int 512)) (aNil))) (eC (.int 3)))) (aNil)))) (aCons (eV 3) (aNil)))) (gN 4))
    (sSeq (sAsg (eCallN m__law_homes (aCons (eCallN m__law_digits (aCons (eCallN m__law_cell (aCons (eV 0) (aCons (eOp oAdd (eV 1) (eC (.int 2))) (aNil)))) (aCons (eOp oAdd (eFn oLst (aCons (eC (.int 8)) (aNil))) (eOp oMul (eFn oLst (aCons (eC (.int 121)) (aNil))) (eC (.int 9)))) (aNil)))) (aCons (eV 3) (aCons (eC (.int 1)) (aCons (eOp oIx (eFn oLst (aCons (eC (.int 12)) (aCons (eC (.int 60)) (aCons (eC (.int 5)) (aNil))))) (eOp oIx (eV 2) (eC (.int 2)))) (aNil)))))) (gN 5))
    (sSeq (sIf (cAnd (cE (eOp oEq (eOp oIx (eV 2) (eC (.int 1))) (eC (.int 1)))) (cE (eOp oGt (eV 3) (eC (.int 1))))) (sSeq (sAsg (eOp oAdd (eC (.int 1)) (eOp oMod (eFn fInt (aCons (eCallN m__law_cell (aCons (eV 0) (aCons (eOp oAdd (eV 1) (eC (.int 1))) (aNil)))) (aNil))) (eOp oSub (eV 3) (eC (.int 1))))) (gN 6))
    (sSeq (sAsg (eFn oTup (aCons (eC (.str ("lots" : Str))) (aCons (eFn oTup (aCons (eFn fTup (aCons (eLc (iR1 (aCons (eV 6) (aNil))) [7] (gN 7) (cYes) (eV 7)) (aNil))) (aCons (eFn fTup (aCons (eLc (iR2 (aCons (eV 6) (aCons (eV 3) (aNil)))) [7] (gN 7) (cYes) (eV 7)) (aNil))) (aNil)))) (aNil)))) (gN 4))
    (sAsg (eFn fTup (aCons (eFn fSort (aCons (eFn fList (aCons (eV 5) (aNil))) (aNil))) (aNil))) (gN 5)))) (sNx))
    (sRet (eFn oLst (aCons (eV 5) (aCons (eV 4) (aCons (eCallN m__law_table (aCons (eV 4) (aCons (eV 3) (aNil)))) (aNil)))))))))))
def m__law_dot : List D → Res D := runB 2 3 (sRet (eFn fSum (aCons (eLc (iR1 (aCons (eFn fLen (aCons (eV 0) (aNil))) (aNil))) [2] (gN 2) (cYes) (eOp oMul (eOp oIx (eV 0) (eV 2)) (eOp oIx (eV 1) (eV 2)))) (aNil))))
def m__law_value : List D → Res D := runB 3 9 (sSeq (sAsg (eLc (iSq (eV 0)) [7] (gN 7) (cYes) (eCallN m__law_dot (aCons (eV 2) (aCons (eV 7) (aNil))))) (gN 3))
    (sSeq (sAsg (eFn fMin (aCons (eV 3) (aNil))) (gN 4))
    (sSeq (sFor (iSq (eV 3)) (gN 5) (sSeq (sAsg (eCallN m__law_number (aCons (eLc (iR1 (aCons (eFn fLen (aCons (eV 0) (aNil))) (aNil))) [8] (gN 8) (cE (eOp oGe (eOp oIx (eV 3) (eV 8)) (eV 5))) (eV 8)) (aNil))) (gN 6))
    (sIf (cAnd (cE (eOp oGt (eV 5) (eV 4))) (cE (eOp oIx (eV 1) (eV 6)))) (sAsg (eV 5) (gN 4)) (sNx))))
    (sRet (eV 4)))))
def m_dot : List D → Res D := runB 2 3 (sRet (eFn fSum (aCons (eLc (iR1 (aCons (eFn fLen (aCons (eV 0) (aNil))) (aNil))) [2] (gN 2) (cYes) (eOp oMul (eOp oIx (eV 0) (eV 2)) (eOp oIx (eV 1) (eV 2)))) (aNil))))
def m_ranked : List D → Res D := runB 2 3 (sRet (eFn fSort (aCons (eLc (iR1 (aCons (eFld tb_many "many" (eV 0)) (aNil))) [2] (gN 2) (cYes) (eFn oTup (aCons (eUn oNeg (eCallN m_dot (aCons (eV 1) (aCons (eOp oIx (eFld tb_homes "homes" (eV 0)) (eV 2)) (aNil))))) (aCons (eV 2) (aNil))))) (aNil))))
def m_word : List D → Res D := runB 2 6 (sSeq (sAsg (eC (.int 0)) (gN 2))
    (sSeq (sAsg (eC (.int 0)) (gN 3))
    (sSeq (sFor (iSq (eCallN m_ranked (aCons (eV 0) (aCons (eV 1) (aNil))))) (gT 2 (gsCons (gN 4) (gsCons (gN 5) (gsNil)))) (sSeq (sAsg (eOp oAdd (eV 2) (eOp oShl (eC (.int 1)) (eV 5))) (gN 2))
    (sSeq (sAsg (eUn oNeg (eV 4)) (gN 3))
    (sIf (cE (eOp oIx (eFld tb_book "book" (eFld tb_rule "rule" (eV 0))) (eV 2))) (sRet (eV 3)) (sNx)))))
    (sRet (eV 3)))))
def m_ends_of : List D → Res D := runB 1 1 (sSeq (sIf (cE (eOp oNe (eFld tb_dimension "dimension" (eV 0)) (eC (.int 1)))) (sRaise 14 ["dimension"] (aCons (eFld tb_dimension "dimension" (eV 0)) (aNil))) (sNx))
    (sRet (eFn oTup (aCons (eCallN m_word (aCons (eV 0) (aCons (eFn oTup (aCons (eC (.int 1)) (aNil))) (aNil)))) (aCons (eUn oNeg (eCallN m_word (aCons (eV 0) (aCons (eFn oTup (aCons (eUn oNeg (eC (.int 1))) (aNil))) (aNil))))) (aNil))))))
def m_compare : List D → Res D := runB 2 4 (sSeq (sAsg (eOp oMul (eOp oIx (eV 0) (eC (.int 0))) (eOp oIx (eV 1) (eC (.int 1)))) (gN 2))
    (sSeq (sAsg (eOp oMul (eOp oIx (eV 1) (eC (.int 0))) (eOp oIx (eV 0) (eC (.int 1)))) (gN 3))
    (sSeq (sIf (cE (eOp oLt (eV 2) (eV 3))) (sRet (eUn oNeg (eC (.int 1)))) (sNx))
    (sSeq (sIf (cE (eOp oGt (eV 2) (eV 3))) (sRet (eC (.int 1))) (sNx))
    (sRet (eC (.int 0)))))))
def m_ratio : List D → Res D := runB 2 3 (sSeq (sIf (cE (eOp oEq (eV 1) (eC (.int 0)))) (sNever) (sNx))
    (sSeq (sAsg (eFn fGcd (aCons (eV 0) (aCons (eV 1) (aNil)))) (gN 2))
    (sSeq (sIf (cE (eOp oLt (eV 1) (eC (.int 0)))) (sAsg (eUn oNeg (eV 2)) (gN 2)) (sNx))
    (sRet (eFn oTup (aCons (eOp oFdiv (eV 0) (eV 2)) (aCons (eOp oFdiv (eV 1) (eV 2)) (aNil))))))))
def m_minus : List D → Res D := runB 2 2 (sRet (eCallN m_ratio (aCons (eOp oSub (eOp oMul (eOp oIx (eV 0) (eC (.int 0))) (eOp oIx (eV 1) (eC (.int 1)))) (eOp oMul (eOp oIx (eV 1) (eC (.int 0))) (eOp oIx (eV 0) (eC (.int 1))))) (aCons (eOp oMul (eOp oIx (eV 0) (eC (.int 1))) (eOp oIx (eV 1) (eC (.int 1)))) (aNil)))))
def m_mirrored : List D → Res D := runB 2 2 (sRet (eCallN m_minus (aCons (eFn oTup (aCons (eOp oMul (eC (.int 2)) (eV 1)) (aCons (eC (.int 1)) (aNil)))) (aCons (eV 0) (aNil)))))
def m_floor_of : List D → Res D := runB 1 1 (sRet (eOp oFdiv (eOp oIx (eV 0) (eC (.int 0))) (eOp oIx (eV 0) (eC (.int 1)))))
def m_over : List D → Res D := runB 2 2 (sRet (eCallN m_ratio (aCons (eOp oMul (eOp oIx (eV 0) (eC (.int 0))) (eOp oIx (eV 1) (eC (.int 1)))) (aCons (eOp oMul (eOp oIx (eV 0) (eC (.int 1))) (eOp oIx (eV 1) (eC (.int 0)))) (aNil)))))
def m_rounds_to : List D → Res D := runB 3 3 (sSeq (sIf (cE (eOp oLt (eCallN m_compare (aCons (eV 1) (aCons (eV 0) (aNil)))) (eC (.int 0)))) (sRet (eC (.int 0))) (sNx))
    (sRet (eOp oAdd (eCallN m_floor_of (aCons (eCallN m_over (aCons (eCallN m_minus (aCons (eV 1) (aCons (eV 0) (aNil)))) (aCons (eFn oTup (aCons (eV 2) (aCons (eC (.int 1)) (aNil)))) (aNil)))) (aNil))) (eC (.int 1)))))
def m_fewest_rising : List D → Res D := runB 4 8 (sSeq (sAsg (eCallN m_mirrored (aCons (eV 2) (aCons (eV 0) (aNil)))) (gN 4))
    (sSeq (sAsg (eOp oLt (eCallN m_compare (aCons (eV 2) (aCons (eFn oTup (aCons (eV 0) (aCons (eC (.int 1)) (aNil)))) (aNil)))) (eC (.int 0))) (gN 5))
    (sSeq (sIf (cE (eOp oLe (eV 0) (eV 1))) (sSeq (sIf (cAnd (cE (eV 5)) (cE (eOp oLt (eCallN m_compare (aCons (eV 3) (aCons (eV 4) (aNil)))) (eC (.int 0))))) (sRet (eC (.int 1))) (sNx))
    (sRet (eC .non))) (sNx))
    (sSeq (sAsg (eOp oMul (eC (.int 2)) (eOp oSub (eV 0) (eV 1))) (gN 6))
    (sSeq (sAsg (eOp oMul (eC (.int 2)) (eCallN m_rounds_to (aCons (eV 2) (aCons (eV 3) (aCons (eV 6) (aNil)))))) (gN 7))
    (sSeq (sIf (cNot (cE (eV 5))) (sRet (eV 7)) (sNx))
    (sRet (eFn fMin (aCons (eV 7) (aCons (eOp oAdd (eOp oMul (eC (.int 2)) (eCallN m_rounds_to (aCons (eV 4) (aCons (eV 3) (aCons (eV 6) (aNil)))))) (eC (.int 1))) (aNil)))))))))))
def m_flipped : List D → Res D := runB 1 1 (sRet (eCallN m_ratio (aCons (eUn oNeg (eOp oIx (eV 0) (eC (.int 0)))) (aCons (eOp oIx (eV 0) (eC (.int 1))) (aNil)))))
def m_fewest_between : List D → Res D := runB 4 5 (sSeq (sAsg (eCallN m_compare (aCons (eV 3) (aCons (eV 2) (aNil)))) (gN 4))
    (sSeq (sIf (cE (eOp oEq (eV 4) (eC (.int 0)))) (sRet (eC (.int 0))) (sNx))
    (sSeq (sIf (cE (eOp oGt (eV 4) (eC (.int 0)))) (sRet (eCallN m_fewest_rising (aCons (eV 0) (aCons (eV 1) (aCons (eV 2) (aCons (eV 3) (aNil))))))) (sNx))
    (sRet (eCallN m_fewest_rising (aCons (eUn oNeg (eV 1)) (aCons (eUn oNeg (eV 0)) (aCons (eCallN m_flipped (aCons (eV 2) (aNil))) (aCons (eCallN m_flipped (aCons (eV 3) (aNil))) (aNil))))))))))
def m_fewest_on_line : List D → Res D := runB 3 5 (sSeq (sAsg (eCall m_ends_of (aCons (eV 0) (aNil))) (gT 2 (gsCons (gN 3) (gsCons (gN 4) (gsNil)))))
    (sRet (eCallN m_fewest_between (aCons (eV 3) (aCons (eV 4) (aCons (eV 1) (aCons (eV 2) (aNil))))))))
def m__law_wrong : List D → Res D := runB 2 3 (sSeq (sTry false (eCall m_fewest_on_line (aCons (eV 0) (aCons (eV 1) (aCons (eV 1) (aNil))))) 2 cm_CalmError (fun c fs => sRet (eAnd (eXi is_WrongDimension c) (eOp oEq (eXf xf_dimension c fs "dimension") (eFld tb_dimension "dimension" (eV 0))))))
    (sRet (eC (.bl false))))
def m_smaller_wins : List D → Res D := runB 3 4 (sSeq (sFor (iR1 (aCons (eV 2) (aNil))) (gN 3) (sIf (cAnd (cE (eOp oEq (eOp oBand (eOp oShr (eV 1) (eV 3)) (eC (.int 1))) (eC (.int 1)))) (cE (eOp oIx (eV 0) (eOp oSub (eV 1) (eOp oShl (eC (.int 1)) (eV 3)))))) (sRet (eC (.bl true))) (sNx)))
    (sRet (eC (.bl false))))
def m_winning_book : List D → Res D := runB 2 5 (sSeq (sAsg (eDc (iSq (eV 1)) [4] (gN 4) (cYes) (eV 4) (eC (.bl true))) (gN 2))
    (sSeq (sNewL 3 (aNil))
    (sSeq (sFor (iR1 (aCons (eOp oShl (eC (.int 1)) (eV 0)) (aNil))) (gN 4) (sApp 3 (eOr (eOp oIn (eV 4) (eV 2)) (eAtom 3 (eCallN m_smaller_wins (aCons (eV 3) (aCons (eV 4) (aCons (eV 0) (aNil)))))))))
    (sFrz 3 (sRet (eFn fTup (aCons (eV 3) (aNil))))))))
def m_lot_order : List D → Res D := runB 1 1 (sRet (eFn oTup (aCons (eFn fLen (aCons (eV 0) (aNil))) (aCons (eV 0) (aNil)))))
def m_lot_of : List D → Res D := runB 2 3 (sRet (eFn fTup (aCons (eLc (iR1 (aCons (eV 1) (aNil))) [2] (gN 2) (cE (eOp oEq (eOp oBand (eOp oShr (eV 0) (eV 2)) (eC (.int 1))) (eC (.int 1)))) (eV 2)) (aNil))))
def m_least_lots : List D → Res D := runB 2 4 (sSeq (sAsg (eLc (iR1 (aCons (eFn fLen (aCons (eV 1) (aNil))) (aNil))) [3] (gN 3) (cAnd (cE (eOp oIx (eV 1) (eV 3))) (cNot (cE (eCallN m_smaller_wins (aCons (eV 1) (aCons (eV 3) (aCons (eV 0) (aNil)))))))) (eV 3)) (gN 2))
    (sRet (eFn fTup (aCons (eSortK m_lot_order (eLc (iSq (eV 2)) [3] (gN 3) (cYes) (eCallN m_lot_of (aCons (eV 3) (aCons (eV 0) (aNil)))))) (aNil)))))
def m_lot_number : List D → Res D := runB 1 3 (sSeq (sAsg (eC (.int 0)) (gN 1))
    (sSeq (sFor (iSq (eV 0)) (gN 2) (sAsg (eOp oAdd (eV 1) (eOp oShl (eC (.int 1)) (eV 2))) (gN 1)))
    (sRet (eV 1))))
def m_is_lot : List D → Res D := runB 2 4 (sSeq (sAsg (eUn oNeg (eC (.int 1))) (gN 2))
    (sSeq (sFor (iSq (eV 0)) (gN 3) (sSeq (sIf (cOr (cE (eOp oLe (eV 3) (eV 2))) (cE (eOp oGe (eV 3) (eV 1)))) (sRet (eC (.bl false))) (sNx))
    (sAsg (eV 3) (gN 2))))
    (sRet (eC (.bl true)))))
def i_Rule : List D → Res D := runI 40 2 4 (sSeq (sIf (cE (eOp oEq (eFn fLen (aCons (eV 2) (aNil))) (eC (.int 0)))) (sNever) (sNx))
    (sSeq (sFor (iSq (eV 2)) (gN 3) (sIf (cOr (cE (eOp oEq (eFn fLen (aCons (eV 3) (aNil))) (eC (.int 0)))) (cNot (cE (eCallN m_is_lot (aCons (eV 3) (aCons (eV 1) (aNil))))))) (sNever) (sNx)))
    (sSeq (sSetF tb_many 0 "many" (eV 1))
    (sSeq (sSetF tb_book 0 "book" (eCallN m_winning_book (aCons (eV 1) (aCons (eLc (iSq (eV 2)) [3] (gN 3) (cYes) (eCallN m_lot_number (aCons (eV 3) (aNil)))) (aNil)))))
    (sSetF tb_least 0 "least" (eCallN m_least_lots (aCons (eV 1) (aCons (eFldB tb_book "book" 0) (aNil)))))))))
def m_Rule___or__ : List D → Res D := runB 2 2 (sSeq (sIf (cE (eOp oNe (eFld tb_many "many" (eV 0)) (eFld tb_many "many" (eV 1)))) (sNever) (sNx))
    (sRet (eCallN i_Rule (aCons (eFld tb_many "many" (eV 0)) (aCons (eOp oAdd (eFld tb_least "least" (eV 0)) (eFld tb_least "least" (eV 1))) (aNil))))))
def m_sums_of : List D → Res D := runB 1 4 (sSeq (sAsg (eFn oLst (aCons (eC (.int 0)) (aNil))) (gN 1))
    (sSeq (sFor (iSq (eV 0)) (gN 2) (sAsg (eOp oAdd (eV 1) (eLc (iSq (eV 1)) [3] (gN 3) (cYes) (eOp oAdd (eV 3) (eV 2)))) (gN 1)))
    (sRet (eFn fTup (aCons (eV 1) (aNil))))))
def m_Rule_weighted : List D → Res D := runB 2 4 (sSeq (sIf (cOr (cE (eOp oLt (eV 1) (eC (.int 1)))) (cE (eOp oGt (eV 1) (eFn fSum (aCons (eV 0) (aNil)))))) (sNever) (sNx))
    (sSeq (sAsg (eLc (iSq (eCallN m_sums_of (aCons (eV 0) (aNil)))) [3] (gN 3) (cYes) (eOp oGe (eV 3) (eV 1))) (gN 2))
    (sRet (eCallN i_Rule (aCons (eFn fLen (aCons (eV 0) (aNil))) (aCons (eCallN m_least_lots (aCons (eFn fLen (aCons (eV 0) (aNil))) (aCons (eV 2) (aNil)))) (aNil)))))))
def m_Rule___invert__ : List D → Res D := runB 1 4 (sSeq (sAsg (eOp oSub (eFn fLen (aCons (eFld tb_book "book" (eV 0)) (aNil))) (eC (.int 1))) (gN 1))
    (sSeq (sAsg (eLc (iR1 (aCons (eFn fLen (aCons (eFld tb_book "book" (eV 0)) (aNil))) (aNil))) [3] (gN 3) (cYes) (eNot (eOp oIx (eFld tb_book "book" (eV 0)) (eOp oSub (eV 1) (eV 3))))) (gN 2))
    (sRet (eCallN i_Rule (aCons (eFld tb_many "many" (eV 0)) (aCons (eCallN m_least_lots (aCons (eFld tb_many "many" (eV 0)) (aCons (eV 2) (aNil)))) (aNil)))))))
def m_Rule___and__ : List D → Res D := runB 2 4 (sSeq (sIf (cE (eOp oNe (eFld tb_many "many" (eV 0)) (eFld tb_many "many" (eV 1)))) (sNever) (sNx))
    (sSeq (sAsg (eLc (iR1 (aCons (eFn fLen (aCons (eFld tb_book "book" (eV 0)) (aNil))) (aNil))) [3] (gN 3) (cYes) (eAnd (eOp oIx (eFld tb_book "book" (eV 0)) (eV 3)) (eOp oIx (eFld tb_book "book" (eV 1)) (eV 3)))) (gN 2))
    (sRet (eCallN i_Rule (aCons (eFld tb_many "many" (eV 0)) (aCons (eCallN m_least_lots (aCons (eFld tb_many "many" (eV 0)) (aCons (eV 2) (aNil)))) (aNil)))))))
def r__law_rule (f : List D → Res D) : List D → Res D := runB 2 4 (sSeq (sIf (cE (eOp oEq (eOp oIx (eV 0) (eC (.int 0))) (eC (.str ("weights" : Str))))) (sRet (eCallN m_Rule_weighted (aCons (eOp oIx (eV 0) (eC (.int 1))) (aCons (eOp oIx (eV 0) (eC (.int 2))) (aNil))))) (sNx))
    (sSeq (sIf (cE (eOp oEq (eOp oIx (eV 0) (eC (.int 0))) (eC (.str ("lots" : Str))))) (sRet (eCallN i_Rule (aCons (eV 1) (aCons (eOp oIx (eV 0) (eC (.int 1))) (aNil))))) (sNx))
    (sSeq (sAsg (eCallN f (aCons (eOp oIx (eV 0) (eC (.int 1))) (aCons (eV 1) (aNil)))) (gN 2))
    (sSeq (sIf (cE (eOp oEq (eOp oIx (eV 0) (eC (.int 0))) (eC (.str ("opposite" : Str))))) (sRet (eUn (oOwn1 40 m_Rule___invert__) (eV 2))) (sNx))
    (sSeq (sAsg (eCallN f (aCons (eOp oIx (eV 0) (eC (.int 2))) (aCons (eV 1) (aNil)))) (gN 3))
    (sSeq (sIf (cE (eOp oEq (eOp oIx (eV 0) (eC (.int 0))) (eC (.str ("both" : Str))))) (sRet (eOp (oOwn 40 m_Rule___and__) (eV 2) (eV 3))) (sNx))
    (sRet (eOp (oOwn 40 m_Rule___or__) (eV 2) (eV 3)))))))))
def mr__law_rule : Nat → List D → Res D
  | 0 => fun _ => .stuck
  | n + 1 => r__law_rule (mr__law_rule n)
def m__law_rule : List D → Res D := mr__law_rule 4
def m__law_gcd : List D → Res D := runB 2 3 (sSeq (sAsg (eFn fAbs (aCons (eV 0) (aNil))) (gN 0))
    (sSeq (sAsg (eFn fAbs (aCons (eV 1) (aNil))) (gN 1))
    (sSeq (sWhile (fuelI 1) (cE (eOp oNe (eV 1) (eC (.int 0)))) (sSeq (sAsg (eOp oMod (eFn fInt (aCons (eV 0) (aNil))) (eV 1)) (gN 2))
    (sSeq (sAsg (eV 1) (gN 0))
    (sAsg (eV 2) (gN 1)))))
    (sRet (eV 0)))))
def m__law_reduced : List D → Res D := runB 2 4 (sSeq (sAsg (eV 1) (gN 2))
    (sSeq (sFor (iSq (eV 0)) (gN 3) (sAsg (eCallN m__law_gcd (aCons (eV 2) (aCons (eV 3) (aNil)))) (gN 2)))
    (sRet (eOp oAdd (eFn fTup (aCons (eLc (iSq (eV 0)) [3] (gN 3) (cYes) (eOp oFdiv (eV 3) (eV 2))) (aNil))) (eFn oTup (aCons (eOp oFdiv (eV 1) (eV 2)) (aNil)))))))
def m__law_motion : List D → Res D := runB 3 6 (sSeq (sAsg (eOp oIx (eFn oLst (aCons (eC (.int 1)) (aCons (eC (.int 2)) (aCons (eC (.int 3)) (aCons (eC (.int 1)) (aCons (eC (.int 4)) (aCons (eC (.int 5)) (aCons (eC (.int 1)) (aCons (eC (.int 6)) (aCons (eC (.int 2)) (aCons (eC (.int 7)) (aCons (eC (.int 10)) (aCons (eC (.int 12)) (aNil)))))))))))))) (eOp oIx (eV 0) (eC (.int 0)))) (gN 3))
    (sSeq (sAsg (eOp oAdd (eOp oMul (eOp oMul (eC (.int 2)) (eV 2)) (eV 3)) (eC (.int 1))) (gN 4))
    (sRet (eCallN m__law_reduced (aCons (eLc (iR1 (aCons (eV 1) (aNil))) [5] (gN 5) (cYes) (eOp oSub (eOp oMod (eFn fInt (aCons (eOp oIx (eV 0) (eOp oAdd (eC (.int 1)) (eV 5))) (aNil))) (eV 4)) (eOp oMul (eV 2) (eV 3)))) (aCons (eV 3) (aNil)))))))
def m__law_fraction : List D → Res D := runB 2 3 (sSeq (sAsg (eCallN m__law_gcd (aCons (eV 0) (aCons (eV 1) (aNil)))) (gN 2))
    (sSeq (sIf (cE (eOp oLt (eV 1) (eC (.int 0)))) (sAsg (eUn oNeg (eV 2)) (gN 2)) (sNx))
    (sRet (eFn oTup (aCons (eOp oFdiv (eV 0) (eV 2)) (aCons (eOp oFdiv (eV 1) (eV 2)) (aNil)))))))
def m__law_plus : List D → Res D := runB 2 2 (sRet (eCallN m__law_fraction (aCons (eOp oAdd (eOp oMul (eOp oIx (eV 0) (eC (.int 0))) (eOp oIx (eV 1) (eC (.int 1)))) (eOp oMul (eOp oIx (eV 1) (eC (.int 0))) (eOp oIx (eV 0) (eC (.int 1))))) (aCons (eOp oMul (eOp oIx (eV 0) (eC (.int 1))) (eOp oIx (eV 1) (eC (.int 1)))) (aNil)))))
def m__law_mirror : List D → Res D := runB 2 2 (sRet (eCallN m__law_fraction (aCons (eOp oSub (eOp oMul (eOp oMul (eC (.int 2)) (eV 1)) (eOp oIx (eV 0) (eC (.int 1)))) (eOp oIx (eV 0) (eC (.int 0)))) (aCons (eOp oIx (eV 0) (eC (.int 1))) (aNil)))))
def m__law_sign : List D → Res D := runB 2 4 (sSeq (sAsg (eOp oMul (eOp oIx (eV 0) (eC (.int 0))) (eOp oIx (eV 1) (eC (.int 1)))) (gN 2))
    (sSeq (sAsg (eOp oMul (eOp oIx (eV 1) (eC (.int 0))) (eOp oIx (eV 0) (eC (.int 1)))) (gN 3))
    (sRet (eOp oSub (eFn fInt (aCons (eOp oGt (eV 2) (eV 3)) (aNil))) (eFn fInt (aCons (eOp oLt (eV 2) (eV 3)) (aNil)))))))
def m__law_line_votes : List D → Res D := runB 5 10 (sSeq (sIf (cE (eOp oEq (eV 2) (eV 3))) (sRet (eC (.int 0))) (sNx))
    (sSeq (sAsg (eV 2) (gN 5))
    (sSeq (sAsg (eV 2) (gN 6))
    (sSeq (sFor (iR2 (aCons (eC (.int 1)) (aCons (eOp oAdd (eV 4) (eC (.int 1))) (aNil)))) (gN 7) (sSeq (sAsg (eV 6) (gN 8))
    (sSeq (sIf (cAnd (cE (eOp oLt (eCallN m__law_sign (aCons (eV 5) (aCons (eFn oTup (aCons (eV 0) (aCons (eC (.int 1)) (aNil)))) (aNil)))) (eC (.int 0)))) (cE (eOp oGt (eCallN m__law_sign (aCons (eCallN m__law_mirror (aCons (eV 5) (aCons (eV 0) (aNil)))) (aCons (eV 6) (aNil)))) (eC (.int 0))))) (sAsg (eCallN m__law_mirror (aCons (eV 5) (aCons (eV 0) (aNil)))) (gN 8)) (sNx))
    (sSeq (sAsg (eV 5) (gN 9))
    (sSeq (sIf (cAnd (cE (eOp oGt (eCallN m__law_sign (aCons (eV 6) (aCons (eFn oTup (aCons (eV 1) (aCons (eC (.int 1)) (aNil)))) (aNil)))) (eC (.int 0)))) (cE (eOp oLt (eCallN m__law_sign (aCons (eCallN m__law_mirror (aCons (eV 6) (aCons (eV 1) (aNil)))) (aCons (eV 5) (aNil)))) (eC (.int 0))))) (sAsg (eCallN m__law_mirror (aCons (eV 6) (aCons (eV 1) (aNil)))) (gN 9)) (sNx))
    (sSeq (sIf (cAnd (cE (eOp oEq (eV 9) (eV 5))) (cE (eOp oEq (eV 8) (eV 6)))) (sRet (eC .non)) (sNx))
    (sSeq (sAsg (eV 9) (gN 5))
    (sSeq (sAsg (eV 8) (gN 6))
    (sIf (cAnd (cE (eOp oLt (eCallN m__law_sign (aCons (eV 5) (aCons (eV 3) (aNil)))) (eC (.int 0)))) (cE (eOp oLt (eCallN m__law_sign (aCons (eV 3) (aCons (eV 6) (aNil)))) (eC (.int 0))))) (sRet (eV 7)) (sNx))))))))))
    (sRet (eC .non))))))
def m__law_far : List D → Res D := runB 6 9 (sSeq (sAsg (eCallN m__law_line_votes (aCons (eV 1) (aCons (eV 2) (aCons (eV 3) (aCons (eV 4) (aCons (eC (.int 200)) (aNil))))))) (gN 6))
    (sSeq (sIf (cOr (cE (eOp oLe (eV 1) (eV 2))) (cOr (cE (eOp oIs (eV 6) (eC .non))) (cE (eOp oLt (eV 6) (eC (.int 2)))))) (sRet (eC (.bl true))) (sNx))
    (sSeq (sAsg (eCallN m__law_sign (aCons (eV 4) (aCons (eV 3) (aNil)))) (gN 7))
    (sSeq (sAsg (eCallN m__law_plus (aCons (eV 4) (aCons (eFn oTup (aCons (eOp oMul (eOp oMul (eOp oMul (eV 7) (eC (.int 2))) (eV 5)) (eOp oSub (eV 1) (eV 2))) (aCons (eC (.int 1)) (aNil)))) (aNil)))) (gN 8))
    (sRet (eOp oEq (eCallN m_fewest_on_line (aCons (eV 0) (aCons (eV 3) (aCons (eV 8) (aNil))))) (eOp oAdd (eV 6) (eOp oMul (eC (.int 2)) (eV 5)))))))))
def m__law_whole : List D → Res D := runB 1 1 (sRet (eAnd (eIsT .int (eV 0)) (eNot (eIsT .bool (eV 0)))))
def m__law_way : List D → Res D := runB 2 6 (sSeq (sAsg (eFn fLen (aCons (eV 0) (aNil))) (gN 2))
    (sSeq (sAsg (eLc (iR1 (aCons (eV 2) (aNil))) [4] (gN 4) (cYes) (eOp oSub (eOp oMul (eOp oIx (eV 0) (eV 4)) (eOp oIx (eV 1) (eV 2))) (eOp oIx (eV 1) (eV 4)))) (gN 3))
    (sRet (eFn fSum (aCons (eLc (iSq (eV 3)) [5] (gN 5) (cYes) (eOp oMul (eV 5) (eV 5))) (aNil))))))
def m__law_nearer : List D → Res D := runB 3 5 (sSeq (sAsg (eFn fLen (aCons (eV 0) (aNil))) (gN 3))
    (sSeq (sAsg (eOp oMul (eOp oMul (eCallN m__law_way (aCons (eV 0) (aCons (eV 1) (aNil)))) (eOp oIx (eV 2) (eV 3))) (eOp oIx (eV 2) (eV 3))) (gN 4))
    (sRet (eOp oLt (eV 4) (eOp oMul (eOp oMul (eCallN m__law_way (aCons (eV 0) (aCons (eV 2) (aNil)))) (eOp oIx (eV 1) (eV 3))) (eOp oIx (eV 1) (eV 3)))))))
def m__law_lot : List D → Res D := runB 3 4 (sRet (eFn fTup (aCons (eLc (iR1 (aCons (eFn fLen (aCons (eV 0) (aNil))) (aNil))) [3] (gN 3) (cE (eCallN m__law_nearer (aCons (eOp oIx (eV 0) (eV 3)) (aCons (eV 1) (aCons (eV 2) (aNil)))))) (eV 3)) (aNil))))
def m__law_asked : List D → Res D := runB 7 9 (sSeq (sAsg (eCallN m_fewest_on_line (aCons (eV 0) (aCons (eV 5) (aCons (eV 6) (aNil))))) (gN 7))
    (sSeq (sAsg (eCallN m__law_line_votes (aCons (eV 3) (aCons (eV 4) (aCons (eV 5) (aCons (eV 6) (aCons (eC (.int 200)) (aNil))))))) (gN 8))
    (sSeq (sIf (cOr (cE (eOp oNe (eV 7) (eV 8))) (cAnd (cE (eOp oIsNot (eV 8) (eC .non))) (cNot (cE (eCallN m__law_whole (aCons (eV 7) (aNil))))))) (sRet (eC (.bl false))) (sNx))
    (sSeq (sIf (cAnd (cE (eOp oNe (eV 5) (eV 6))) (cE (eOp oNe (eOp oEq (eV 8) (eC (.int 1))) (eOp oIx (eV 2) (eCallN m__law_number (aCons (eCallN m__law_lot (aCons (eV 1) (aCons (eV 6) (aCons (eV 5) (aNil))))) (aNil))))))) (sRet (eC (.bl false))) (sNx))
    (sRet (eOr (eOp oGt (eV 3) (eV 4)) (eOr (eOp oIs (eV 8) (eC .non)) (eOp oLt (eV 8) (eC (.int 2))))))))))
def m__law_world : List D → Res D := runB 2 16 (sSeq (sAsg (eCallN m__law_line_council (aCons (eV 0) (aCons (eV 1) (aNil)))) (gU 3 (gsCons (gN 2) (gsCons (gN 3) (gsCons (gN 4) (gsNil))))))
    (sSeq (sAsg (eCallN i_Council (aCons (eV 2) (aCons (eCallN m__law_rule (aCons (eV 3) (aCons (eFn fLen (aCons (eV 2) (aNil))) (aNil)))) (aNil)))) (gN 5))
    (sSeq (sAsg (eCallN m__law_value (aCons (eV 2) (aCons (eV 4) (aCons (eFn oTup (aCons (eC (.int 1)) (aNil))) (aNil))))) (gN 6))
    (sSeq (sAsg (eUn oNeg (eCallN m__law_value (aCons (eV 2) (aCons (eV 4) (aCons (eFn oTup (aCons (eUn oNeg (eC (.int 1))) (aNil))) (aNil)))))) (gN 7))
    (sSeq (sAsg (eCallN m__law_digits (aCons (eCallN m__law_cell (aCons (eV 0) (aCons (eOp oAdd (eV 1) (eC (.int 9))) (aNil)))) (aCons (eFn oLst (aCons (eC (.int 9)) (aCons (eC (.int 9)) (aCons (eOp oPowD (eC (.int 10)) (eC (.int 9))) (aCons (eOp oPowD (eC (.int 10)) (eC (.int 9))) (aCons (eOp oPowD (eC (.int 10)) (eC (.int 9))) (aNil))))))) (aNil)))) (gN 8))
    (sSeq (sAsg (eLc (iR1 (aCons (eC (.int 6)) (aNil))) [10] (gN 10) (cYes) (eCallN m__law_motion (aCons (eCallN m__law_digits (aCons (eCallN m__law_cell (aCons (eV 0) (aCons (eOp oAdd (eOp oAdd (eV 1) (eC (.int 3))) (eV 10)) (aNil)))) (aCons (eFn oLst (aCons (eC (.int 12)) (aCons (eC (.int 4001)) (aNil)))) (aNil)))) (aCons (eC (.int 1)) (aCons (eC (.int 14)) (aNil)))))) (gN 9))
    (sSeq (sAsg (eOp oAdd (eV 9) (eFn oLst (aCons (eOp oAdd (eOp oIx (eV 2) (eOp oMod (eFn fInt (aCons (eOp oIx (eV 8) (eC (.int 0))) (aNil))) (eFn fLen (aCons (eV 2) (aNil))))) (eFn oTup (aCons (eC (.int 1)) (aNil)))) (aCons (eFn oTup (aCons (eV 6) (aCons (eC (.int 1)) (aNil)))) (aCons (eFn oTup (aCons (eV 7) (aCons (eC (.int 1)) (aNil)))) (aNil)))))) (gN 9))
    (sSeq (sFor (iR1 (aCons (eC (.int 6)) (aNil))) (gN 10) (sFor (iSq (eFn oLst (aCons (eOp oIx (eV 9) (eOp oMod (eFn fInt (aCons (eOp oAdd (eV 10) (eC (.int 1))) (aNil))) (eC (.int 9)))) (aCons (eOp oIx (eV 9) (eOp oMod (eFn fInt (aCons (eOp oAdd (eV 10) (eC (.int 4))) (aNil))) (eC (.int 9)))) (aCons (eOp oIx (eV 9) (eV 10)) (aNil)))))) (gN 13) (sIf (cNot (cE (eCallN m__law_asked (aCons (eV 5) (aCons (eV 2) (aCons (eV 4) (aCons (eV 6) (aCons (eV 7) (aCons (eOp oIx (eV 9) (eV 10)) (aCons (eV 13) (aNil))))))))))) (sRet (eC (.bl false))) (sNx))))
    (sSeq (sAsg (eOp oAdd (eOp oAdd (eOp oMul (eFn fInt (aCons (eOp oIx (eV 8) (eC (.int 2))) (aNil))) (eOp oPowD (eC (.int 10)) (eC (.int 20)))) (eOp oMul (eFn fInt (aCons (eOp oIx (eV 8) (eC (.int 3))) (aNil))) (eOp oPowD (eC (.int 10)) (eC (.int 9))))) (eFn fInt (aCons (eOp oIx (eV 8) (eC (.int 4))) (aNil)))) (gN 11))
    (sSeq (sFor (iR1 (aCons (eC (.int 3)) (aNil))) (gN 10) (sSeq (sIf (cNot (cE (eCallN m__law_far (aCons (eV 5) (aCons (eV 6) (aCons (eV 7) (aCons (eOp oIx (eV 9) (eV 10)) (aCons (eOp oIx (eV 9) (eOp oAdd (eV 10) (eC (.int 3)))) (aCons (eOp oAdd (eC (.int 1)) (eFn fInt (aCons (eOp oIx (eV 8) (eC (.int 1))) (aNil)))) (aNil)))))))))) (sRet (eC (.bl false))) (sNx))
    (sSeq (sIf (cNot (cE (eCallN m__law_far (aCons (eV 5) (aCons (eV 6) (aCons (eV 7) (aCons (eOp oIx (eV 9) (eV 10)) (aCons (eOp oIx (eV 9) (eOp oAdd (eV 10) (eC (.int 3)))) (aCons (eV 11) (aNil)))))))))) (sRet (eC (.bl false))) (sNx))
    (sSeq (sAsg (eCallN m__law_plus (aCons (eOp oIx (eV 9) (eV 10)) (aCons (eFn oTup (aCons (eOp oMul (eOp oAdd (eC (.int 60)) (eFn fInt (aCons (eOp oIx (eV 8) (eC (.int 1))) (aNil)))) (eOp oIx (eFn oLst (aCons (eC (.int 1)) (aCons (eUn oNeg (eC (.int 1))) (aNil)))) (eOp oMod (eFn fInt (aCons (eV 10) (aNil))) (eC (.int 2))))) (aCons (eC (.int 1)) (aNil)))) (aNil)))) (gN 14))
    (sIf (cNot (cE (eCallN m__law_asked (aCons (eV 5) (aCons (eV 2) (aCons (eV 4) (aCons (eV 6) (aCons (eV 7) (aCons (eOp oIx (eV 9) (eV 10)) (aCons (eV 14) (aNil))))))))))) (sRet (eC (.bl false))) (sNx))))))
    (sSeq (sAsg (eCallN i_Council (aCons (eFn fTup (aCons (eLc (iSq (eV 2)) [15] (gN 15) (cYes) (eOp oAdd (eV 15) (eFn oTup (aCons (eC (.int 0)) (aNil))))) (aNil))) (aCons (eFld tb_rule "rule" (eV 5)) (aNil)))) (gN 12))
    (sRet (eCallN m__law_wrong (aCons (eV 12) (aCons (eFn oTup (aCons (eC (.int 1)) (aCons (eC (.int 2)) (aCons (eC (.int 3)) (aNil))))) (aNil))))))))))))))))
def m_law : List D → Res D := runB 1 1 (sRet (eAnd (eCallN m__law_world (aCons (eV 0) (aCons (eC (.int 0)) (aNil)))) (eCallN m__law_world (aCons (eV 0) (aCons (eC (.int 10)) (aNil))))))
end L2.DL.MM
namespace L2.DL.MM
open PySem PyProof.Rows PySem.Spec
structure Txt (P : Program) (w : World) (K : PySem.W.Frag) (mg : Str → Option Value) (base : Heap) (cls : Nat → Addr) : Prop where
  f_len : mg "len" = none
  f_range : mg "range" = none
  f_int : mg "int" = none
  f_tuple : mg "tuple" = none
  f_sum : mg "sum" = none
  f_max : mg "max" = none
  f_any : mg "any" = none
  f_list : mg "list" = none
  f_sorted : mg "sorted" = none
  f_min : mg "min" = none
  f_isinstance : mg "isinstance" = none
  f_abs : mg "abs" = none
  f_bool : mg "bool" = none
  g_LIMIT : ∃ t, mg "LIMIT" = some (.int 60 t)
  g_gcd : mg "gcd" = some (.builtin "math.gcd")
  fl_many : FldT K cls tb_many
  fl_homes : FldT K cls tb_homes
  fl_rule : FldT K cls tb_rule
  fl_dimension : FldT K cls tb_dimension
  fl_book : FldT K cls tb_book
  fl_least : FldT K cls tb_least
  g_CalmError : mg "CalmError" = some (.ref (cls 0))
  g_WrongDimension : mg "WrongDimension" = some (.ref (cls 14))
  e_WrongDimension : ExF P w K mg base (cls 14) "WrongDimension" ["dimension"]
  cm_CalmError : ∀ c b, cm_CalmError c = some b → PySem.W.exmOne K (.ref (cls c)) (.ref (cls 0)) = some b
  xf_dimension : ∀ c ∈ MM.xf_dimension, XfC K (cls c) ∧ PySem.W.findIn K (.ref (cls c)) "dimension" = some none
  is_WrongDimension : ∀ c b, MM.is_WrongDimension c = some b → ExcC K (cls c) ∧ PySem.W.kitOne K (.ref (cls c)) (.ref (cls 14)) = some b
section
variable {P : Program} {w : World} {K : PySem.W.Frag} {mg : Str → Option Value} {base : Heap} {cls : Nat → Addr}
theorem sc_is_home : FnScope ["home", "dimension", "number"] ["home", "dimension"] (defScope s_is_home) := ⟨rfl, rfl, rfl, by decide +kernel, rfl, by decide +kernel, by decide +kernel⟩
theorem fc_is_home {f : Addr} {fd : FuncData} (T : Txt P w K mg base cls) (F : FunD K "is_home" "is_home" (defArgs s_is_home) (defBody s_is_home) (defScope s_is_home) [] [] f fd) : FnC P w K mg base cls 1 f fd ["home", "dimension"] m_is_home :=
  fnC_of F sc_is_home (fun _ _ _ _ _ _ us hl => match us, hl with | [_, _], _ => rfl) (by decide) (fun cdv A outer s H E H0 S0 hr => by
    have nd := sc_is_home.nd
    exact PSs.nox (dss_cons (ds_if (dt_cmp (os_ne hr.units) (de_fnB cs_len rfl T.f_len (by decide +kernel) (da_cons (dv 0) (da_nil))) (dv 1)) (dss_one (ds_ret (de_bl))) (dss_nil))
    (dss_cons (ds_for (vs := [2]) PassesOwn.never rfl (di_seq (dv 0)) (dg_name (i := 2) nd rfl (by first | exact Or.inl rfl | exact Or.inr rfl) (hv := (by decide))) (dss_one (ds_if (dt_pw (dw_or (dt_cmp (os_lt hr.units0) (dv 2) (de_un os_neg (de_globI rfl T.g_LIMIT))) (dw_or1 (dt_cmp os_gt (dv 2) (de_globI rfl T.g_LIMIT))))) (dss_one (ds_ret (de_bl))) (dss_nil))))
    (dss_one (ds_ret (de_bl))))))
theorem ok_is_home {f : Addr} {fd : FuncData} (T : Txt P w K mg base cls) (F : FunD K "is_home" "is_home" (defArgs s_is_home) (defBody s_is_home) (defScope s_is_home) [] [] f fd) (hm : mg "is_home" = some (.ref f)) : Cal P w K mg base cls 1 "is_home" m_is_home := ⟨f, fd, _, fc_is_home T F, hm⟩

theorem sc_Council___init__ : FnScope ["self", "homes", "rule", "dimension", "voter"] ["self", "homes", "rule"] (defScope s_Council___init__) := ⟨rfl, rfl, rfl, by decide +kernel, rfl, by decide +kernel, by decide +kernel⟩
theorem ok_Council___init__ {f : Addr} {fd : FuncData} (T : Txt P w K mg base cls) (F : FunD K "__init__" "Council.__init__" (defArgs s_Council___init__) (defBody s_Council___init__) (defScope s_Council___init__) [] [] f fd) (mk : Mk K (cls 41) f) (hm : mg "Council" = some (.ref (cls 41))) (C_is_home : Cal P w K mg base cls 1 "is_home" m_is_home) : CalI P w K mg base cls 2 "Council" 41 i_Council :=
  ⟨f, fd, ["self", "homes", "rule"], mk, fnI_of F sc_Council___init__ rfl (by decide) (fun cdv A outer s H E H0 S0 slf hr => by
    have nd := sc_Council___init__.nd
    exact PSs.nox (dss_cons (ds_if (dt_cmp (os_ne hr.units) (de_fnB cs_len rfl T.f_len (by decide +kernel) (da_cons (dv 1) (da_nil))) (de_fld T.fl_many (dv 2))) (dss_one (ds_never)) (dss_nil))
    (dss_cons (ds_set (i := 3) nd rfl (by first | exact Or.inl rfl | exact Or.inr rfl) (de_fnB cs_len rfl T.f_len (by decide +kernel) (da_cons (de_ix xs_ix (dv 1) (de_int)) (da_nil))))
    (dss_cons (ds_for (vs := [4]) PassesOwn.never rfl (di_range1 rfl T.f_range (da_cons (de_fnB cs_len rfl T.f_len (by decide +kernel) (da_cons (dv 1) (da_nil))) (da_nil))) (dg_name (i := 4) nd rfl (by first | exact Or.inl rfl | exact Or.inr rfl) (hv := (by decide))) (dss_one (ds_if (dt_pw (dw_or (dt_cmp (os_lt hr.units0) (dv 3) (de_int)) (dw_or (dt_cmp os_gt (dv 3) (de_int)) (dw_or1 (dt_not (dt_val (de_call C_is_home (hr.mono (by decide)) rfl (da_cons (de_ix xs_ix (dv 1) (dv 4)) (da_cons (dv 3) (da_nil)))))))))) (dss_one (ds_never)) (dss_nil))))
    (dss_cons (ds_setF 0 T.fl_homes (dv 1))
    (dss_cons (ds_setF 0 T.fl_rule (dv 2))
    (dss_cons (ds_setF 0 T.fl_dimension (dv 3))
    (dss_one (ds_setF 0 T.fl_many (de_fnB cs_len rfl T.f_len (by decide +kernel) (da_cons (dv 1) (da_nil)))))))))))), F.bindsN (fun _ _ _ _ _ _ us hl => match us, hl with | [_, _, _], _ => rfl), hm, runI_only⟩

theorem sc__law_digits : FnScope ["cell", "sizes", "row", "rest", "seed", "k", "size", "twice"] ["cell", "sizes"] (defScope s__law_digits) := ⟨rfl, rfl, rfl, by decide +kernel, rfl, by decide +kernel, by decide +kernel⟩
theorem fc__law_digits {f : Addr} {fd : FuncData} (T : Txt P w K mg base cls) (F : FunD K "_law_digits" "_law_digits" (defArgs s__law_digits) (defBody s__law_digits) (defScope s__law_digits) [] [] f fd) : FnC P w K mg base cls 1 f fd ["cell", "sizes"] m__law_digits :=
  fnC_of F sc__law_digits (fun _ _ _ _ _ _ us hl => match us, hl with | [_, _], _ => rfl) (by decide) (fun cdv A outer s H E H0 S0 hr => by
    have nd := sc__law_digits.nd
    exact PSs.nox (dss_cons (ds_newL (i := 2) nd rfl (by first | exact Or.inl rfl | exact Or.inr rfl) (da_nil))
    (dss_cons (ds_set (i := 3) nd rfl (by first | exact Or.inl rfl | exact Or.inr rfl) (de_fnT cs_int rfl T.f_int (by decide +kernel) (da_cons (dv 0) (da_nil))))
    (dss_cons (ds_if (dt_cmp os_ge (dv 3) (de_op os_pow (de_int) (de_int))) (dss_cons (ds_set (i := 3) nd rfl (by first | exact Or.inl rfl | exact Or.inr rfl) (de_op os_sub (dv 3) (de_op os_pow (de_int) (de_int))))
    (dss_cons (ds_for (vs := [6]) PassesOwn.never rfl (di_seq (dv 1)) (dg_name (i := 6) nd rfl (by first | exact Or.inl rfl | exact Or.inr rfl) (hv := (by decide))) (dss_cons (ds_app (i := 2) (de_op os_mod (de_fnT cs_int rfl T.f_int (by decide +kernel) (da_cons (dv 3) (da_nil))) (dv 6)))
    (dss_one (ds_set (i := 3) nd rfl (by first | exact Or.inl rfl | exact Or.inr rfl) (de_op os_fdiv (de_fnT cs_int rfl T.f_int (by decide +kernel) (da_cons (dv 3) (da_nil))) (dv 6))))))
    (dss_frz 2 (dss_one (ds_ret (dv 2)))))) (dss_nil))
    (dss_cons (ds_set (i := 4) nd rfl (by first | exact Or.inl rfl | exact Or.inr rfl) (de_op os_mod (de_fnT cs_int rfl T.f_int (by decide +kernel) (da_cons (dv 3) (da_nil))) (de_int)))
    (dss_cons (ds_for (vs := [5]) PassesOwn.never rfl (di_range1 rfl T.f_range (da_cons (de_fnB cs_len rfl T.f_len (by decide +kernel) (da_cons (dv 1) (da_nil))) (da_nil))) (dg_name (i := 5) nd rfl (by first | exact Or.inl rfl | exact Or.inr rfl) (hv := (by decide))) (dss_cons (ds_set (i := 4) nd rfl (by first | exact Or.inl rfl | exact Or.inr rfl) (de_op os_mod (de_fnT cs_int rfl T.f_int (by decide +kernel) (da_cons (de_op os_add (de_op os_add (de_op os_mul (dv 4) (de_int)) (de_op os_mul (de_int) (dv 5))) (de_int)) (da_nil))) (de_int)))
    (dss_cons (ds_set (i := 7) nd rfl (by first | exact Or.inl rfl | exact Or.inr rfl) (de_op os_mod (de_fnT cs_int rfl T.f_int (by decide +kernel) (da_cons (de_op os_mul (dv 4) (de_op os_add (de_op os_fdiv (dv 4) (de_int)) (de_int))) (da_nil))) (de_int)))
    (dss_one (ds_app (i := 2) (de_op os_mod (de_op os_fdiv (dv 7) (de_int)) (de_ix xs_ix (dv 1) (dv 5))))))))
    (dss_frz 2 (dss_one (ds_ret (dv 2))))))))))
theorem ok__law_digits {f : Addr} {fd : FuncData} (T : Txt P w K mg base cls) (F : FunD K "_law_digits" "_law_digits" (defArgs s__law_digits) (defBody s__law_digits) (defScope s__law_digits) [] [] f fd) (hm : mg "_law_digits" = some (.ref f)) : Cal P w K mg base cls 1 "_law_digits" m__law_digits := ⟨f, fd, _, fc__law_digits T F, hm⟩

theorem sc__law_voters : FnScope ["number", "many", "k"] ["number", "many"] (defScope s__law_voters) := ⟨rfl, rfl, rfl, by decide +kernel, rfl, by decide +kernel, by decide +kernel⟩
theorem fc__law_voters {f : Addr} {fd : FuncData} (T : Txt P w K mg base cls) (F : FunD K "_law_voters" "_law_voters" (defArgs s__law_voters) (defBody s__law_voters) (defScope s__law_voters) [] [] f fd) : FnC P w K mg base cls 1 f fd ["number", "many"] m__law_voters :=
  fnC_of F sc__law_voters (fun _ _ _ _ _ _ us hl => match us, hl with | [_, _], _ => rfl) (by decide) (fun cdv A outer s H E H0 S0 hr => by
    have nd := sc__law_voters.nd
    exact PSs.nox (dss_one (ds_ret (de_fnT cs_tup rfl T.f_tuple (by decide +kernel) (da_cons (de_lc (own := [("k", 2)]) rfl nd (di_range1 rfl T.f_range (da_cons (dv 1) (da_nil))) (blkOk_by (N := ["number", "many", "k"]) (sc := defScope s__law_voters) (by decide +kernel)) (fun _ _ _ _ _ => dg_name (i := 2) nd rfl (by first | exact Or.inl rfl | exact Or.inr rfl) (hv := (by decide))) (fun _ _ _ _ _ => pts_one (dt_cmp (os_eq hr.units) (de_op os_band (de_op os_shr (dv 0) (dv 2)) (de_int)) (de_int))) (fun _ _ _ _ _ => dv 2)) (da_nil))))))
theorem ok__law_voters {f : Addr} {fd : FuncData} (T : Txt P w K mg base cls) (F : FunD K "_law_voters" "_law_voters" (defArgs s__law_voters) (defBody s__law_voters) (defScope s__law_voters) [] [] f fd) (hm : mg "_law_voters" = some (.ref f)) : Cal P w K mg base cls 1 "_law_voters" m__law_voters := ⟨f, fd, _, fc__law_voters T F, hm⟩

theorem sc__law_words : FnScope ["row", "many", "alike", "weights", "told", "more", "half", "lots", "menu", "k"] ["row", "many"] (defScope s__law_words) := ⟨rfl, rfl, rfl, by decide +kernel, rfl, by decide +kernel, by decide +kernel⟩
theorem fc__law_words {f : Addr} {fd : FuncData} (T : Txt P w K mg base cls) (F : FunD K "_law_words" "_law_words" (defArgs s__law_words) (defBody s__law_words) (defScope s__law_words) [] [] f fd) (C__law_voters : Cal P w K mg base cls 1 "_law_voters" m__law_voters) : FnC P w K mg base cls 2 f fd ["row", "many"] m__law_words :=
  fnC_of F sc__law_words (fun _ _ _ _ _ _ us hl => match us, hl with | [_, _], _ => rfl) (by decide) (fun cdv A outer s H E H0 S0 hr => by
    have nd := sc__law_words.nd
    exact PSs.nox (dss_cons (ds_set (i := 2) nd rfl (by first | exact Or.inl rfl | exact Or.inr rfl) (de_fnT cs_tup rfl T.f_tuple (by decide +kernel) (da_cons (de_lc (own := [("k", 9)]) rfl nd (di_range1 rfl T.f_range (da_cons (dv 1) (da_nil))) (blkOk_by (N := ["row", "many", "alike", "weights", "told", "more", "half", "lots", "menu", "k"]) (sc := defScope s__law_words) (by decide +kernel)) (fun _ _ _ _ _ => dg_name (i := 9) nd rfl (by first | exact Or.inl rfl | exact Or.inr rfl) (hv := (by decide))) (fun _ _ _ _ _ => dts_nil) (fun _ _ _ _ _ => de_int)) (da_nil))))
    (dss_cons (ds_set (i := 3) nd rfl (by first | exact Or.inl rfl | exact Or.inr rfl) (de_fnT cs_tup rfl T.f_tuple (by decide +kernel) (da_cons (de_lc (own := [("k", 9)]) rfl nd (di_range1 rfl T.f_range (da_cons (dv 1) (da_nil))) (blkOk_by (N := ["row", "many", "alike", "weights", "told", "more", "half", "lots", "menu", "k"]) (sc := defScope s__law_words) (by decide +kernel)) (fun _ _ _ _ _ => dg_name (i := 9) nd rfl (by first | exact Or.inl rfl | exact Or.inr rfl) (hv := (by decide))) (fun _ _ _ _ _ => dts_nil) (fun _ _ _ _ _ => de_op os_mod (de_fnT cs_int rfl T.f_int (by decide +kernel) (da_cons (de_ix xs_ix (dv 0) (de_op os_add (de_int) (dv 9))) (da_nil))) (de_ix xs_ix (de_lst (da_cons (de_int) (da_cons (de_int) (da_cons (de_int) (da_cons (de_int) (da_nil)))))) (de_op os_mod (de_fnT cs_int rfl T.f_int (by decide +kernel) (da_cons (de_ix xs_ix (dv 0) (de_int)) (da_nil))) (de_int))))) (da_nil))))
    (dss_cons (ds_if (dt_cmp (os_eq hr.units) (de_fnB (cs_sum rfl) rfl T.f_sum (by decide +kernel) (da_cons (dv 3) (da_nil))) (de_int)) (dss_one (ds_set (i := 3) nd rfl (by first | exact Or.inl rfl | exact Or.inr rfl) (dv 2))) (dss_nil))
    (dss_cons (ds_set (i := 4) nd rfl (by first | exact Or.inl rfl | exact Or.inr rfl) (de_tup (da_cons (de_str) (da_cons (dv 3) (da_cons (de_op os_add (de_int) (de_op os_mod (de_fnT cs_int rfl T.f_int (by decide +kernel) (da_cons (de_ix xs_ix (dv 0) (de_int)) (da_nil))) (de_fnB (cs_sum rfl) rfl T.f_sum (by decide +kernel) (da_cons (dv 3) (da_nil))))) (da_nil))))))
    (dss_cons (ds_set (i := 5) nd rfl (by first | exact Or.inl rfl | exact Or.inr rfl) (de_tup (da_cons (de_str) (da_cons (dv 3) (da_cons (de_op os_add (de_op os_fdiv (de_fnB (cs_sum rfl) rfl T.f_sum (by decide +kernel) (da_cons (dv 3) (da_nil))) (de_int)) (de_int)) (da_nil))))))
    (dss_cons (ds_set (i := 6) nd rfl (by first | exact Or.inl rfl | exact Or.inr rfl) (de_tup (da_cons (de_str) (da_cons (dv 2) (da_cons (de_op os_add (de_op os_fdiv (dv 1) (de_int)) (de_int)) (da_nil))))))
    (dss_cons (ds_set (i := 7) nd rfl (by first | exact Or.inl rfl | exact Or.inr rfl) (de_fnT cs_tup rfl T.f_tuple (by decide +kernel) (da_cons (de_lc (own := [("k", 9)]) rfl nd (di_range1 rfl T.f_range (da_cons (de_int) (da_nil))) (blkOk_by (N := ["row", "many", "alike", "weights", "told", "more", "half", "lots", "menu", "k"]) (sc := defScope s__law_words) (by decide +kernel)) (fun _ _ _ _ _ => dg_name (i := 9) nd rfl (by first | exact Or.inl rfl | exact Or.inr rfl) (hv := (by decide))) (fun _ _ _ _ _ => dts_nil) (fun _ _ _ _ _ => de_call C__law_voters (hr.mono (by decide)) rfl (da_cons (de_op os_add (de_int) (de_op os_mod (de_op os_mod (de_fnT cs_int rfl T.f_int (by decide +kernel) (da_cons (de_ix xs_ix (dv 0) (de_op os_add (de_int) (dv 9))) (da_nil))) (de_op os_sub (de_op os_pow (de_int) (de_int)) (de_int))) (de_op os_sub (de_op os_shl (de_int) (dv 1)) (de_int)))) (da_cons (dv 1) (da_nil))))) (da_nil))))
    (dss_cons (ds_set (i := 8) nd rfl (by first | exact Or.inl rfl | exact Or.inr rfl) (de_lst (da_cons (dv 6) (da_cons (dv 6) (da_cons (dv 6) (da_cons (de_tup (da_cons (de_str) (da_cons (dv 2) (da_cons (de_op os_add (de_int) (de_op os_mod (de_fnT cs_int rfl T.f_int (by decide +kernel) (da_cons (de_ix xs_ix (dv 0) (de_int)) (da_nil))) (dv 1))) (da_nil))))) (da_cons (dv 4) (da_cons (dv 5) (da_nil)))))))))
    (dss_cons (ds_set (i := 8) nd rfl (by first | exact Or.inl rfl | exact Or.inr rfl) (de_op os_add (dv 8) (de_lst (da_cons (de_tup (da_cons (de_str) (da_cons (de_cut (dv 7) dp_no (dp_e (de_op os_add (de_int) (de_op os_mod (de_fnT cs_int rfl T.f_int (by decide +kernel) (da_cons (de_ix xs_ix (dv 0) (de_int)) (da_nil))) (de_int))))) (da_nil)))) (da_cons (de_tup (da_cons (de_str) (da_cons (dv 6) (da_cons (de_tup (da_cons (de_str) (da_cons (de_cut (dv 7) dp_no (dp_e (de_int))) (da_nil)))) (da_nil))))) (da_nil))))))
    (dss_cons (ds_set (i := 8) nd rfl (by first | exact Or.inl rfl | exact Or.inr rfl) (de_op os_add (dv 8) (de_lst (da_cons (de_tup (da_cons (de_str) (da_cons (dv 6) (da_cons (de_tup (da_cons (de_str) (da_cons (de_cut (dv 7) dp_no (dp_e (de_int))) (da_nil)))) (da_nil))))) (da_cons (de_tup (da_cons (de_str) (da_cons (dv 4) (da_nil)))) (da_cons (de_tup (da_cons (de_str) (da_cons (dv 5) (da_cons (de_tup (da_cons (de_str) (da_cons (de_cut (dv 7) dp_no (dp_e (de_int))) (da_nil)))) (da_nil))))) (da_nil)))))))
    (dss_cons (ds_set (i := 8) nd rfl (by first | exact Or.inl rfl | exact Or.inr rfl) (de_op os_add (dv 8) (de_lst (da_cons (de_tup (da_cons (de_str) (da_cons (dv 2) (da_cons (de_fnB (cs_max rfl) rfl T.f_max (by decide +kernel) (da_cons (de_int) (da_cons (de_op os_fdiv (de_op os_add (de_op os_mul (de_int) (dv 1)) (de_int)) (de_int)) (da_nil)))) (da_nil))))) (da_nil)))))
    (dss_one (ds_ret (de_ix xs_ix (dv 8) (de_ix xs_ix (dv 0) (de_int)))))))))))))))))
theorem ok__law_words {f : Addr} {fd : FuncData} (T : Txt P w K mg base cls) (F : FunD K "_law_words" "_law_words" (defArgs s__law_words) (defBody s__law_words) (defScope s__law_words) [] [] f fd) (hm : mg "_law_words" = some (.ref f)) (C__law_voters : Cal P w K mg base cls 1 "_law_voters" m__law_voters) : Cal P w K mg base cls 2 "_law_words" m__law_words := ⟨f, fd, _, fc__law_words T F C__law_voters, hm⟩

theorem sc__law_homes : FnScope ["row", "many", "size", "span", "wide", "free", "plan", "step", "told", "k", "pair", "factor", "j", "number"] ["row", "many", "size", "span"] (defScope s__law_homes) := ⟨rfl, rfl, rfl, by decide +kernel, rfl, by decide +kernel, by decide +kernel⟩
theorem fc__law_homes {f : Addr} {fd : FuncData} (T : Txt P w K mg base cls) (F : FunD K "_law_homes" "_law_homes" (defArgs s__law_homes) (defBody s__law_homes) (defScope s__law_homes) [] [] f fd) : FnC P w K mg base cls 1 f fd ["row", "many", "size", "span"] m__law_homes :=
  fnC_of F sc__law_homes (fun _ _ _ _ _ _ us hl => match us, hl with | [_, _, _, _], _ => rfl) (by decide) (fun cdv A outer s H E H0 S0 hr => by
    have nd := sc__law_homes.nd
    exact PSs.nox (dss_cons (ds_set (i := 4) nd rfl (by first | exact Or.inl rfl | exact Or.inr rfl) (de_op os_add (de_op os_mul (de_int) (dv 3)) (de_int)))
    (dss_cons (ds_set (i := 5) nd rfl (by first | exact Or.inl rfl | exact Or.inr rfl) (de_lc (own := [("k", 9)]) rfl nd (di_range1 rfl T.f_range (da_cons (dv 1) (da_nil))) (blkOk_by (N := ["row", "many", "size", "span", "wide", "free", "plan", "step", "told", "k", "pair", "factor", "j", "number"]) (sc := defScope s__law_homes) (by decide +kernel)) (fun _ _ _ _ _ => dg_name (i := 9) nd rfl (by first | exact Or.inl rfl | exact Or.inr rfl) (hv := (by decide))) (fun _ _ _ _ _ => dts_nil) (fun _ _ _ _ _ => de_fnT cs_tup rfl T.f_tuple (by decide +kernel) (da_cons (de_lc (own := [("j", 12)]) rfl nd (di_range1 rfl T.f_range (da_cons (dv 2) (da_nil))) (blkOk_by (by kernel_rfl)) (fun _ _ _ _ _ => dg_name (i := 12) nd rfl (by first | exact Or.inl rfl | exact Or.inr rfl) (hv := (by decide))) (fun _ _ _ _ _ => dts_nil) (fun _ _ _ _ _ => de_op os_sub (de_op os_mod (de_fnT cs_int rfl T.f_int (by decide +kernel) (da_cons (de_ix xs_ix (dv 0) (de_op os_add (de_op os_add (de_int) (de_op os_mul (dv 2) (dv 9))) (dv 12))) (da_nil))) (dv 4)) (dv 3))) (da_nil)))))
    (dss_cons (ds_set (i := 6) nd rfl (by first | exact Or.inl rfl | exact Or.inr rfl) (de_ix xs_ix (dv 0) (de_int)))
    (dss_cons (ds_if (dt_cmp (os_eq hr.units) (dv 6) (de_int)) (dss_one (ds_ret (de_fnT cs_tup rfl T.f_tuple (by decide +kernel) (da_cons (de_lc (own := [("k", 9)]) rfl nd (di_range1 rfl T.f_range (da_cons (dv 1) (da_nil))) (blkOk_by (N := ["row", "many", "size", "span", "wide", "free", "plan", "step", "told", "k", "pair", "factor", "j", "number"]) (sc := defScope s__law_homes) (by decide +kernel)) (fun _ _ _ _ _ => dg_name (i := 9) nd rfl (by first | exact Or.inl rfl | exact Or.inr rfl) (hv := (by decide))) (fun _ _ _ _ _ => dts_nil) (fun _ _ _ _ _ => de_ix xs_ix (dv 5) (de_op os_fdiv (de_fnT cs_int rfl T.f_int (by decide +kernel) (da_cons (de_op os_mul (dv 9) (de_int)) (da_nil))) (de_int)))) (da_nil))))) (dss_nil))
    (dss_cons (ds_if (dt_pw (dw_and (dt_cmp (os_eq hr.units) (dv 6) (de_int)) (dw_and1 (dt_cmp os_gt (dv 2) (de_int))))) (dss_cons (ds_set (i := 7) nd rfl (by first | exact Or.inl rfl | exact Or.inr rfl) (de_fnT cs_tup rfl T.f_tuple (by decide +kernel) (da_cons (de_lc (own := [("j", 12)]) rfl nd (di_range1 rfl T.f_range (da_cons (dv 2) (da_nil))) (blkOk_by (N := ["row", "many", "size", "span", "wide", "free", "plan", "step", "told", "k", "pair", "factor", "j", "number"]) (sc := defScope s__law_homes) (by decide +kernel)) (fun _ _ _ _ _ => dg_name (i := 12) nd rfl (by first | exact Or.inl rfl | exact Or.inr rfl) (hv := (by decide))) (fun _ _ _ _ _ => dts_nil) (fun _ _ _ _ _ => de_op os_fdiv (de_ix xs_ix (de_ix xs_ix (dv 5) (de_int)) (dv 12)) (de_int))) (da_nil))))
    (dss_one (ds_ret (de_fnT cs_tup rfl T.f_tuple (by decide +kernel) (da_cons (de_lc (own := [("k", 9)]) rfl nd (di_range1 rfl T.f_range (da_cons (dv 1) (da_nil))) (blkOk_by (N := ["row", "many", "size", "span", "wide", "free", "plan", "step", "told", "k", "pair", "factor", "j", "number"]) (sc := defScope s__law_homes) (by decide +kernel)) (fun _ _ _ _ _ => dg_name (i := 9) nd rfl (by first | exact Or.inl rfl | exact Or.inr rfl) (hv := (by decide))) (fun _ _ _ _ _ => dts_nil) (fun _ _ _ _ _ => de_fnT cs_tup rfl T.f_tuple (by decide +kernel) (da_cons (de_lc (own := [("j", 12)]) rfl nd (di_range1 rfl T.f_range (da_cons (dv 2) (da_nil))) (blkOk_by (by kernel_rfl)) (fun _ _ _ _ _ => dg_name (i := 12) nd rfl (by first | exact Or.inl rfl | exact Or.inr rfl) (hv := (by decide))) (fun _ _ _ _ _ => dts_nil) (fun _ _ _ _ _ => de_op os_mul (de_ix xs_ix (dv 7) (dv 12)) (de_op os_sub (de_op os_mod (de_fnT cs_int rfl T.f_int (by decide +kernel) (da_cons (de_ix xs_ix (dv 0) (de_op os_add (de_int) (de_op os_mul (dv 2) (dv 9)))) (da_nil))) (de_int)) (de_int)))) (da_nil)))) (da_nil)))))) (dss_nil))
    (dss_cons (ds_if (dt_pw (dw_or (dt_cmp (os_eq hr.units) (dv 6) (de_int)) (dw_or1 (dt_cmp (os_eq hr.units) (dv 6) (de_int))))) (dss_cons (ds_newL (i := 8) nd rfl (by first | exact Or.inl rfl | exact Or.inr rfl) (da_cons (de_fnT cs_tup rfl T.f_tuple (by decide +kernel) (da_cons (de_lc (own := [("number", 13)]) rfl nd (di_seq (de_ix xs_ix (dv 5) (de_int))) (blkOk_by (N := ["row", "many", "size", "span", "wide", "free", "plan", "step", "told", "k", "pair", "factor", "j", "number"]) (sc := defScope s__law_homes) (by decide +kernel)) (fun _ _ _ _ _ => dg_name (i := 13) nd rfl (by first | exact Or.inl rfl | exact Or.inr rfl) (hv := (by decide))) (fun _ _ _ _ _ => dts_nil) (fun _ _ _ _ _ => de_op os_fdiv (dv 13) (de_int))) (da_nil))) (da_nil)))
    (dss_cons (ds_for (vs := [9]) PassesOwn.never rfl (di_range2 rfl T.f_range (da_cons (de_int) (da_cons (dv 1) (da_nil)))) (dg_name (i := 9) nd rfl (by first | exact Or.inl rfl | exact Or.inr rfl) (hv := (by decide))) (dss_cons (ds_set (i := 10) nd rfl (by first | exact Or.inl rfl | exact Or.inr rfl) (de_ix xs_ix (dv 5) (de_op os_fdiv (de_op os_add (dv 9) (de_int)) (de_int))))
    (dss_cons (ds_set (i := 11) nd rfl (by first | exact Or.inl rfl | exact Or.inr rfl) (de_op os_mul (de_ix xs_ix (de_lst (da_cons (de_int) (da_cons (de_un os_neg (de_int)) (da_nil)))) (de_op os_mod (de_fnT cs_int rfl T.f_int (by decide +kernel) (da_cons (dv 9) (da_nil))) (de_int))) (de_op os_add (de_int) (de_op os_mod (de_fnT cs_int rfl T.f_int (by decide +kernel) (da_cons (de_ix xs_ix (dv 0) (de_op os_add (de_int) (de_op os_mul (dv 2) (dv 9)))) (da_nil))) (de_int)))))
    (dss_one (ds_app (i := 8) (de_fnT cs_tup rfl T.f_tuple (by decide +kernel) (da_cons (de_lc (own := [("j", 12)]) rfl nd (di_range1 rfl T.f_range (da_cons (dv 2) (da_nil))) (blkOk_by (N := ["row", "many", "size", "span", "wide", "free", "plan", "step", "told", "k", "pair", "factor", "j", "number"]) (sc := defScope s__law_homes) (by decide +kernel)) (fun _ _ _ _ _ => dg_name (i := 12) nd rfl (by first | exact Or.inl rfl | exact Or.inr rfl) (hv := (by decide))) (fun _ _ _ _ _ => dts_nil) (fun _ _ _ _ _ => de_op os_add (de_ix xs_ix (de_ixB 8 (de_int)) (dv 12)) (de_op os_mul (dv 11) (de_op os_fdiv (de_ix xs_ix (dv 10) (dv 12)) (de_int))))) (da_nil))))))))
    (dss_cons (ds_if (dt_cmp (os_eq hr.units) (dv 6) (de_int)) (dss_one (ds_setI (i := 8) (de_op os_sub (dv 1) (de_int)) (de_op os_add (de_fnT cs_tup rfl T.f_tuple (by decide +kernel) (da_cons (de_lst (da_cons (de_op os_add (de_ix xs_ix (de_ixB 8 (de_op os_sub (dv 1) (de_int))) (de_int)) (de_int)) (da_nil))) (da_nil))) (de_cut (de_ixB 8 (de_op os_sub (dv 1) (de_int))) (dp_e (de_int)) dp_no)))) (dss_nil))
    (dss_frz 8 (dss_one (ds_ret (de_fnT cs_tup rfl T.f_tuple (by decide +kernel) (da_cons (dv 8) (da_nil))))))))) (dss_nil))
    (dss_one (ds_ret (de_fnT cs_tup rfl T.f_tuple (by decide +kernel) (da_cons (dv 5) (da_nil))))))))))))
theorem ok__law_homes {f : Addr} {fd : FuncData} (T : Txt P w K mg base cls) (F : FunD K "_law_homes" "_law_homes" (defArgs s__law_homes) (defBody s__law_homes) (defScope s__law_homes) [] [] f fd) (hm : mg "_law_homes" = some (.ref f)) : Cal P w K mg base cls 1 "_law_homes" m__law_homes := ⟨f, fd, _, fc__law_homes T F, hm⟩

theorem sc__law_cell : FnScope ["script", "k", "seed", "cell"] ["script", "k"] (defScope s__law_cell) := ⟨rfl, rfl, rfl, by decide +kernel, rfl, by decide +kernel, by decide +kernel⟩
theorem fc__law_cell {f : Addr} {fd : FuncData} (T : Txt P w K mg base cls) (F : FunD K "_law_cell" "_law_cell" (defArgs s__law_cell) (defBody s__law_cell) (defScope s__law_cell) [] [] f fd) : FnC P w K mg base cls 1 f fd ["script", "k"] m__law_cell :=
  fnC_of F sc__law_cell (fun _ _ _ _ _ _ us hl => match us, hl with | [_, _], _ => rfl) (by decide) (fun cdv A outer s H E H0 S0 hr => by
    have nd := sc__law_cell.nd
    exact PSs.nox (dss_cons (ds_if (dt_cmp (os_lt hr.units0) (dv 1) (de_fnB cs_len rfl T.f_len (by decide +kernel) (da_cons (dv 0) (da_nil)))) (dss_one (ds_ret (de_ix xs_ix (dv 0) (dv 1)))) (dss_nil))
    (dss_cons (ds_set (i := 2) nd rfl (by first | exact Or.inl rfl | exact Or.inr rfl) (de_int))
    (dss_cons (ds_for (vs := [3]) PassesOwn.never rfl (di_seq (dv 0)) (dg_name (i := 3) nd rfl (by first | exact Or.inl rfl | exact Or.inr rfl) (hv := (by decide))) (dss_one (ds_set (i := 2) nd rfl (by first | exact Or.inl rfl | exact Or.inr rfl) (de_op os_mod (de_fnT cs_int rfl T.f_int (by decide +kernel) (da_cons (de_op os_add (de_op os_mul (dv 2) (de_int)) (de_op os_mod (de_fnT cs_int rfl T.f_int (by decide +kernel) (da_cons (dv 3) (da_nil))) (de_int))) (da_nil))) (de_int)))))
    (dss_one (ds_ret (de_op os_mod (de_fnT cs_int rfl T.f_int (by decide +kernel) (da_cons (de_op os_mul (de_op os_mul (de_op os_add (dv 2) (de_int)) (de_op os_add (dv 1) (de_int))) (de_int)) (da_nil))) (de_int))))))))
theorem ok__law_cell {f : Addr} {fd : FuncData} (T : Txt P w K mg base cls) (F : FunD K "_law_cell" "_law_cell" (defArgs s__law_cell) (defBody s__law_cell) (defScope s__law_cell) [] [] f fd) (hm : mg "_law_cell" = some (.ref f)) : Cal P w K mg base cls 1 "_law_cell" m__law_cell := ⟨f, fd, _, fc__law_cell T F, hm⟩

theorem sc__law_number : FnScope ["lot", "total", "voter"] ["lot"] (defScope s__law_number) := ⟨rfl, rfl, rfl, by decide +kernel, rfl, by decide +kernel, by decide +kernel⟩
theorem fc__law_number {f : Addr} {fd : FuncData} (T : Txt P w K mg base cls) (F : FunD K "_law_number" "_law_number" (defArgs s__law_number) (defBody s__law_number) (defScope s__law_number) [] [] f fd) : FnC P w K mg base cls 1 f fd ["lot"] m__law_number :=
  fnC_of F sc__law_number (fun _ _ _ _ _ _ us hl => match us, hl with | [_], _ => rfl) (by decide) (fun cdv A outer s H E H0 S0 hr => by
    have nd := sc__law_number.nd
    exact PSs.nox (dss_cons (ds_set (i := 1) nd rfl (by first | exact Or.inl rfl | exact Or.inr rfl) (de_int))
    (dss_cons (ds_for (vs := [2]) PassesOwn.never rfl (di_seq (dv 0)) (dg_name (i := 2) nd rfl (by first | exact Or.inl rfl | exact Or.inr rfl) (hv := (by decide))) (dss_one (ds_set (i := 1) nd rfl (by first | exact Or.inl rfl | exact Or.inr rfl) (de_op os_add (dv 1) (de_op os_shl (de_int) (dv 2))))))
    (dss_one (ds_ret (dv 1))))))
theorem ok__law_number {f : Addr} {fd : FuncData} (T : Txt P w K mg base cls) (F : FunD K "_law_number" "_law_number" (defArgs s__law_number) (defBody s__law_number) (defScope s__law_number) [] [] f fd) (hm : mg "_law_number" = some (.ref f)) : Cal P w K mg base cls 1 "_law_number" m__law_number := ⟨f, fd, _, fc__law_number T F, hm⟩

theorem sc__law_table : FnScope ["words", "many", "size", "first", "second", "sums", "weight", "numbers", "number", "known", "lot"] ["words", "many"] (defScope s__law_table) := ⟨rfl, rfl, rfl, by decide +kernel, rfl, by decide +kernel, by decide +kernel⟩
theorem st__law_table {f : Addr} {fd : FuncData} {g : List D → Res D} (n : Nat) (T : Txt P w K mg base cls) (F : FunD K "_law_table" "_law_table" (defArgs s__law_table) (defBody s__law_table) (defScope s__law_table) [] [] f fd) (hm : mg "_law_table" = some (.ref f)) (C__law_number : Cal P w K mg base cls 1 "_law_number" m__law_number) (C__law_table : Cal P w K mg base cls (1 + n) "_law_table" g) : Cal P w K mg base cls (1 + n + 1) "_law_table" (r__law_table g) :=
  ⟨f, fd, ["words", "many"], fnC_of F sc__law_table (fun _ _ _ _ _ _ us hl => match us, hl with | [_, _], _ => rfl) (by decide) (fun cdv A outer s H E H0 S0 hr => by
    have nd := sc__law_table.nd
    exact PSs.nox (dss_cons (ds_set (i := 2) nd rfl (by first | exact Or.inl rfl | exact Or.inr rfl) (de_op os_shl (de_int) (dv 1)))
    (dss_cons (ds_if (dt_cmp (os_eq hr.units) (de_ix xs_ix (dv 0) (de_int)) (de_str)) (dss_cons (ds_set (i := 5) nd rfl (by first | exact Or.inl rfl | exact Or.inr rfl) (de_lst (da_cons (de_int) (da_nil))))
    (dss_cons (ds_for (vs := [6]) PassesOwn.never rfl (di_seq (de_ix xs_ix (dv 0) (de_int))) (dg_name (i := 6) nd rfl (by first | exact Or.inl rfl | exact Or.inr rfl) (hv := (by decide))) (dss_one (ds_set (i := 5) nd rfl (by first | exact Or.inl rfl | exact Or.inr rfl) (de_op os_add (dv 5) (de_lc (own := [("known", 9)]) rfl nd (di_seq (dv 5)) (blkOk_by (N := ["words", "many", "size", "first", "second", "sums", "weight", "numbers", "number", "known", "lot"]) (sc := defScope s__law_table) (by decide +kernel)) (fun _ _ _ _ _ => dg_name (i := 9) nd rfl (by first | exact Or.inl rfl | exact Or.inr rfl) (hv := (by decide))) (fun _ _ _ _ _ => dts_nil) (fun _ _ _ _ _ => de_op os_add (dv 9) (dv 6)))))))
    (dss_one (ds_ret (de_lc (own := [("known", 9)]) rfl nd (di_seq (dv 5)) (blkOk_by (N := ["words", "many", "size", "first", "second", "sums", "weight", "numbers", "number", "known", "lot"]) (sc := defScope s__law_table) (by decide +kernel)) (fun _ _ _ _ _ => dg_name (i := 9) nd rfl (by first | exact Or.inl rfl | exact Or.inr rfl) (hv := (by decide))) (fun _ _ _ _ _ => dts_nil) (fun _ _ _ _ _ => de_cmp os_ge (dv 9) (de_ix xs_ix (dv 0) (de_int)))))))) (dss_nil))
    (dss_cons (ds_if (dt_cmp (os_eq hr.units) (de_ix xs_ix (dv 0) (de_int)) (de_str)) (dss_cons (ds_set (i := 7) nd rfl (by first | exact Or.inl rfl | exact Or.inr rfl) (de_lc (own := [("lot", 10)]) rfl nd (di_seq (de_ix xs_ix (dv 0) (de_int))) (blkOk_by (N := ["words", "many", "size", "first", "second", "sums", "weight", "numbers", "number", "known", "lot"]) (sc := defScope s__law_table) (by decide +kernel)) (fun _ _ _ _ _ => dg_name (i := 10) nd rfl (by first | exact Or.inl rfl | exact Or.inr rfl) (hv := (by decide))) (fun _ _ _ _ _ => dts_nil) (fun _ _ _ _ _ => de_call C__law_number (hr.mono (by omega)) rfl (da_cons (dv 10) (da_nil)))))
    (dss_one (ds_ret (de_lc (own := [("number", 8)]) rfl nd (di_range1 rfl T.f_range (da_cons (dv 2) (da_nil))) (blkOk_by (N := ["words", "many", "size", "first", "second", "sums", "weight", "numbers", "number", "known", "lot"]) (sc := defScope s__law_table) (by decide +kernel)) (fun _ _ _ _ _ => dg_name (i := 8) nd rfl (by first | exact Or.inl rfl | exact Or.inr rfl) (hv := (by decide))) (fun _ _ _ _ _ => dts_nil) (fun _ _ _ _ _ => de_fnB (cs_any rfl) rfl T.f_any (by decide +kernel) (da_cons (de_lc (own := [("known", 9)]) rfl nd (di_seq (dv 7)) (blkOk_by (by kernel_rfl)) (fun _ _ _ _ _ => dg_name (i := 9) nd rfl (by first | exact Or.inl rfl | exact Or.inr rfl) (hv := (by decide))) (fun _ _ _ _ _ => dts_nil) (fun _ _ _ _ _ => de_cmp (os_eq hr.units) (de_op os_band (dv 8) (dv 9)) (dv 9))) (da_nil))))))) (dss_nil))
    (dss_cons (ds_set (i := 3) nd rfl (by first | exact Or.inl rfl | exact Or.inr rfl) (de_call C__law_table (hr.mono (by omega)) rfl (da_cons (de_ix xs_ix (dv 0) (de_int)) (da_cons (dv 1) (da_nil)))))
    (dss_cons (ds_if (dt_cmp (os_eq hr.units) (de_ix xs_ix (dv 0) (de_int)) (de_str)) (dss_one (ds_ret (de_lc (own := [("number", 8)]) rfl nd (di_range1 rfl T.f_range (da_cons (dv 2) (da_nil))) (blkOk_by (N := ["words", "many", "size", "first", "second", "sums", "weight", "numbers", "number", "known", "lot"]) (sc := defScope s__law_table) (by decide +kernel)) (fun _ _ _ _ _ => dg_name (i := 8) nd rfl (by first | exact Or.inl rfl | exact Or.inr rfl) (hv := (by decide))) (fun _ _ _ _ _ => dts_nil) (fun _ _ _ _ _ => de_not (de_ix xs_ix (dv 3) (de_op os_sub (de_op os_sub (dv 2) (de_int)) (dv 8))))))) (dss_nil))
    (dss_cons (ds_set (i := 4) nd rfl (by first | exact Or.inl rfl | exact Or.inr rfl) (de_call C__law_table (hr.mono (by omega)) rfl (da_cons (de_ix xs_ix (dv 0) (de_int)) (da_cons (dv 1) (da_nil)))))
    (dss_cons (ds_if (dt_cmp (os_eq hr.units) (de_ix xs_ix (dv 0) (de_int)) (de_str)) (dss_one (ds_ret (de_lc (own := [("number", 8)]) rfl nd (di_range1 rfl T.f_range (da_cons (dv 2) (da_nil))) (blkOk_by (N := ["words", "many", "size", "first", "second", "sums", "weight", "numbers", "number", "known", "lot"]) (sc := defScope s__law_table) (by decide +kernel)) (fun _ _ _ _ _ => dg_name (i := 8) nd rfl (by first | exact Or.inl rfl | exact Or.inr rfl) (hv := (by decide))) (fun _ _ _ _ _ => dts_nil) (fun _ _ _ _ _ => de_and (de_ix xs_ix (dv 3) (dv 8)) (de_one (de_ix xs_ix (dv 4) (dv 8))))))) (dss_nil))
    (dss_one (ds_ret (de_lc (own := [("number", 8)]) rfl nd (di_range1 rfl T.f_range (da_cons (dv 2) (da_nil))) (blkOk_by (N := ["words", "many", "size", "first", "second", "sums", "weight", "numbers", "number", "known", "lot"]) (sc := defScope s__law_table) (by decide +kernel)) (fun _ _ _ _ _ => dg_name (i := 8) nd rfl (by first | exact Or.inl rfl | exact Or.inr rfl) (hv := (by decide))) (fun _ _ _ _ _ => dts_nil) (fun _ _ _ _ _ => de_or (de_ix xs_ix (dv 3) (dv 8)) (de_one (de_ix xs_ix (dv 4) (dv 8))))))))))))))), hm⟩
theorem ze__law_table {f : Addr} {fd : FuncData} (F : FunD K "_law_table" "_law_table" (defArgs s__law_table) (defBody s__law_table) (defScope s__law_table) [] [] f fd) (hm : mg "_law_table" = some (.ref f)) : Cal P w K mg base cls (1 + 0) "_law_table" (mr__law_table 0) := cal_stuck F sc__law_table (fun _ _ _ _ _ _ us hl => match us, hl with | [_, _], _ => rfl) (by decide) hm
theorem al__law_table {f : Addr} {fd : FuncData} (T : Txt P w K mg base cls) (F : FunD K "_law_table" "_law_table" (defArgs s__law_table) (defBody s__law_table) (defScope s__law_table) [] [] f fd) (hm : mg "_law_table" = some (.ref f)) (C__law_number : Cal P w K mg base cls 1 "_law_number" m__law_number) : ∀ n : Nat, Cal P w K mg base cls (1 + n) "_law_table" (mr__law_table n)
  | 0 => ze__law_table F hm
  | n + 1 => st__law_table n T F hm C__law_number (al__law_table T F hm C__law_number n)
theorem ok__law_table {f : Addr} {fd : FuncData} (T : Txt P w K mg base cls) (F : FunD K "_law_table" "_law_table" (defArgs s__law_table) (defBody s__law_table) (defScope s__law_table) [] [] f fd) (hm : mg "_law_table" = some (.ref f)) (C__law_number : Cal P w K mg base cls 1 "_law_number" m__law_number) : Cal P w K mg base cls 5 "_law_table" m__law_table := al__law_table T F hm C__law_number 4

theorem sc__law_line_council : FnScope ["script", "at", "shape", "many", "words", "homes", "split", "k"] ["script", "at"] (defScope s__law_line_council) := ⟨rfl, rfl, rfl, by decide +kernel, rfl, by decide +kernel, by decide +kernel⟩
theorem fc__law_line_council {f : Addr} {fd : FuncData} (T : Txt P w K mg base cls) (F : FunD K "_law_line_council" "_law_line_council" (defArgs s__law_line_council) (defBody s__law_line_council) (defScope s__law_line_council) [] [] f fd) (C__law_cell : Cal P w K mg base cls 1 "_law_cell" m__law_cell) (C__law_digits : Cal P w K mg base cls 1 "_law_digits" m__law_digits) (C__law_words : Cal P w K mg base cls 2 "_law_words" m__law_words) (C__law_homes : Cal P w K mg base cls 1 "_law_homes" m__law_homes) (C__law_table : Cal P w K mg base cls 5 "_law_table" m__law_table) : FnC P w K mg base cls 6 f fd ["script", "at"] m__law_line_council :=
  fnC_of F sc__law_line_council (fun _ _ _ _ _ _ us hl => match us, hl with | [_, _], _ => rfl) (by decide) (fun cdv A outer s H E H0 S0 hr => by
    have nd := sc__law_line_council.nd
    exact PSs.nox (dss_cons (ds_set (i := 2) nd rfl (by first | exact Or.inl rfl | exact Or.inr rfl) (de_call C__law_digits (hr.mono (by decide)) rfl (da_cons (de_call C__law_cell (hr.mono (by decide)) rfl (da_cons (dv 0) (da_cons (dv 1) (da_nil)))) (da_cons (de_lst (da_cons (de_int) (da_cons (de_int) (da_cons (de_int) (da_nil))))) (da_nil)))))
    (dss_cons (ds_set (i := 3) nd rfl (by first | exact Or.inl rfl | exact Or.inr rfl) (de_ix xs_ix (de_lst (da_cons (de_int) (da_cons (de_int) (da_cons (de_int) (da_cons (de_int) (da_cons (de_int) (da_cons (de_int) (da_cons (de_int) (da_cons (de_int) (da_nil)))))))))) (de_ix xs_ix (dv 2) (de_int))))
    (dss_cons (ds_set (i := 4) nd rfl (by first | exact Or.inl rfl | exact Or.inr rfl) (de_call C__law_words (hr.mono (by decide)) rfl (da_cons (de_call C__law_digits (hr.mono (by decide)) rfl (da_cons (de_call C__law_cell (hr.mono (by decide)) rfl (da_cons (dv 0) (da_cons (de_op os_add (dv 1) (de_int)) (da_nil)))) (da_cons (de_op os_add (de_op os_add (de_lst (da_cons (de_int) (da_cons (de_int) (da_nil)))) (de_op os_mul (de_lst (da_cons (de_int) (da_nil))) (de_int))) (de_op os_mul (de_lst (da_cons (de_int) (da_nil))) (de_int))) (da_nil)))) (da_cons (dv 3) (da_nil)))))
    (dss_cons (ds_set (i := 5) nd rfl (by first | exact Or.inl rfl | exact Or.inr rfl) (de_call C__law_homes (hr.mono (by decide)) rfl (da_cons (de_call C__law_digits (hr.mono (by decide)) rfl (da_cons (de_call C__law_cell (hr.mono (by decide)) rfl (da_cons (dv 0) (da_cons (de_op os_add (dv 1) (de_int)) (da_nil)))) (da_cons (de_op os_add (de_lst (da_cons (de_int) (da_nil))) (de_op os_mul (de_lst (da_cons (de_int) (da_nil))) (de_int))) (da_nil)))) (da_cons (dv 3) (da_cons (de_int) (da_cons (de_ix xs_ix (de_lst (da_cons (de_int) (da_cons (de_int) (da_cons (de_int) (da_nil))))) (de_ix xs_ix (dv 2) (de_int))) (da_nil)))))))
    (dss_cons (ds_if (dt_pw (dw_and (dt_cmp (os_eq hr.units) (de_ix xs_ix (dv 2) (de_int)) (de_int)) (dw_and1 (dt_cmp os_gt (dv 3) (de_int))))) (dss_cons (ds_set (i := 6) nd rfl (by first | exact Or.inl rfl | exact Or.inr rfl) (de_op os_add (de_int) (de_op os_mod (de_fnT cs_int rfl T.f_int (by decide +kernel) (da_cons (de_call C__law_cell (hr.mono (by decide)) rfl (da_cons (dv 0) (da_cons (de_op os_add (dv 1) (de_int)) (da_nil)))) (da_nil))) (de_op os_sub (dv 3) (de_int)))))
    (dss_cons (ds_set (i := 4) nd rfl (by first | exact Or.inl rfl | exact Or.inr rfl) (de_tup (da_cons (de_str) (da_cons (de_tup (da_cons (de_fnT cs_tup rfl T.f_tuple (by decide +kernel) (da_cons (de_lc (own := [("k", 7)]) rfl nd (di_range1 rfl T.f_range (da_cons (dv 6) (da_nil))) (blkOk_by (N := ["script", "at", "shape", "many", "words", "homes", "split", "k"]) (sc := defScope s__law_line_council) (by decide +kernel)) (fun _ _ _ _ _ => dg_name (i := 7) nd rfl (by first | exact Or.inl rfl | exact Or.inr rfl) (hv := (by decide))) (fun _ _ _ _ _ => dts_nil) (fun _ _ _ _ _ => dv 7)) (da_nil))) (da_cons (de_fnT cs_tup rfl T.f_tuple (by decide +kernel) (da_cons (de_lc (own := [("k", 7)]) rfl nd (di_range2 rfl T.f_range (da_cons (dv 6) (da_cons (dv 3) (da_nil)))) (blkOk_by (N := ["script", "at", "shape", "many", "words", "homes", "split", "k"]) (sc := defScope s__law_line_council) (by decide +kernel)) (fun _ _ _ _ _ => dg_name (i := 7) nd rfl (by first | exact Or.inl rfl | exact Or.inr rfl) (hv := (by decide))) (fun _ _ _ _ _ => dts_nil) (fun _ _ _ _ _ => dv 7)) (da_nil))) (da_nil)))) (da_nil)))))
    (dss_one (ds_set (i := 5) nd rfl (by first | exact Or.inl rfl | exact Or.inr rfl) (de_fnT cs_tup rfl T.f_tuple (by decide +kernel) (da_cons (de_fnB (cs_sort hr.units) rfl T.f_sorted (by decide +kernel) (da_cons (de_fnT cs_list rfl T.f_list (by decide +kernel) (da_cons (dv 5) (da_nil))) (da_nil))) (da_nil))))))) (dss_nil))
    (dss_one (ds_ret (de_lst (da_cons (dv 5) (da_cons (dv 4) (da_cons (de_call C__law_table (hr.mono (by decide)) rfl (da_cons (dv 4) (da_cons (dv 3) (da_nil)))) (da_nil)))))))))))))
theorem ok__law_line_council {f : Addr} {fd : FuncData} (T : Txt P w K mg base cls) (F : FunD K "_law_line_council" "_law_line_council" (defArgs s__law_line_council) (defBody s__law_line_council) (defScope s__law_line_council) [] [] f fd) (hm : mg "_law_line_council" = some (.ref f)) (C__law_cell : Cal P w K mg base cls 1 "_law_cell" m__law_cell) (C__law_digits : Cal P w K mg base cls 1 "_law_digits" m__law_digits) (C__law_words : Cal P w K mg base cls 2 "_law_words" m__law_words) (C__law_homes : Cal P w K mg base cls 1 "_law_homes" m__law_homes) (C__law_table : Cal P w K mg base cls 5 "_law_table" m__law_table) : Cal P w K mg base cls 6 "_law_line_council" m__law_line_council := ⟨f, fd, _, fc__law_line_council T F C__law_cell C__law_digits C__law_words C__law_homes C__law_table, hm⟩

theorem sc__law_dot : FnScope ["one", "other", "k"] ["one", "other"] (defScope s__law_dot) := ⟨rfl, rfl, rfl, by decide +kernel, rfl, by decide +kernel, by decide +kernel⟩
theorem fc__law_dot {f : Addr} {fd : FuncData} (T : Txt P w K mg base cls) (F : FunD K "_law_dot" "_law_dot" (defArgs s__law_dot) (defBody s__law_dot) (defScope s__law_dot) [] [] f fd) : FnC P w K mg base cls 1 f fd ["one", "other"] m__law_dot :=
  fnC_of F sc__law_dot (fun _ _ _ _ _ _ us hl => match us, hl with | [_, _], _ => rfl) (by decide) (fun cdv A outer s H E H0 S0 hr => by
    have nd := sc__law_dot.nd
    exact PSs.nox (dss_one (ds_ret (de_fnB (cs_sum rfl) rfl T.f_sum (by decide +kernel) (da_cons (de_lc (own := [("k", 2)]) rfl nd (di_range1 rfl T.f_range (da_cons (de_fnB cs_len rfl T.f_len (by decide +kernel) (da_cons (dv 0) (da_nil))) (da_nil))) (blkOk_by (N := ["one", "other", "k"]) (sc := defScope s__law_dot) (by decide +kernel)) (fun _ _ _ _ _ => dg_name (i := 2) nd rfl (by first | exact Or.inl rfl | exact Or.inr rfl) (hv := (by decide))) (fun _ _ _ _ _ => dts_nil) (fun _ _ _ _ _ => de_op os_mul (de_ix xs_ix (dv 0) (dv 2)) (de_ix xs_ix (dv 1) (dv 2)))) (da_nil))))))
theorem ok__law_dot {f : Addr} {fd : FuncData} (T : Txt P w K mg base cls) (F : FunD K "_law_dot" "_law_dot" (defArgs s__law_dot) (defBody s__law_dot) (defScope s__law_dot) [] [] f fd) (hm : mg "_law_dot" = some (.ref f)) : Cal P w K mg base cls 1 "_law_dot" m__law_dot := ⟨f, fd, _, fc__law_dot T F, hm⟩

theorem sc__law_value : FnScope ["homes", "table", "arrow", "worths", "best", "worth", "number", "home", "k"] ["homes", "table", "arrow"] (defScope s__law_value) := ⟨rfl, rfl, rfl, by decide +kernel, rfl, by decide +kernel, by decide +kernel⟩
theorem fc__law_value {f : Addr} {fd : FuncData} (T : Txt P w K mg base cls) (F : FunD K "_law_value" "_law_value" (defArgs s__law_value) (defBody s__law_value) (defScope s__law_value) [] [] f fd) (C__law_dot : Cal P w K mg base cls 1 "_law_dot" m__law_dot) (C__law_number : Cal P w K mg base cls 1 "_law_number" m__law_number) : FnC P w K mg base cls 2 f fd ["homes", "table", "arrow"] m__law_value :=
  fnC_of F sc__law_value (fun _ _ _ _ _ _ us hl => match us, hl with | [_, _, _], _ => rfl) (by decide) (fun cdv A outer s H E H0 S0 hr => by
    have nd := sc__law_value.nd
    exact PSs.nox (dss_cons (ds_set (i := 3) nd rfl (by first | exact Or.inl rfl | exact Or.inr rfl) (de_lc (own := [("home", 7)]) rfl nd (di_seq (dv 0)) (blkOk_by (N := ["homes", "table", "arrow", "worths", "best", "worth", "number", "home", "k"]) (sc := defScope s__law_value) (by decide +kernel)) (fun _ _ _ _ _ => dg_name (i := 7) nd rfl (by first | exact Or.inl rfl | exact Or.inr rfl) (hv := (by decide))) (fun _ _ _ _ _ => dts_nil) (fun _ _ _ _ _ => de_call C__law_dot (hr.mono (by decide)) rfl (da_cons (dv 2) (da_cons (dv 7) (da_nil))))))
    (dss_cons (ds_set (i := 4) nd rfl (by first | exact Or.inl rfl | exact Or.inr rfl) (de_fnB (cs_min rfl) rfl T.f_min (by decide +kernel) (da_cons (dv 3) (da_nil))))
    (dss_cons (ds_for (vs := [5]) PassesOwn.never rfl (di_seq (dv 3)) (dg_name (i := 5) nd rfl (by first | exact Or.inl rfl | exact Or.inr rfl) (hv := (by decide))) (dss_cons (ds_set (i := 6) nd rfl (by first | exact Or.inl rfl | exact Or.inr rfl) (de_call C__law_number (hr.mono (by decide)) rfl (da_cons (de_lc (own := [("k", 8)]) rfl nd (di_range1 rfl T.f_range (da_cons (de_fnB cs_len rfl T.f_len (by decide +kernel) (da_cons (dv 0) (da_nil))) (da_nil))) (blkOk_by (N := ["homes", "table", "arrow", "worths", "best", "worth", "number", "home", "k"]) (sc := defScope s__law_value) (by decide +kernel)) (fun _ _ _ _ _ => dg_name (i := 8) nd rfl (by first | exact Or.inl rfl | exact Or.inr rfl) (hv := (by decide))) (fun _ _ _ _ _ => pts_one (dt_cmp os_ge (de_ix xs_ix (dv 3) (dv 8)) (dv 5))) (fun _ _ _ _ _ => dv 8)) (da_nil))))
    (dss_one (ds_if (dt_pw (dw_and (dt_cmp os_gt (dv 5) (dv 4)) (dw_and1 (dt_val (de_ix xs_ix (dv 1) (dv 6)))))) (dss_one (ds_set (i := 4) nd rfl (by first | exact Or.inl rfl | exact Or.inr rfl) (dv 5))) (dss_nil)))))
    (dss_one (ds_ret (dv 4)))))))
theorem ok__law_value {f : Addr} {fd : FuncData} (T : Txt P w K mg base cls) (F : FunD K "_law_value" "_law_value" (defArgs s__law_value) (defBody s__law_value) (defScope s__law_value) [] [] f fd) (hm : mg "_law_value" = some (.ref f)) (C__law_dot : Cal P w K mg base cls 1 "_law_dot" m__law_dot) (C__law_number : Cal P w K mg base cls 1 "_law_number" m__law_number) : Cal P w K mg base cls 2 "_law_value" m__law_value := ⟨f, fd, _, fc__law_value T F C__law_dot C__law_number, hm⟩

theorem sc_dot : FnScope ["one", "two", "k"] ["one", "two"] (defScope s_dot) := ⟨rfl, rfl, rfl, by decide +kernel, rfl, by decide +kernel, by decide +kernel⟩
theorem fc_dot {f : Addr} {fd : FuncData} (T : Txt P w K mg base cls) (F : FunD K "dot" "dot" (defArgs s_dot) (defBody s_dot) (defScope s_dot) [] [] f fd) : FnC P w K mg base cls 1 f fd ["one", "two"] m_dot :=
  fnC_of F sc_dot (fun _ _ _ _ _ _ us hl => match us, hl with | [_, _], _ => rfl) (by decide) (fun cdv A outer s H E H0 S0 hr => by
    have nd := sc_dot.nd
    exact PSs.nox (dss_one (ds_ret (de_fnB (cs_sum rfl) rfl T.f_sum (by decide +kernel) (da_cons (de_lc (own := [("k", 2)]) rfl nd (di_range1 rfl T.f_range (da_cons (de_fnB cs_len rfl T.f_len (by decide +kernel) (da_cons (dv 0) (da_nil))) (da_nil))) (blkOk_by (N := ["one", "two", "k"]) (sc := defScope s_dot) (by decide +kernel)) (fun _ _ _ _ _ => dg_name (i := 2) nd rfl (by first | exact Or.inl rfl | exact Or.inr rfl) (hv := (by decide))) (fun _ _ _ _ _ => dts_nil) (fun _ _ _ _ _ => de_op os_mul (de_ix xs_ix (dv 0) (dv 2)) (de_ix xs_ix (dv 1) (dv 2)))) (da_nil))))))
theorem ok_dot {f : Addr} {fd : FuncData} (T : Txt P w K mg base cls) (F : FunD K "dot" "dot" (defArgs s_dot) (defBody s_dot) (defScope s_dot) [] [] f fd) (hm : mg "dot" = some (.ref f)) : Cal P w K mg base cls 1 "dot" m_dot := ⟨f, fd, _, fc_dot T F, hm⟩

theorem sc_ranked : FnScope ["council", "arrow", "voter"] ["council", "arrow"] (defScope s_ranked) := ⟨rfl, rfl, rfl, by decide +kernel, rfl, by decide +kernel, by decide +kernel⟩
theorem fc_ranked {f : Addr} {fd : FuncData} (T : Txt P w K mg base cls) (F : FunD K "ranked" "ranked" (defArgs s_ranked) (defBody s_ranked) (defScope s_ranked) [] [] f fd) (C_dot : Cal P w K mg base cls 1 "dot" m_dot) : FnC P w K mg base cls 2 f fd ["council", "arrow"] m_ranked :=
  fnC_of F sc_ranked (fun _ _ _ _ _ _ us hl => match us, hl with | [_, _], _ => rfl) (by decide) (fun cdv A outer s H E H0 S0 hr => by
    have nd := sc_ranked.nd
    exact PSs.nox (dss_one (ds_ret (de_fnB (cs_sort hr.units) rfl T.f_sorted (by decide +kernel) (da_cons (de_lc (own := [("voter", 2)]) rfl nd (di_range1 rfl T.f_range (da_cons (de_fld T.fl_many (dv 0)) (da_nil))) (blkOk_by (N := ["council", "arrow", "voter"]) (sc := defScope s_ranked) (by decide +kernel)) (fun _ _ _ _ _ => dg_name (i := 2) nd rfl (by first | exact Or.inl rfl | exact Or.inr rfl) (hv := (by decide))) (fun _ _ _ _ _ => dts_nil) (fun _ _ _ _ _ => de_tup (da_cons (de_un os_neg (de_call C_dot (hr.mono (by decide)) rfl (da_cons (dv 1) (da_cons (de_ix xs_ix (de_fld T.fl_homes (dv 0)) (dv 2)) (da_nil))))) (da_cons (dv 2) (da_nil))))) (da_nil))))))
theorem ok_ranked {f : Addr} {fd : FuncData} (T : Txt P w K mg base cls) (F : FunD K "ranked" "ranked" (defArgs s_ranked) (defBody s_ranked) (defScope s_ranked) [] [] f fd) (hm : mg "ranked" = some (.ref f)) (C_dot : Cal P w K mg base cls 1 "dot" m_dot) : Cal P w K mg base cls 2 "ranked" m_ranked := ⟨f, fd, _, fc_ranked T F C_dot, hm⟩

theorem sc_word : FnScope ["council", "arrow", "number", "told", "value", "voter"] ["council", "arrow"] (defScope s_word) := ⟨rfl, rfl, rfl, by decide +kernel, rfl, by decide +kernel, by decide +kernel⟩
theorem fc_word {f : Addr} {fd : FuncData} (T : Txt P w K mg base cls) (F : FunD K "word" "word" (defArgs s_word) (defBody s_word) (defScope s_word) [] [] f fd) (C_ranked : Cal P w K mg base cls 2 "ranked" m_ranked) : FnC P w K mg base cls 3 f fd ["council", "arrow"] m_word :=
  fnC_of F sc_word (fun _ _ _ _ _ _ us hl => match us, hl with | [_, _], _ => rfl) (by decide) (fun cdv A outer s H E H0 S0 hr => by
    have nd := sc_word.nd
    exact PSs.nox (dss_cons (ds_set (i := 2) nd rfl (by first | exact Or.inl rfl | exact Or.inr rfl) (de_int))
    (dss_cons (ds_set (i := 3) nd rfl (by first | exact Or.inl rfl | exact Or.inr rfl) (de_int))
    (dss_cons (ds_for (vs := [4, 5]) PassesOwn.never rfl (di_seq (de_call C_ranked (hr.mono (by decide)) rfl (da_cons (dv 0) (da_cons (dv 1) (da_nil))))) (dg_tup rfl (dgs_cons (dg_name (i := 4) nd rfl (by first | exact Or.inl rfl | exact Or.inr rfl) (hv := (by decide))) (dgs_cons (dg_name (i := 5) nd rfl (by first | exact Or.inl rfl | exact Or.inr rfl) (hv := (by decide))) (dgs_nil)))) (dss_cons (ds_set (i := 2) nd rfl (by first | exact Or.inl rfl | exact Or.inr rfl) (de_op os_add (dv 2) (de_op os_shl (de_int) (dv 5))))
    (dss_cons (ds_set (i := 3) nd rfl (by first | exact Or.inl rfl | exact Or.inr rfl) (de_un os_neg (dv 4)))
    (dss_one (ds_if (dt_val (de_ix xs_ix (de_fld T.fl_book (de_fld T.fl_rule (dv 0))) (dv 2))) (dss_one (ds_ret (dv 3))) (dss_nil))))))
    (dss_one (ds_ret (dv 3)))))))
theorem ok_word {f : Addr} {fd : FuncData} (T : Txt P w K mg base cls) (F : FunD K "word" "word" (defArgs s_word) (defBody s_word) (defScope s_word) [] [] f fd) (hm : mg "word" = some (.ref f)) (C_ranked : Cal P w K mg base cls 2 "ranked" m_ranked) : Cal P w K mg base cls 3 "word" m_word := ⟨f, fd, _, fc_word T F C_ranked, hm⟩

theorem sc_ends_of : FnScope ["council"] ["council"] (defScope s_ends_of) := ⟨rfl, rfl, rfl, by decide +kernel, rfl, by decide +kernel, by decide +kernel⟩
theorem fc_ends_of {f : Addr} {fd : FuncData} (T : Txt P w K mg base cls) (F : FunD K "ends_of" "ends_of" (defArgs s_ends_of) (defBody s_ends_of) (defScope s_ends_of) [] [] f fd) (C_word : Cal P w K mg base cls 3 "word" m_word) : FnC P w K mg base cls 4 f fd ["council"] m_ends_of :=
  fnC_of F sc_ends_of (fun _ _ _ _ _ _ us hl => match us, hl with | [_], _ => rfl) (by decide) (fun cdv A outer s H E H0 S0 hr => by
    have nd := sc_ends_of.nd
    exact (dss_cons (ds_if (dt_cmp (os_ne hr.units) (de_fld T.fl_dimension (dv 0)) (de_int)) (dss_one (ds_raise T.e_WrongDimension (hr.mono (by decide)) (takes_of rfl rfl rfl rfl) rfl (da_cons (de_fld T.fl_dimension (dv 0)) (da_nil)))) (dss_nil))
    (dss_one (ds_ret (de_tup (da_cons (de_call C_word (hr.mono (by decide)) rfl (da_cons (dv 0) (da_cons (de_tup (da_cons (de_int) (da_nil))) (da_nil)))) (da_cons (de_un os_neg (de_call C_word (hr.mono (by decide)) rfl (da_cons (dv 0) (da_cons (de_tup (da_cons (de_un os_neg (de_int)) (da_nil))) (da_nil))))) (da_nil))))))))
theorem ok_ends_of {f : Addr} {fd : FuncData} (T : Txt P w K mg base cls) (F : FunD K "ends_of" "ends_of" (defArgs s_ends_of) (defBody s_ends_of) (defScope s_ends_of) [] [] f fd) (hm : mg "ends_of" = some (.ref f)) (C_word : Cal P w K mg base cls 3 "word" m_word) : Cal P w K mg base cls 4 "ends_of" m_ends_of := ⟨f, fd, _, fc_ends_of T F C_word, hm⟩

theorem sc_compare : FnScope ["one", "two", "left", "right"] ["one", "two"] (defScope s_compare) := ⟨rfl, rfl, rfl, by decide +kernel, rfl, by decide +kernel, by decide +kernel⟩
theorem fc_compare {f : Addr} {fd : FuncData} (T : Txt P w K mg base cls) (F : FunD K "compare" "compare" (defArgs s_compare) (defBody s_compare) (defScope s_compare) [] [] f fd) : FnC P w K mg base cls 1 f fd ["one", "two"] m_compare :=
  fnC_of F sc_compare (fun _ _ _ _ _ _ us hl => match us, hl with | [_, _], _ => rfl) (by decide) (fun cdv A outer s H E H0 S0 hr => by
    have nd := sc_compare.nd
    exact PSs.nox (dss_cons (ds_set (i := 2) nd rfl (by first | exact Or.inl rfl | exact Or.inr rfl) (de_op os_mul (de_ix xs_ix (dv 0) (de_int)) (de_ix xs_ix (dv 1) (de_int))))
    (dss_cons (ds_set (i := 3) nd rfl (by first | exact Or.inl rfl | exact Or.inr rfl) (de_op os_mul (de_ix xs_ix (dv 1) (de_int)) (de_ix xs_ix (dv 0) (de_int))))
    (dss_cons (ds_if (dt_cmp (os_lt hr.units0) (dv 2) (dv 3)) (dss_one (ds_ret (de_un os_neg (de_int)))) (dss_nil))
    (dss_cons (ds_if (dt_cmp os_gt (dv 2) (dv 3)) (dss_one (ds_ret (de_int))) (dss_nil))
    (dss_one (ds_ret (de_int))))))))
theorem ok_compare {f : Addr} {fd : FuncData} (T : Txt P w K mg base cls) (F : FunD K "compare" "compare" (defArgs s_compare) (defBody s_compare) (defScope s_compare) [] [] f fd) (hm : mg "compare" = some (.ref f)) : Cal P w K mg base cls 1 "compare" m_compare := ⟨f, fd, _, fc_compare T F, hm⟩

theorem sc_ratio : FnScope ["top", "bottom", "common"] ["top", "bottom"] (defScope s_ratio) := ⟨rfl, rfl, rfl, by decide +kernel, rfl, by decide +kernel, by decide +kernel⟩
theorem fc_ratio {f : Addr} {fd : FuncData} (T : Txt P w K mg base cls) (F : FunD K "ratio" "ratio" (defArgs s_ratio) (defBody s_ratio) (defScope s_ratio) [] [] f fd) : FnC P w K mg base cls 1 f fd ["top", "bottom"] m_ratio :=
  fnC_of F sc_ratio (fun _ _ _ _ _ _ us hl => match us, hl with | [_, _], _ => rfl) (by decide) (fun cdv A outer s H E H0 S0 hr => by
    have nd := sc_ratio.nd
    exact PSs.nox (dss_cons (ds_if (dt_cmp (os_eq hr.units) (dv 1) (de_int)) (dss_one (ds_never)) (dss_nil))
    (dss_cons (ds_set (i := 2) nd rfl (by first | exact Or.inl rfl | exact Or.inr rfl) (de_fnM cs_gcd rfl T.g_gcd (da_cons (dv 0) (da_cons (dv 1) (da_nil)))))
    (dss_cons (ds_if (dt_cmp (os_lt hr.units0) (dv 1) (de_int)) (dss_one (ds_set (i := 2) nd rfl (by first | exact Or.inl rfl | exact Or.inr rfl) (de_un os_neg (dv 2)))) (dss_nil))
    (dss_one (ds_ret (de_tup (da_cons (de_op os_fdiv (dv 0) (dv 2)) (da_cons (de_op os_fdiv (dv 1) (dv 2)) (da_nil))))))))))
theorem ok_ratio {f : Addr} {fd : FuncData} (T : Txt P w K mg base cls) (F : FunD K "ratio" "ratio" (defArgs s_ratio) (defBody s_ratio) (defScope s_ratio) [] [] f fd) (hm : mg "ratio" = some (.ref f)) : Cal P w K mg base cls 1 "ratio" m_ratio := ⟨f, fd, _, fc_ratio T F, hm⟩

theorem sc_minus : FnScope ["one", "two"] ["one", "two"] (defScope s_minus) := ⟨rfl, rfl, rfl, by decide +kernel, rfl, by decide +kernel, by decide +kernel⟩
theorem fc_minus {f : Addr} {fd : FuncData} (T : Txt P w K mg base cls) (F : FunD K "minus" "minus" (defArgs s_minus) (defBody s_minus) (defScope s_minus) [] [] f fd) (C_ratio : Cal P w K mg base cls 1 "ratio" m_ratio) : FnC P w K mg base cls 2 f fd ["one", "two"] m_minus :=
  fnC_of F sc_minus (fun _ _ _ _ _ _ us hl => match us, hl with | [_, _], _ => rfl) (by decide) (fun cdv A outer s H E H0 S0 hr => by
    have nd := sc_minus.nd
    exact PSs.nox (dss_one (ds_ret (de_call C_ratio (hr.mono (by decide)) rfl (da_cons (de_op os_sub (de_op os_mul (de_ix xs_ix (dv 0) (de_int)) (de_ix xs_ix (dv 1) (de_int))) (de_op os_mul (de_ix xs_ix (dv 1) (de_int)) (de_ix xs_ix (dv 0) (de_int)))) (da_cons (de_op os_mul (de_ix xs_ix (dv 0) (de_int)) (de_ix xs_ix (dv 1) (de_int))) (da_nil)))))))
theorem ok_minus {f : Addr} {fd : FuncData} (T : Txt P w K mg base cls) (F : FunD K "minus" "minus" (defArgs s_minus) (defBody s_minus) (defScope s_minus) [] [] f fd) (hm : mg "minus" = some (.ref f)) (C_ratio : Cal P w K mg base cls 1 "ratio" m_ratio) : Cal P w K mg base cls 2 "minus" m_minus := ⟨f, fd, _, fc_minus T F C_ratio, hm⟩

theorem sc_mirrored : FnScope ["place", "value"] ["place", "value"] (defScope s_mirrored) := ⟨rfl, rfl, rfl, by decide +kernel, rfl, by decide +kernel, by decide +kernel⟩
theorem fc_mirrored {f : Addr} {fd : FuncData} (T : Txt P w K mg base cls) (F : FunD K "mirrored" "mirrored" (defArgs s_mirrored) (defBody s_mirrored) (defScope s_mirrored) [] [] f fd) (C_minus : Cal P w K mg base cls 2 "minus" m_minus) : FnC P w K mg base cls 3 f fd ["place", "value"] m_mirrored :=
  fnC_of F sc_mirrored (fun _ _ _ _ _ _ us hl => match us, hl with | [_, _], _ => rfl) (by decide) (fun cdv A outer s H E H0 S0 hr => by
    have nd := sc_mirrored.nd
    exact PSs.nox (dss_one (ds_ret (de_call C_minus (hr.mono (by decide)) rfl (da_cons (de_tup (da_cons (de_op os_mul (de_int) (dv 1)) (da_cons (de_int) (da_nil)))) (da_cons (dv 0) (da_nil)))))))
theorem ok_mirrored {f : Addr} {fd : FuncData} (T : Txt P w K mg base cls) (F : FunD K "mirrored" "mirrored" (defArgs s_mirrored) (defBody s_mirrored) (defScope s_mirrored) [] [] f fd) (hm : mg "mirrored" = some (.ref f)) (C_minus : Cal P w K mg base cls 2 "minus" m_minus) : Cal P w K mg base cls 3 "mirrored" m_mirrored := ⟨f, fd, _, fc_mirrored T F C_minus, hm⟩

theorem sc_floor_of : FnScope ["one"] ["one"] (defScope s_floor_of) := ⟨rfl, rfl, rfl, by decide +kernel, rfl, by decide +kernel, by decide +kernel⟩
theorem fc_floor_of {f : Addr} {fd : FuncData} (T : Txt P w K mg base cls) (F : FunD K "floor_of" "floor_of" (defArgs s_floor_of) (defBody s_floor_of) (defScope s_floor_of) [] [] f fd) : FnC P w K mg base cls 1 f fd ["one"] m_floor_of :=
  fnC_of F sc_floor_of (fun _ _ _ _ _ _ us hl => match us, hl with | [_], _ => rfl) (by decide) (fun cdv A outer s H E H0 S0 hr => by
    have nd := sc_floor_of.nd
    exact PSs.nox (dss_one (ds_ret (de_op os_fdiv (de_ix xs_ix (dv 0) (de_int)) (de_ix xs_ix (dv 0) (de_int))))))
theorem ok_floor_of {f : Addr} {fd : FuncData} (T : Txt P w K mg base cls) (F : FunD K "floor_of" "floor_of" (defArgs s_floor_of) (defBody s_floor_of) (defScope s_floor_of) [] [] f fd) (hm : mg "floor_of" = some (.ref f)) : Cal P w K mg base cls 1 "floor_of" m_floor_of := ⟨f, fd, _, fc_floor_of T F, hm⟩

theorem sc_over : FnScope ["one", "two"] ["one", "two"] (defScope s_over) := ⟨rfl, rfl, rfl, by decide +kernel, rfl, by decide +kernel, by decide +kernel⟩
theorem fc_over {f : Addr} {fd : FuncData} (T : Txt P w K mg base cls) (F : FunD K "over" "over" (defArgs s_over) (defBody s_over) (defScope s_over) [] [] f fd) (C_ratio : Cal P w K mg base cls 1 "ratio" m_ratio) : FnC P w K mg base cls 2 f fd ["one", "two"] m_over :=
  fnC_of F sc_over (fun _ _ _ _ _ _ us hl => match us, hl with | [_, _], _ => rfl) (by decide) (fun cdv A outer s H E H0 S0 hr => by
    have nd := sc_over.nd
    exact PSs.nox (dss_one (ds_ret (de_call C_ratio (hr.mono (by decide)) rfl (da_cons (de_op os_mul (de_ix xs_ix (dv 0) (de_int)) (de_ix xs_ix (dv 1) (de_int))) (da_cons (de_op os_mul (de_ix xs_ix (dv 0) (de_int)) (de_ix xs_ix (dv 1) (de_int))) (da_nil)))))))
theorem ok_over {f : Addr} {fd : FuncData} (T : Txt P w K mg base cls) (F : FunD K "over" "over" (defArgs s_over) (defBody s_over) (defScope s_over) [] [] f fd) (hm : mg "over" = some (.ref f)) (C_ratio : Cal P w K mg base cls 1 "ratio" m_ratio) : Cal P w K mg base cls 2 "over" m_over := ⟨f, fd, _, fc_over T F C_ratio, hm⟩

theorem sc_rounds_to : FnScope ["base", "goal", "width"] ["base", "goal", "width"] (defScope s_rounds_to) := ⟨rfl, rfl, rfl, by decide +kernel, rfl, by decide +kernel, by decide +kernel⟩
theorem fc_rounds_to {f : Addr} {fd : FuncData} (T : Txt P w K mg base cls) (F : FunD K "rounds_to" "rounds_to" (defArgs s_rounds_to) (defBody s_rounds_to) (defScope s_rounds_to) [] [] f fd) (C_compare : Cal P w K mg base cls 1 "compare" m_compare) (C_minus : Cal P w K mg base cls 2 "minus" m_minus) (C_over : Cal P w K mg base cls 2 "over" m_over) (C_floor_of : Cal P w K mg base cls 1 "floor_of" m_floor_of) : FnC P w K mg base cls 3 f fd ["base", "goal", "width"] m_rounds_to :=
  fnC_of F sc_rounds_to (fun _ _ _ _ _ _ us hl => match us, hl with | [_, _, _], _ => rfl) (by decide) (fun cdv A outer s H E H0 S0 hr => by
    have nd := sc_rounds_to.nd
    exact PSs.nox (dss_cons (ds_if (dt_cmp (os_lt hr.units0) (de_call C_compare (hr.mono (by decide)) rfl (da_cons (dv 1) (da_cons (dv 0) (da_nil)))) (de_int)) (dss_one (ds_ret (de_int))) (dss_nil))
    (dss_one (ds_ret (de_op os_add (de_call C_floor_of (hr.mono (by decide)) rfl (da_cons (de_call C_over (hr.mono (by decide)) rfl (da_cons (de_call C_minus (hr.mono (by decide)) rfl (da_cons (dv 1) (da_cons (dv 0) (da_nil)))) (da_cons (de_tup (da_cons (dv 2) (da_cons (de_int) (da_nil)))) (da_nil)))) (da_nil))) (de_int))))))
theorem ok_rounds_to {f : Addr} {fd : FuncData} (T : Txt P w K mg base cls) (F : FunD K "rounds_to" "rounds_to" (defArgs s_rounds_to) (defBody s_rounds_to) (defScope s_rounds_to) [] [] f fd) (hm : mg "rounds_to" = some (.ref f)) (C_compare : Cal P w K mg base cls 1 "compare" m_compare) (C_minus : Cal P w K mg base cls 2 "minus" m_minus) (C_over : Cal P w K mg base cls 2 "over" m_over) (C_floor_of : Cal P w K mg base cls 1 "floor_of" m_floor_of) : Cal P w K mg base cls 3 "rounds_to" m_rounds_to := ⟨f, fd, _, fc_rounds_to T F C_compare C_minus C_over C_floor_of, hm⟩

theorem sc_fewest_rising : FnScope ["upper", "lower", "start", "goal", "direct", "below", "width", "even"] ["upper", "lower", "start", "goal"] (defScope s_fewest_rising) := ⟨rfl, rfl, rfl, by decide +kernel, rfl, by decide +kernel, by decide +kernel⟩
theorem fc_fewest_rising {f : Addr} {fd : FuncData} (T : Txt P w K mg base cls) (F : FunD K "fewest_rising" "fewest_rising" (defArgs s_fewest_rising) (defBody s_fewest_rising) (defScope s_fewest_rising) [] [] f fd) (C_mirrored : Cal P w K mg base cls 3 "mirrored" m_mirrored) (C_compare : Cal P w K mg base cls 1 "compare" m_compare) (C_rounds_to : Cal P w K mg base cls 3 "rounds_to" m_rounds_to) : FnC P w K mg base cls 4 f fd ["upper", "lower", "start", "goal"] m_fewest_rising :=
  fnC_of F sc_fewest_rising (fun _ _ _ _ _ _ us hl => match us, hl with | [_, _, _, _], _ => rfl) (by decide) (fun cdv A outer s H E H0 S0 hr => by
    have nd := sc_fewest_rising.nd
    exact PSs.nox (dss_cons (ds_set (i := 4) nd rfl (by first | exact Or.inl rfl | exact Or.inr rfl) (de_call C_mirrored (hr.mono (by decide)) rfl (da_cons (dv 2) (da_cons (dv 0) (da_nil)))))
    (dss_cons (ds_set (i := 5) nd rfl (by first | exact Or.inl rfl | exact Or.inr rfl) (de_cmp (os_lt hr.units0) (de_call C_compare (hr.mono (by decide)) rfl (da_cons (dv 2) (da_cons (de_tup (da_cons (dv 0) (da_cons (de_int) (da_nil)))) (da_nil)))) (de_int)))
    (dss_cons (ds_if (dt_cmp os_le (dv 0) (dv 1)) (dss_cons (ds_if (dt_pw (dw_and (dt_val (dv 5)) (dw_and1 (dt_cmp (os_lt hr.units0) (de_call C_compare (hr.mono (by decide)) rfl (da_cons (dv 3) (da_cons (dv 4) (da_nil)))) (de_int))))) (dss_one (ds_ret (de_int))) (dss_nil))
    (dss_one (ds_ret (de_non)))) (dss_nil))
    (dss_cons (ds_set (i := 6) nd rfl (by first | exact Or.inl rfl | exact Or.inr rfl) (de_op os_mul (de_int) (de_op os_sub (dv 0) (dv 1))))
    (dss_cons (ds_set (i := 7) nd rfl (by first | exact Or.inl rfl | exact Or.inr rfl) (de_op os_mul (de_int) (de_call C_rounds_to (hr.mono (by decide)) rfl (da_cons (dv 2) (da_cons (dv 3) (da_cons (dv 6) (da_nil)))))))
    (dss_cons (ds_if (dt_not (dt_val (dv 5))) (dss_one (ds_ret (dv 7))) (dss_nil))
    (dss_one (ds_ret (de_fnB (cs_min rfl) rfl T.f_min (by decide +kernel) (da_cons (dv 7) (da_cons (de_op os_add (de_op os_mul (de_int) (de_call C_rounds_to (hr.mono (by decide)) rfl (da_cons (dv 4) (da_cons (dv 3) (da_cons (dv 6) (da_nil)))))) (de_int)) (da_nil)))))))))))))
theorem ok_fewest_rising {f : Addr} {fd : FuncData} (T : Txt P w K mg base cls) (F : FunD K "fewest_rising" "fewest_rising" (defArgs s_fewest_rising) (defBody s_fewest_rising) (defScope s_fewest_rising) [] [] f fd) (hm : mg "fewest_rising" = some (.ref f)) (C_mirrored : Cal P w K mg base cls 3 "mirrored" m_mirrored) (C_compare : Cal P w K mg base cls 1 "compare" m_compare) (C_rounds_to : Cal P w K mg base cls 3 "rounds_to" m_rounds_to) : Cal P w K mg base cls 4 "fewest_rising" m_fewest_rising := ⟨f, fd, _, fc_fewest_rising T F C_mirrored C_compare C_rounds_to, hm⟩

theorem sc_flipped : FnScope ["place"] ["place"] (defScope s_flipped) := ⟨rfl, rfl, rfl, by decide +kernel, rfl, by decide +kernel, by decide +kernel⟩
theorem fc_flipped {f : Addr} {fd : FuncData} (T : Txt P w K mg base cls) (F : FunD K "flipped" "flipped" (defArgs s_flipped) (defBody s_flipped) (defScope s_flipped) [] [] f fd) (C_ratio : Cal P w K mg base cls 1 "ratio" m_ratio) : FnC P w K mg base cls 2 f fd ["place"] m_flipped :=
  fnC_of F sc_flipped (fun _ _ _ _ _ _ us hl => match us, hl with | [_], _ => rfl) (by decide) (fun cdv A outer s H E H0 S0 hr => by
    have nd := sc_flipped.nd
    exact PSs.nox (dss_one (ds_ret (de_call C_ratio (hr.mono (by decide)) rfl (da_cons (de_un os_neg (de_ix xs_ix (dv 0) (de_int))) (da_cons (de_ix xs_ix (dv 0) (de_int)) (da_nil)))))))
theorem ok_flipped {f : Addr} {fd : FuncData} (T : Txt P w K mg base cls) (F : FunD K "flipped" "flipped" (defArgs s_flipped) (defBody s_flipped) (defScope s_flipped) [] [] f fd) (hm : mg "flipped" = some (.ref f)) (C_ratio : Cal P w K mg base cls 1 "ratio" m_ratio) : Cal P w K mg base cls 2 "flipped" m_flipped := ⟨f, fd, _, fc_flipped T F C_ratio, hm⟩

theorem sc_fewest_between : FnScope ["upper", "lower", "start", "goal", "sign"] ["upper", "lower", "start", "goal"] (defScope s_fewest_between) := ⟨rfl, rfl, rfl, by decide +kernel, rfl, by decide +kernel, by decide +kernel⟩
theorem fc_fewest_between {f : Addr} {fd : FuncData} (T : Txt P w K mg base cls) (F : FunD K "fewest_between" "fewest_between" (defArgs s_fewest_between) (defBody s_fewest_between) (defScope s_fewest_between) [] [] f fd) (C_compare : Cal P w K mg base cls 1 "compare" m_compare) (C_fewest_rising : Cal P w K mg base cls 4 "fewest_rising" m_fewest_rising) (C_flipped : Cal P w K mg base cls 2 "flipped" m_flipped) : FnC P w K mg base cls 5 f fd ["upper", "lower", "start", "goal"] m_fewest_between :=
  fnC_of F sc_fewest_between (fun _ _ _ _ _ _ us hl => match us, hl with | [_, _, _, _], _ => rfl) (by decide) (fun cdv A outer s H E H0 S0 hr => by
    have nd := sc_fewest_between.nd
    exact PSs.nox (dss_cons (ds_set (i := 4) nd rfl (by first | exact Or.inl rfl | exact Or.inr rfl) (de_call C_compare (hr.mono (by decide)) rfl (da_cons (dv 3) (da_cons (dv 2) (da_nil)))))
    (dss_cons (ds_if (dt_cmp (os_eq hr.units) (dv 4) (de_int)) (dss_one (ds_ret (de_int))) (dss_nil))
    (dss_cons (ds_if (dt_cmp os_gt (dv 4) (de_int)) (dss_one (ds_ret (de_call C_fewest_rising (hr.mono (by decide)) rfl (da_cons (dv 0) (da_cons (dv 1) (da_cons (dv 2) (da_cons (dv 3) (da_nil)))))))) (dss_nil))
    (dss_one (ds_ret (de_call C_fewest_rising (hr.mono (by decide)) rfl (da_cons (de_un os_neg (dv 1)) (da_cons (de_un os_neg (dv 0)) (da_cons (de_call C_flipped (hr.mono (by decide)) rfl (da_cons (dv 2) (da_nil))) (da_cons (de_call C_flipped (hr.mono (by decide)) rfl (da_cons (dv 3) (da_nil))) (da_nil))))))))))))
theorem ok_fewest_between {f : Addr} {fd : FuncData} (T : Txt P w K mg base cls) (F : FunD K "fewest_between" "fewest_between" (defArgs s_fewest_between) (defBody s_fewest_between) (defScope s_fewest_between) [] [] f fd) (hm : mg "fewest_between" = some (.ref f)) (C_compare : Cal P w K mg base cls 1 "compare" m_compare) (C_fewest_rising : Cal P w K mg base cls 4 "fewest_rising" m_fewest_rising) (C_flipped : Cal P w K mg base cls 2 "flipped" m_flipped) : Cal P w K mg base cls 5 "fewest_between" m_fewest_between := ⟨f, fd, _, fc_fewest_between T F C_compare C_fewest_rising C_flipped, hm⟩

theorem sc_fewest_on_line : FnScope ["council", "start", "goal", "upper", "lower"] ["council", "start", "goal"] (defScope s_fewest_on_line) := ⟨rfl, rfl, rfl, by decide +kernel, rfl, by decide +kernel, by decide +kernel⟩
theorem fc_fewest_on_line {f : Addr} {fd : FuncData} (T : Txt P w K mg base cls) (F : FunD K "fewest_on_line" "fewest_on_line" (defArgs s_fewest_on_line) (defBody s_fewest_on_line) (defScope s_fewest_on_line) [] [] f fd) (C_ends_of : Cal P w K mg base cls 4 "ends_of" m_ends_of) (C_fewest_between : Cal P w K mg base cls 5 "fewest_between" m_fewest_between) : FnC P w K mg base cls 6 f fd ["council", "start", "goal"] m_fewest_on_line :=
  fnC_of F sc_fewest_on_line (fun _ _ _ _ _ _ us hl => match us, hl with | [_, _, _], _ => rfl) (by decide) (fun cdv A outer s H E H0 S0 hr => by
    have nd := sc_fewest_on_line.nd
    exact (dss_cons (ds_asg (vs := [3, 4]) (de_callX C_ends_of (hr.mono (by decide)) rfl (takes_of rfl rfl rfl rfl) (da_cons (dv 0) (da_nil))) (dg_tup rfl (dgs_cons (dg_name (i := 3) nd rfl (by first | exact Or.inl rfl | exact Or.inr rfl) (hv := (by decide))) (dgs_cons (dg_name (i := 4) nd rfl (by first | exact Or.inl rfl | exact Or.inr rfl) (hv := (by decide))) (dgs_nil)))))
    (dss_one (ds_ret (de_call C_fewest_between (hr.mono (by decide)) rfl (da_cons (dv 3) (da_cons (dv 4) (da_cons (dv 1) (da_cons (dv 2) (da_nil))))))))))
theorem ok_fewest_on_line {f : Addr} {fd : FuncData} (T : Txt P w K mg base cls) (F : FunD K "fewest_on_line" "fewest_on_line" (defArgs s_fewest_on_line) (defBody s_fewest_on_line) (defScope s_fewest_on_line) [] [] f fd) (hm : mg "fewest_on_line" = some (.ref f)) (C_ends_of : Cal P w K mg base cls 4 "ends_of" m_ends_of) (C_fewest_between : Cal P w K mg base cls 5 "fewest_between" m_fewest_between) : Cal P w K mg base cls 6 "fewest_on_line" m_fewest_on_line := ⟨f, fd, _, fc_fewest_on_line T F C_ends_of C_fewest_between, hm⟩

theorem sc__law_wrong : FnScope ["council", "place", "wrong"] ["council", "place"] (defScope s__law_wrong) := ⟨rfl, rfl, rfl, by decide +kernel, rfl, by decide +kernel, by decide +kernel⟩
theorem fc__law_wrong {f : Addr} {fd : FuncData} (T : Txt P w K mg base cls) (F : FunD K "_law_wrong" "_law_wrong" (defArgs s__law_wrong) (defBody s__law_wrong) (defScope s__law_wrong) [] [] f fd) (C_fewest_on_line : Cal P w K mg base cls 6 "fewest_on_line" m_fewest_on_line) : FnC P w K mg base cls 7 f fd ["council", "place"] m__law_wrong :=
  fnC_of F sc__law_wrong (fun _ _ _ _ _ _ us hl => match us, hl with | [_, _], _ => rfl) (by decide) (fun cdv A outer s H E H0 S0 hr => by
    have nd := sc__law_wrong.nd
    exact (dss_cons (ds_try_ex (i := 2) rfl rfl nd rfl rfl ⟨rfl, by decide, .inl T.g_CalmError⟩ (takes_of rfl rfl rfl rfl) T.cm_CalmError (fun W pn xe tk => de_callX C_fewest_on_line (hr.mono (by decide)) rfl tk (da_cons (dv 0) (da_cons (dv 1) (da_cons (dv 1) (da_nil))))) (hsu := fun a oe dd pn c fs hz hv hb => dss_one (ds_ret (de_and (de_xi hz hv T.is_WrongDimension rfl T.f_isinstance rfl T.g_WrongDimension) (de_one (de_cmp (os_eq hr.units) (de_xf hz hv T.xf_dimension) (de_fld T.fl_dimension (dv 0))))))))
    (dss_one (ds_ret (de_bl)))))
theorem ok__law_wrong {f : Addr} {fd : FuncData} (T : Txt P w K mg base cls) (F : FunD K "_law_wrong" "_law_wrong" (defArgs s__law_wrong) (defBody s__law_wrong) (defScope s__law_wrong) [] [] f fd) (hm : mg "_law_wrong" = some (.ref f)) (C_fewest_on_line : Cal P w K mg base cls 6 "fewest_on_line" m_fewest_on_line) : Cal P w K mg base cls 7 "_law_wrong" m__law_wrong := ⟨f, fd, _, fc__law_wrong T F C_fewest_on_line, hm⟩

theorem sc_smaller_wins : FnScope ["book", "number", "many", "voter"] ["book", "number", "many"] (defScope s_smaller_wins) := ⟨rfl, rfl, rfl, by decide +kernel, rfl, by decide +kernel, by decide +kernel⟩
theorem fc_smaller_wins {f : Addr} {fd : FuncData} (T : Txt P w K mg base cls) (F : FunD K "smaller_wins" "smaller_wins" (defArgs s_smaller_wins) (defBody s_smaller_wins) (defScope s_smaller_wins) [] [] f fd) : FnC P w K mg base cls 1 f fd ["book", "number", "many"] m_smaller_wins :=
  fnC_of F sc_smaller_wins (fun _ _ _ _ _ _ us hl => match us, hl with | [_, _, _], _ => rfl) (by decide) (fun cdv A outer s H E H0 S0 hr => by
    have nd := sc_smaller_wins.nd
    exact PSs.nox (dss_cons (ds_for (vs := [3]) PassesOwn.never rfl (di_range1 rfl T.f_range (da_cons (dv 2) (da_nil))) (dg_name (i := 3) nd rfl (by first | exact Or.inl rfl | exact Or.inr rfl) (hv := (by decide))) (dss_one (ds_if (dt_pw (dw_and (dt_cmp (os_eq hr.units) (de_op os_band (de_op os_shr (dv 1) (dv 3)) (de_int)) (de_int)) (dw_and1 (dt_val (de_ix xs_ix (dv 0) (de_op os_sub (dv 1) (de_op os_shl (de_int) (dv 3)))))))) (dss_one (ds_ret (de_bl))) (dss_nil))))
    (dss_one (ds_ret (de_bl)))))
theorem ok_smaller_wins {f : Addr} {fd : FuncData} (T : Txt P w K mg base cls) (F : FunD K "smaller_wins" "smaller_wins" (defArgs s_smaller_wins) (defBody s_smaller_wins) (defScope s_smaller_wins) [] [] f fd) (hm : mg "smaller_wins" = some (.ref f)) : Cal P w K mg base cls 1 "smaller_wins" m_smaller_wins := ⟨f, fd, _, fc_smaller_wins T F, hm⟩

theorem sc_winning_book : FnScope ["many", "numbers", "told", "book", "number"] ["many", "numbers"] (defScope s_winning_book) := ⟨rfl, rfl, rfl, by decide +kernel, rfl, by decide +kernel, by decide +kernel⟩
theorem fc_winning_book {f : Addr} {fd : FuncData} (T : Txt P w K mg base cls) (F : FunD K "winning_book" "winning_book" (defArgs s_winning_book) (defBody s_winning_book) (defScope s_winning_book) [] [] f fd) (C_smaller_wins : Cal P w K mg base cls 1 "smaller_wins" m_smaller_wins) : FnC P w K mg base cls 2 f fd ["many", "numbers"] m_winning_book :=
  fnC_of F sc_winning_book (fun _ _ _ _ _ _ us hl => match us, hl with | [_, _], _ => rfl) (by decide) (fun cdv A outer s H E H0 S0 hr => by
    have nd := sc_winning_book.nd
    exact PSs.nox (dss_cons (ds_setDc (i := 2) (own := [("number", 4)]) rfl nd rfl rfl (sw_trueD rfl rfl rfl (by decide +kernel)) (di_seq (dv 1)) (blkOk_by (N := ["many", "numbers", "told", "book", "number"]) (sc := defScope s_winning_book) (by decide +kernel)) (fun _ _ _ _ _ => dg_name (i := 4) nd rfl (by first | exact Or.inl rfl | exact Or.inr rfl) (hv := (by decide))) (fun _ _ _ _ _ => dts_nil) (fun _ _ _ _ _ => dv 4) (fun _ _ _ _ _ => de_bl))
    (dss_cons (ds_newL (i := 3) nd rfl (by first | exact Or.inl rfl | exact Or.inr rfl) (da_nil))
    (dss_cons (ds_for (vs := [4]) PassesOwn.never rfl (di_range1 rfl T.f_range (da_cons (de_op os_shl (de_int) (dv 0)) (da_nil))) (dg_name (i := 4) nd rfl (by first | exact Or.inl rfl | exact Or.inr rfl) (hv := (by decide))) (dss_one (ds_app (i := 3) (de_or (de_cmp (os_in hr.units) (dv 4) (dv 2)) (de_one (de_atom 3 (de_call C_smaller_wins (hr.mono (by decide)) rfl (da_cons (dv 3) (da_cons (dv 4) (da_cons (dv 0) (da_nil)))))))))))
    (dss_frz 3 (dss_one (ds_ret (de_fnT cs_tup rfl T.f_tuple (by decide +kernel) (da_cons (dv 3) (da_nil))))))))))
theorem ok_winning_book {f : Addr} {fd : FuncData} (T : Txt P w K mg base cls) (F : FunD K "winning_book" "winning_book" (defArgs s_winning_book) (defBody s_winning_book) (defScope s_winning_book) [] [] f fd) (hm : mg "winning_book" = some (.ref f)) (C_smaller_wins : Cal P w K mg base cls 1 "smaller_wins" m_smaller_wins) : Cal P w K mg base cls 2 "winning_book" m_winning_book := ⟨f, fd, _, fc_winning_book T F C_smaller_wins, hm⟩

theorem sc_lot_order : FnScope ["lot"] ["lot"] (defScope s_lot_order) := ⟨rfl, rfl, rfl, by decide +kernel, rfl, by decide +kernel, by decide +kernel⟩
theorem fc_lot_order {f : Addr} {fd : FuncData} (T : Txt P w K mg base cls) (F : FunD K "lot_order" "lot_order" (defArgs s_lot_order) (defBody s_lot_order) (defScope s_lot_order) [] [] f fd) : FnC P w K mg base cls 1 f fd ["lot"] m_lot_order :=
  fnC_of F sc_lot_order (fun _ _ _ _ _ _ us hl => match us, hl with | [_], _ => rfl) (by decide) (fun cdv A outer s H E H0 S0 hr => by
    have nd := sc_lot_order.nd
    exact PSs.nox (dss_one (ds_ret (de_tup (da_cons (de_fnB cs_len rfl T.f_len (by decide +kernel) (da_cons (dv 0) (da_nil))) (da_cons (dv 0) (da_nil)))))))
theorem ok_lot_order {f : Addr} {fd : FuncData} (T : Txt P w K mg base cls) (F : FunD K "lot_order" "lot_order" (defArgs s_lot_order) (defBody s_lot_order) (defScope s_lot_order) [] [] f fd) (hm : mg "lot_order" = some (.ref f)) : Cal P w K mg base cls 1 "lot_order" m_lot_order := ⟨f, fd, _, fc_lot_order T F, hm⟩

theorem sc_lot_of : FnScope ["number", "many", "voter"] ["number", "many"] (defScope s_lot_of) := ⟨rfl, rfl, rfl, by decide +kernel, rfl, by decide +kernel, by decide +kernel⟩
theorem fc_lot_of {f : Addr} {fd : FuncData} (T : Txt P w K mg base cls) (F : FunD K "lot_of" "lot_of" (defArgs s_lot_of) (defBody s_lot_of) (defScope s_lot_of) [] [] f fd) : FnC P w K mg base cls 1 f fd ["number", "many"] m_lot_of :=
  fnC_of F sc_lot_of (fun _ _ _ _ _ _ us hl => match us, hl with | [_, _], _ => rfl) (by decide) (fun cdv A outer s H E H0 S0 hr => by
    have nd := sc_lot_of.nd
    exact PSs.nox (dss_one (ds_ret (de_fnT cs_tup rfl T.f_tuple (by decide +kernel) (da_cons (de_lc (own := [("voter", 2)]) rfl nd (di_range1 rfl T.f_range (da_cons (dv 1) (da_nil))) (blkOk_by (N := ["number", "many", "voter"]) (sc := defScope s_lot_of) (by decide +kernel)) (fun _ _ _ _ _ => dg_name (i := 2) nd rfl (by first | exact Or.inl rfl | exact Or.inr rfl) (hv := (by decide))) (fun _ _ _ _ _ => pts_one (dt_cmp (os_eq hr.units) (de_op os_band (de_op os_shr (dv 0) (dv 2)) (de_int)) (de_int))) (fun _ _ _ _ _ => dv 2)) (da_nil))))))
theorem ok_lot_of {f : Addr} {fd : FuncData} (T : Txt P w K mg base cls) (F : FunD K "lot_of" "lot_of" (defArgs s_lot_of) (defBody s_lot_of) (defScope s_lot_of) [] [] f fd) (hm : mg "lot_of" = some (.ref f)) : Cal P w K mg base cls 1 "lot_of" m_lot_of := ⟨f, fd, _, fc_lot_of T F, hm⟩

theorem sc_least_lots : FnScope ["many", "book", "numbers", "number"] ["many", "book"] (defScope s_least_lots) := ⟨rfl, rfl, rfl, by decide +kernel, rfl, by decide +kernel, by decide +kernel⟩
theorem fc_least_lots {f : Addr} {fd : FuncData} (T : Txt P w K mg base cls) (F : FunD K "least_lots" "least_lots" (defArgs s_least_lots) (defBody s_least_lots) (defScope s_least_lots) [] [] f fd) (C_smaller_wins : Cal P w K mg base cls 1 "smaller_wins" m_smaller_wins) (C_lot_of : Cal P w K mg base cls 1 "lot_of" m_lot_of) (C_lot_order : Cal P w K mg base cls 1 "lot_order" m_lot_order) : FnC P w K mg base cls 4 f fd ["many", "book"] m_least_lots :=
  fnC_of F sc_least_lots (fun _ _ _ _ _ _ us hl => match us, hl with | [_, _], _ => rfl) (by decide) (fun cdv A outer s H E H0 S0 hr => by
    have nd := sc_least_lots.nd
    exact PSs.nox (dss_cons (ds_setLc (i := 2) (own := [("number", 3)]) rfl nd rfl rfl (sw_true rfl rfl rfl (by decide +kernel)) (di_range1 rfl T.f_range (da_cons (de_fnB cs_len rfl T.f_len (by decide +kernel) (da_cons (dv 1) (da_nil))) (da_nil))) (blkOk_by (N := ["many", "book", "numbers", "number"]) (sc := defScope s_least_lots) (by decide +kernel)) (fun _ _ _ _ _ => dg_name (i := 3) nd rfl (by first | exact Or.inl rfl | exact Or.inr rfl) (hv := (by decide))) (fun _ _ _ _ _ => pts_one (dt_pw (dw_and (dt_val (de_ix xs_ix (dv 1) (dv 3))) (dw_and1 (dt_not (dt_val (de_call C_smaller_wins (hr.mono (by decide)) rfl (da_cons (dv 1) (da_cons (dv 3) (da_cons (dv 0) (da_nil))))))))))) (fun _ _ _ _ _ => dv 3))
    (dss_one (ds_ret (de_fnT cs_tup rfl T.f_tuple (by decide +kernel) (da_cons (de_sortK C_lot_order (hr.mono (by decide)) rfl T.f_sorted rfl (de_lc (own := [("number", 3)]) rfl nd (di_seq (dv 2)) (blkOk_by (N := ["many", "book", "numbers", "number"]) (sc := defScope s_least_lots) (by decide +kernel)) (fun _ _ _ _ _ => dg_name (i := 3) nd rfl (by first | exact Or.inl rfl | exact Or.inr rfl) (hv := (by decide))) (fun _ _ _ _ _ => dts_nil) (fun _ _ _ _ _ => de_call C_lot_of (hr.mono (by decide)) rfl (da_cons (dv 3) (da_cons (dv 0) (da_nil)))))) (da_nil)))))))
theorem ok_least_lots {f : Addr} {fd : FuncData} (T : Txt P w K mg base cls) (F : FunD K "least_lots" "least_lots" (defArgs s_least_lots) (defBody s_least_lots) (defScope s_least_lots) [] [] f fd) (hm : mg "least_lots" = some (.ref f)) (C_smaller_wins : Cal P w K mg base cls 1 "smaller_wins" m_smaller_wins) (C_lot_of : Cal P w K mg base cls 1 "lot_of" m_lot_of) (C_lot_order : Cal P w K mg base cls 1 "lot_order" m_lot_order) : Cal P w K mg base cls 4 "least_lots" m_least_lots := ⟨f, fd, _, fc_least_lots T F C_smaller_wins C_lot_of C_lot_order, hm⟩

theorem sc_lot_number : FnScope ["lot", "number", "voter"] ["lot"] (defScope s_lot_number) := ⟨rfl, rfl, rfl, by decide +kernel, rfl, by decide +kernel, by decide +kernel⟩
theorem fc_lot_number {f : Addr} {fd : FuncData} (T : Txt P w K mg base cls) (F : FunD K "lot_number" "lot_number" (defArgs s_lot_number) (defBody s_lot_number) (defScope s_lot_number) [] [] f fd) : FnC P w K mg base cls 1 f fd ["lot"] m_lot_number :=
  fnC_of F sc_lot_number (fun _ _ _ _ _ _ us hl => match us, hl with | [_], _ => rfl) (by decide) (fun cdv A outer s H E H0 S0 hr => by
    have nd := sc_lot_number.nd
    exact PSs.nox (dss_cons (ds_set (i := 1) nd rfl (by first | exact Or.inl rfl | exact Or.inr rfl) (de_int))
    (dss_cons (ds_for (vs := [2]) PassesOwn.never rfl (di_seq (dv 0)) (dg_name (i := 2) nd rfl (by first | exact Or.inl rfl | exact Or.inr rfl) (hv := (by decide))) (dss_one (ds_set (i := 1) nd rfl (by first | exact Or.inl rfl | exact Or.inr rfl) (de_op os_add (dv 1) (de_op os_shl (de_int) (dv 2))))))
    (dss_one (ds_ret (dv 1))))))
theorem ok_lot_number {f : Addr} {fd : FuncData} (T : Txt P w K mg base cls) (F : FunD K "lot_number" "lot_number" (defArgs s_lot_number) (defBody s_lot_number) (defScope s_lot_number) [] [] f fd) (hm : mg "lot_number" = some (.ref f)) : Cal P w K mg base cls 1 "lot_number" m_lot_number := ⟨f, fd, _, fc_lot_number T F, hm⟩

theorem sc_is_lot : FnScope ["lot", "many", "last", "voter"] ["lot", "many"] (defScope s_is_lot) := ⟨rfl, rfl, rfl, by decide +kernel, rfl, by decide +kernel, by decide +kernel⟩
theorem fc_is_lot {f : Addr} {fd : FuncData} (T : Txt P w K mg base cls) (F : FunD K "is_lot" "is_lot" (defArgs s_is_lot) (defBody s_is_lot) (defScope s_is_lot) [] [] f fd) : FnC P w K mg base cls 1 f fd ["lot", "many"] m_is_lot :=
  fnC_of F sc_is_lot (fun _ _ _ _ _ _ us hl => match us, hl with | [_, _], _ => rfl) (by decide) (fun cdv A outer s H E H0 S0 hr => by
    have nd := sc_is_lot.nd
    exact PSs.nox (dss_cons (ds_set (i := 2) nd rfl (by first | exact Or.inl rfl | exact Or.inr rfl) (de_un os_neg (de_int)))
    (dss_cons (ds_for (vs := [3]) PassesOwn.never rfl (di_seq (dv 0)) (dg_name (i := 3) nd rfl (by first | exact Or.inl rfl | exact Or.inr rfl) (hv := (by decide))) (dss_cons (ds_if (dt_pw (dw_or (dt_cmp os_le (dv 3) (dv 2)) (dw_or1 (dt_cmp os_ge (dv 3) (dv 1))))) (dss_one (ds_ret (de_bl))) (dss_nil))
    (dss_one (ds_set (i := 2) nd rfl (by first | exact Or.inl rfl | exact Or.inr rfl) (dv 3)))))
    (dss_one (ds_ret (de_bl))))))
theorem ok_is_lot {f : Addr} {fd : FuncData} (T : Txt P w K mg base cls) (F : FunD K "is_lot" "is_lot" (defArgs s_is_lot) (defBody s_is_lot) (defScope s_is_lot) [] [] f fd) (hm : mg "is_lot" = some (.ref f)) : Cal P w K mg base cls 1 "is_lot" m_is_lot := ⟨f, fd, _, fc_is_lot T F, hm⟩

theorem sc_Rule___init__ : FnScope ["self", "many", "lots", "lot"] ["self", "many", "lots"] (defScope s_Rule___init__) := ⟨rfl, rfl, rfl, by decide +kernel, rfl, by decide +kernel, by decide +kernel⟩
theorem ok_Rule___init__ {f : Addr} {fd : FuncData} (T : Txt P w K mg base cls) (F : FunD K "__init__" "Rule.__init__" (defArgs s_Rule___init__) (defBody s_Rule___init__) (defScope s_Rule___init__) [] [] f fd) (mk : Mk K (cls 40) f) (hm : mg "Rule" = some (.ref (cls 40))) (C_is_lot : Cal P w K mg base cls 1 "is_lot" m_is_lot) (C_lot_number : Cal P w K mg base cls 1 "lot_number" m_lot_number) (C_winning_book : Cal P w K mg base cls 2 "winning_book" m_winning_book) (C_least_lots : Cal P w K mg base cls 4 "least_lots" m_least_lots) : CalI P w K mg base cls 5 "Rule" 40 i_Rule :=
  ⟨f, fd, ["self", "many", "lots"], mk, fnI_of F sc_Rule___init__ rfl (by decide) (fun cdv A outer s H E H0 S0 slf hr => by
    have nd := sc_Rule___init__.nd
    exact PSs.nox (dss_cons (ds_if (dt_cmp (os_eq hr.units) (de_fnB cs_len rfl T.f_len (by decide +kernel) (da_cons (dv 2) (da_nil))) (de_int)) (dss_one (ds_never)) (dss_nil))
    (dss_cons (ds_for (vs := [3]) PassesOwn.never rfl (di_seq (dv 2)) (dg_name (i := 3) nd rfl (by first | exact Or.inl rfl | exact Or.inr rfl) (hv := (by decide))) (dss_one (ds_if (dt_pw (dw_or (dt_cmp (os_eq hr.units) (de_fnB cs_len rfl T.f_len (by decide +kernel) (da_cons (dv 3) (da_nil))) (de_int)) (dw_or1 (dt_not (dt_val (de_call C_is_lot (hr.mono (by decide)) rfl (da_cons (dv 3) (da_cons (dv 1) (da_nil))))))))) (dss_one (ds_never)) (dss_nil))))
    (dss_cons (ds_setF 0 T.fl_many (dv 1))
    (dss_cons (ds_setF 0 T.fl_book (de_call C_winning_book (hr.mono (by decide)) rfl (da_cons (dv 1) (da_cons (de_lc (own := [("lot", 3)]) rfl nd (di_seq (dv 2)) (blkOk_by (N := ["self", "many", "lots", "lot"]) (sc := defScope s_Rule___init__) (by decide +kernel)) (fun _ _ _ _ _ => dg_name (i := 3) nd rfl (by first | exact Or.inl rfl | exact Or.inr rfl) (hv := (by decide))) (fun _ _ _ _ _ => dts_nil) (fun _ _ _ _ _ => de_call C_lot_number (hr.mono (by decide)) rfl (da_cons (dv 3) (da_nil)))) (da_nil)))))
    (dss_one (ds_setF 0 T.fl_least (de_call C_least_lots (hr.mono (by decide)) rfl (da_cons (dv 1) (da_cons (de_fldB 0 T.fl_book) (da_nil))))))))))), F.bindsN (fun _ _ _ _ _ _ us hl => match us, hl with | [_, _, _], _ => rfl), hm, runI_only⟩

theorem sc_Rule___or__ : FnScope ["self", "other"] ["self", "other"] (defScope s_Rule___or__) := ⟨rfl, rfl, rfl, by decide +kernel, rfl, by decide +kernel, by decide +kernel⟩
theorem fc_Rule___or__ {f : Addr} {fd : FuncData} (T : Txt P w K mg base cls) (F : FunD K "__or__" "Rule.__or__" (defArgs s_Rule___or__) (defBody s_Rule___or__) (defScope s_Rule___or__) [] [] f fd) (I_Rule : CalI P w K mg base cls 5 "Rule" 40 i_Rule) : FnC P w K mg base cls 7 f fd ["self", "other"] m_Rule___or__ :=
  fnC_of F sc_Rule___or__ (fun _ _ _ _ _ _ us hl => match us, hl with | [_, _], _ => rfl) (by decide) (fun cdv A outer s H E H0 S0 hr => by
    have nd := sc_Rule___or__.nd
    exact PSs.nox (dss_cons (ds_if (dt_cmp (os_ne hr.units) (de_fld T.fl_many (dv 0)) (de_fld T.fl_many (dv 1))) (dss_one (ds_never)) (dss_nil))
    (dss_one (ds_ret (de_make I_Rule (hr.mono (by decide)) rfl (da_cons (de_fld T.fl_many (dv 0)) (da_cons (de_op os_add (de_fld T.fl_least (dv 0)) (de_fld T.fl_least (dv 1))) (da_nil))))))))

theorem sc_sums_of : FnScope ["weights", "sums", "weight", "told"] ["weights"] (defScope s_sums_of) := ⟨rfl, rfl, rfl, by decide +kernel, rfl, by decide +kernel, by decide +kernel⟩
theorem fc_sums_of {f : Addr} {fd : FuncData} (T : Txt P w K mg base cls) (F : FunD K "sums_of" "sums_of" (defArgs s_sums_of) (defBody s_sums_of) (defScope s_sums_of) [] [] f fd) : FnC P w K mg base cls 1 f fd ["weights"] m_sums_of :=
  fnC_of F sc_sums_of (fun _ _ _ _ _ _ us hl => match us, hl with | [_], _ => rfl) (by decide) (fun cdv A outer s H E H0 S0 hr => by
    have nd := sc_sums_of.nd
    exact PSs.nox (dss_cons (ds_set (i := 1) nd rfl (by first | exact Or.inl rfl | exact Or.inr rfl) (de_lst (da_cons (de_int) (da_nil))))
    (dss_cons (ds_for (vs := [2]) PassesOwn.never rfl (di_seq (dv 0)) (dg_name (i := 2) nd rfl (by first | exact Or.inl rfl | exact Or.inr rfl) (hv := (by decide))) (dss_one (ds_set (i := 1) nd rfl (by first | exact Or.inl rfl | exact Or.inr rfl) (de_op os_add (dv 1) (de_lc (own := [("told", 3)]) rfl nd (di_seq (dv 1)) (blkOk_by (N := ["weights", "sums", "weight", "told"]) (sc := defScope s_sums_of) (by decide +kernel)) (fun _ _ _ _ _ => dg_name (i := 3) nd rfl (by first | exact Or.inl rfl | exact Or.inr rfl) (hv := (by decide))) (fun _ _ _ _ _ => dts_nil) (fun _ _ _ _ _ => de_op os_add (dv 3) (dv 2)))))))
    (dss_one (ds_ret (de_fnT cs_tup rfl T.f_tuple (by decide +kernel) (da_cons (dv 1) (da_nil))))))))
theorem ok_sums_of {f : Addr} {fd : FuncData} (T : Txt P w K mg base cls) (F : FunD K "sums_of" "sums_of" (defArgs s_sums_of) (defBody s_sums_of) (defScope s_sums_of) [] [] f fd) (hm : mg "sums_of" = some (.ref f)) : Cal P w K mg base cls 1 "sums_of" m_sums_of := ⟨f, fd, _, fc_sums_of T F, hm⟩

theorem sc_Rule_weighted : FnScope ["weights", "quota", "book", "told"] ["weights", "quota"] (defScope s_Rule_weighted) := ⟨rfl, rfl, rfl, by decide +kernel, rfl, by decide +kernel, by decide +kernel⟩
theorem fc_Rule_weighted {f : Addr} {fd : FuncData} (T : Txt P w K mg base cls) (F : FunD K "weighted" "Rule.weighted" (defArgs s_Rule_weighted) (defBody s_Rule_weighted) (defScope s_Rule_weighted) [] [] f fd) (C_sums_of : Cal P w K mg base cls 1 "sums_of" m_sums_of) (C_least_lots : Cal P w K mg base cls 4 "least_lots" m_least_lots) (I_Rule : CalI P w K mg base cls 5 "Rule" 40 i_Rule) : FnC P w K mg base cls 7 f fd ["weights", "quota"] m_Rule_weighted :=
  fnC_of F sc_Rule_weighted (fun _ _ _ _ _ _ us hl => match us, hl with | [_, _], _ => rfl) (by decide) (fun cdv A outer s H E H0 S0 hr => by
    have nd := sc_Rule_weighted.nd
    exact PSs.nox (dss_cons (ds_if (dt_pw (dw_or (dt_cmp (os_lt hr.units0) (dv 1) (de_int)) (dw_or1 (dt_cmp os_gt (dv 1) (de_fnB (cs_sum rfl) rfl T.f_sum (by decide +kernel) (da_cons (dv 0) (da_nil))))))) (dss_one (ds_never)) (dss_nil))
    (dss_cons (ds_setLc (i := 2) (own := [("told", 3)]) rfl nd rfl rfl (sw_true rfl rfl rfl (by decide +kernel)) (di_seq (de_call C_sums_of (hr.mono (by decide)) rfl (da_cons (dv 0) (da_nil)))) (blkOk_by (N := ["weights", "quota", "book", "told"]) (sc := defScope s_Rule_weighted) (by decide +kernel)) (fun _ _ _ _ _ => dg_name (i := 3) nd rfl (by first | exact Or.inl rfl | exact Or.inr rfl) (hv := (by decide))) (fun _ _ _ _ _ => dts_nil) (fun _ _ _ _ _ => de_cmp os_ge (dv 3) (dv 1)))
    (dss_one (ds_ret (de_make I_Rule (hr.mono (by decide)) rfl (da_cons (de_fnB cs_len rfl T.f_len (by decide +kernel) (da_cons (dv 0) (da_nil))) (da_cons (de_call C_least_lots (hr.mono (by decide)) rfl (da_cons (de_fnB cs_len rfl T.f_len (by decide +kernel) (da_cons (dv 0) (da_nil))) (da_cons (dv 2) (da_nil)))) (da_nil)))))))))

theorem sc_Rule___invert__ : FnScope ["self", "last", "book", "k"] ["self"] (defScope s_Rule___invert__) := ⟨rfl, rfl, rfl, by decide +kernel, rfl, by decide +kernel, by decide +kernel⟩
theorem fc_Rule___invert__ {f : Addr} {fd : FuncData} (T : Txt P w K mg base cls) (F : FunD K "__invert__" "Rule.__invert__" (defArgs s_Rule___invert__) (defBody s_Rule___invert__) (defScope s_Rule___invert__) [] [] f fd) (C_least_lots : Cal P w K mg base cls 4 "least_lots" m_least_lots) (I_Rule : CalI P w K mg base cls 5 "Rule" 40 i_Rule) : FnC P w K mg base cls 7 f fd ["self"] m_Rule___invert__ :=
  fnC_of F sc_Rule___invert__ (fun _ _ _ _ _ _ us hl => match us, hl with | [_], _ => rfl) (by decide) (fun cdv A outer s H E H0 S0 hr => by
    have nd := sc_Rule___invert__.nd
    exact PSs.nox (dss_cons (ds_set (i := 1) nd rfl (by first | exact Or.inl rfl | exact Or.inr rfl) (de_op os_sub (de_fnB cs_len rfl T.f_len (by decide +kernel) (da_cons (de_fld T.fl_book (dv 0)) (da_nil))) (de_int)))
    (dss_cons (ds_setLc (i := 2) (own := [("k", 3)]) rfl nd rfl rfl (sw_true rfl rfl rfl (by decide +kernel)) (di_range1 rfl T.f_range (da_cons (de_fnB cs_len rfl T.f_len (by decide +kernel) (da_cons (de_fld T.fl_book (dv 0)) (da_nil))) (da_nil))) (blkOk_by (N := ["self", "last", "book", "k"]) (sc := defScope s_Rule___invert__) (by decide +kernel)) (fun _ _ _ _ _ => dg_name (i := 3) nd rfl (by first | exact Or.inl rfl | exact Or.inr rfl) (hv := (by decide))) (fun _ _ _ _ _ => dts_nil) (fun _ _ _ _ _ => de_not (de_ix xs_ix (de_fld T.fl_book (dv 0)) (de_op os_sub (dv 1) (dv 3)))))
    (dss_one (ds_ret (de_make I_Rule (hr.mono (by decide)) rfl (da_cons (de_fld T.fl_many (dv 0)) (da_cons (de_call C_least_lots (hr.mono (by decide)) rfl (da_cons (de_fld T.fl_many (dv 0)) (da_cons (dv 2) (da_nil)))) (da_nil)))))))))

theorem sc_Rule___and__ : FnScope ["self", "other", "book", "k"] ["self", "other"] (defScope s_Rule___and__) := ⟨rfl, rfl, rfl, by decide +kernel, rfl, by decide +kernel, by decide +kernel⟩
theorem fc_Rule___and__ {f : Addr} {fd : FuncData} (T : Txt P w K mg base cls) (F : FunD K "__and__" "Rule.__and__" (defArgs s_Rule___and__) (defBody s_Rule___and__) (defScope s_Rule___and__) [] [] f fd) (C_least_lots : Cal P w K mg base cls 4 "least_lots" m_least_lots) (I_Rule : CalI P w K mg base cls 5 "Rule" 40 i_Rule) : FnC P w K mg base cls 7 f fd ["self", "other"] m_Rule___and__ :=
  fnC_of F sc_Rule___and__ (fun _ _ _ _ _ _ us hl => match us, hl with | [_, _], _ => rfl) (by decide) (fun cdv A outer s H E H0 S0 hr => by
    have nd := sc_Rule___and__.nd
    exact PSs.nox (dss_cons (ds_if (dt_cmp (os_ne hr.units) (de_fld T.fl_many (dv 0)) (de_fld T.fl_many (dv 1))) (dss_one (ds_never)) (dss_nil))
    (dss_cons (ds_setLc (i := 2) (own := [("k", 3)]) rfl nd rfl rfl (sw_true rfl rfl rfl (by decide +kernel)) (di_range1 rfl T.f_range (da_cons (de_fnB cs_len rfl T.f_len (by decide +kernel) (da_cons (de_fld T.fl_book (dv 0)) (da_nil))) (da_nil))) (blkOk_by (N := ["self", "other", "book", "k"]) (sc := defScope s_Rule___and__) (by decide +kernel)) (fun _ _ _ _ _ => dg_name (i := 3) nd rfl (by first | exact Or.inl rfl | exact Or.inr rfl) (hv := (by decide))) (fun _ _ _ _ _ => dts_nil) (fun _ _ _ _ _ => de_and (de_ix xs_ix (de_fld T.fl_book (dv 0)) (dv 3)) (de_one (de_ix xs_ix (de_fld T.fl_book (dv 1)) (dv 3)))))
    (dss_one (ds_ret (de_make I_Rule (hr.mono (by decide)) rfl (da_cons (de_fld T.fl_many (dv 0)) (da_cons (de_call C_least_lots (hr.mono (by decide)) rfl (da_cons (de_fld T.fl_many (dv 0)) (da_cons (dv 2) (da_nil)))) (da_nil)))))))))

theorem sc__law_rule : FnScope ["words", "many", "first", "second"] ["words", "many"] (defScope s__law_rule) := ⟨rfl, rfl, rfl, by decide +kernel, rfl, by decide +kernel, by decide +kernel⟩
theorem st__law_rule {f : Addr} {fd : FuncData} {g : List D → Res D} (n : Nat) (T : Txt P w K mg base cls) (F : FunD K "_law_rule" "_law_rule" (defArgs s__law_rule) (defBody s__law_rule) (defScope s__law_rule) [] [] f fd) (hm : mg "_law_rule" = some (.ref f)) (S_Rule_weighted : StaD P w K mg base cls 7 40 "Rule" "weighted" m_Rule_weighted) (I_Rule : CalI P w K mg base cls 5 "Rule" 40 i_Rule) (O_Rule___invert__ : OpD P w K mg base cls 7 40 ("__invert__") m_Rule___invert__) (O_Rule___and__ : OpD P w K mg base cls 7 40 (PySem.dunder Operator.BitAnd.info.2) m_Rule___and__) (O_Rule___or__ : OpD P w K mg base cls 7 40 (PySem.dunder Operator.BitOr.info.2) m_Rule___or__) (C__law_rule : Cal P w K mg base cls (7 + n) "_law_rule" g) : Cal P w K mg base cls (7 + n + 1) "_law_rule" (r__law_rule g) :=
  ⟨f, fd, ["words", "many"], fnC_of F sc__law_rule (fun _ _ _ _ _ _ us hl => match us, hl with | [_, _], _ => rfl) (by decide) (fun cdv A outer s H E H0 S0 hr => by
    have nd := sc__law_rule.nd
    exact PSs.nox (dss_cons (ds_if (dt_cmp (os_eq hr.units) (de_ix xs_ix (dv 0) (de_int)) (de_str)) (dss_one (ds_ret (de_static S_Rule_weighted (hr.mono (by omega)) rfl (da_cons (de_ix xs_ix (dv 0) (de_int)) (da_cons (de_ix xs_ix (dv 0) (de_int)) (da_nil)))))) (dss_nil))
    (dss_cons (ds_if (dt_cmp (os_eq hr.units) (de_ix xs_ix (dv 0) (de_int)) (de_str)) (dss_one (ds_ret (de_make I_Rule (hr.mono (by omega)) rfl (da_cons (dv 1) (da_cons (de_ix xs_ix (dv 0) (de_int)) (da_nil)))))) (dss_nil))
    (dss_cons (ds_set (i := 2) nd rfl (by first | exact Or.inl rfl | exact Or.inr rfl) (de_call C__law_rule (hr.mono (by omega)) rfl (da_cons (de_ix xs_ix (dv 0) (de_int)) (da_cons (dv 1) (da_nil)))))
    (dss_cons (ds_if (dt_cmp (os_eq hr.units) (de_ix xs_ix (dv 0) (de_int)) (de_str)) (dss_one (ds_ret (de_un (os_inv O_Rule___invert__ (hr.mono (by omega))) (dv 2)))) (dss_nil))
    (dss_cons (ds_set (i := 3) nd rfl (by first | exact Or.inl rfl | exact Or.inr rfl) (de_call C__law_rule (hr.mono (by omega)) rfl (da_cons (de_ix xs_ix (dv 0) (de_int)) (da_cons (dv 1) (da_nil)))))
    (dss_cons (ds_if (dt_cmp (os_eq hr.units) (de_ix xs_ix (dv 0) (de_int)) (de_str)) (dss_one (ds_ret (de_op (os_own (op := .BitAnd) O_Rule___and__ (hr.mono (by omega))) (dv 2) (dv 3)))) (dss_nil))
    (dss_one (ds_ret (de_op (os_own (op := .BitOr) O_Rule___or__ (hr.mono (by omega))) (dv 2) (dv 3))))))))))), hm⟩
theorem ze__law_rule {f : Addr} {fd : FuncData} (F : FunD K "_law_rule" "_law_rule" (defArgs s__law_rule) (defBody s__law_rule) (defScope s__law_rule) [] [] f fd) (hm : mg "_law_rule" = some (.ref f)) : Cal P w K mg base cls (7 + 0) "_law_rule" (mr__law_rule 0) := cal_stuck F sc__law_rule (fun _ _ _ _ _ _ us hl => match us, hl with | [_, _], _ => rfl) (by decide) hm
theorem al__law_rule {f : Addr} {fd : FuncData} (T : Txt P w K mg base cls) (F : FunD K "_law_rule" "_law_rule" (defArgs s__law_rule) (defBody s__law_rule) (defScope s__law_rule) [] [] f fd) (hm : mg "_law_rule" = some (.ref f)) (S_Rule_weighted : StaD P w K mg base cls 7 40 "Rule" "weighted" m_Rule_weighted) (I_Rule : CalI P w K mg base cls 5 "Rule" 40 i_Rule) (O_Rule___invert__ : OpD P w K mg base cls 7 40 ("__invert__") m_Rule___invert__) (O_Rule___and__ : OpD P w K mg base cls 7 40 (PySem.dunder Operator.BitAnd.info.2) m_Rule___and__) (O_Rule___or__ : OpD P w K mg base cls 7 40 (PySem.dunder Operator.BitOr.info.2) m_Rule___or__) : ∀ n : Nat, Cal P w K mg base cls (7 + n) "_law_rule" (mr__law_rule n)
  | 0 => ze__law_rule F hm
  | n + 1 => st__law_rule n T F hm S_Rule_weighted I_Rule O_Rule___invert__ O_Rule___and__ O_Rule___or__ (al__law_rule T F hm S_Rule_weighted I_Rule O_Rule___invert__ O_Rule___and__ O_Rule___or__ n)
theorem ok__law_rule {f : Addr} {fd : FuncData} (T : Txt P w K mg base cls) (F : FunD K "_law_rule" "_law_rule" (defArgs s__law_rule) (defBody s__law_rule) (defScope s__law_rule) [] [] f fd) (hm : mg "_law_rule" = some (.ref f)) (S_Rule_weighted : StaD P w K mg base cls 7 40 "Rule" "weighted" m_Rule_weighted) (I_Rule : CalI P w K mg base cls 5 "Rule" 40 i_Rule) (O_Rule___invert__ : OpD P w K mg base cls 7 40 ("__invert__") m_Rule___invert__) (O_Rule___and__ : OpD P w K mg base cls 7 40 (PySem.dunder Operator.BitAnd.info.2) m_Rule___and__) (O_Rule___or__ : OpD P w K mg base cls 7 40 (PySem.dunder Operator.BitOr.info.2) m_Rule___or__) : Cal P w K mg base cls 11 "_law_rule" m__law_rule := al__law_rule T F hm S_Rule_weighted I_Rule O_Rule___invert__ O_Rule___and__ O_Rule___or__ 4

theorem sc__law_gcd : FnScope ["one", "other", "rest"] ["one", "other"] (defScope s__law_gcd) := ⟨rfl, rfl, rfl, by decide +kernel, rfl, by decide +kernel, by decide +kernel⟩
theorem fc__law_gcd {f : Addr} {fd : FuncData} (T : Txt P w K mg base cls) (F : FunD K "_law_gcd" "_law_gcd" (defArgs s__law_gcd) (defBody s__law_gcd) (defScope s__law_gcd) [] [] f fd) : FnC P w K mg base cls 1 f fd ["one", "other"] m__law_gcd :=
  fnC_of F sc__law_gcd (fun _ _ _ _ _ _ us hl => match us, hl with | [_, _], _ => rfl) (by decide) (fun cdv A outer s H E H0 S0 hr => by
    have nd := sc__law_gcd.nd
    exact PSs.nox (dss_cons (ds_set (i := 0) nd rfl (by first | exact Or.inl rfl | exact Or.inr rfl) (de_fnB cs_abs rfl T.f_abs (by decide +kernel) (da_cons (dv 0) (da_nil))))
    (dss_cons (ds_set (i := 1) nd rfl (by first | exact Or.inl rfl | exact Or.inr rfl) (de_fnB cs_abs rfl T.f_abs (by decide +kernel) (da_cons (dv 1) (da_nil))))
    (dss_cons (ds_while PassesOwn.never (dt_cmp (os_ne hr.units) (dv 1) (de_int)) (dss_cons (ds_set (i := 2) nd rfl (by first | exact Or.inl rfl | exact Or.inr rfl) (de_op os_mod (de_fnT cs_int rfl T.f_int (by decide +kernel) (da_cons (dv 0) (da_nil))) (dv 1)))
    (dss_cons (ds_set (i := 0) nd rfl (by first | exact Or.inl rfl | exact Or.inr rfl) (dv 1))
    (dss_one (ds_set (i := 1) nd rfl (by first | exact Or.inl rfl | exact Or.inr rfl) (dv 2))))))
    (dss_one (ds_ret (dv 0)))))))
theorem ok__law_gcd {f : Addr} {fd : FuncData} (T : Txt P w K mg base cls) (F : FunD K "_law_gcd" "_law_gcd" (defArgs s__law_gcd) (defBody s__law_gcd) (defScope s__law_gcd) [] [] f fd) (hm : mg "_law_gcd" = some (.ref f)) : Cal P w K mg base cls 1 "_law_gcd" m__law_gcd := ⟨f, fd, _, fc__law_gcd T F, hm⟩

theorem sc__law_reduced : FnScope ["numbers", "bottom", "common", "number"] ["numbers", "bottom"] (defScope s__law_reduced) := ⟨rfl, rfl, rfl, by decide +kernel, rfl, by decide +kernel, by decide +kernel⟩
theorem fc__law_reduced {f : Addr} {fd : FuncData} (T : Txt P w K mg base cls) (F : FunD K "_law_reduced" "_law_reduced" (defArgs s__law_reduced) (defBody s__law_reduced) (defScope s__law_reduced) [] [] f fd) (C__law_gcd : Cal P w K mg base cls 1 "_law_gcd" m__law_gcd) : FnC P w K mg base cls 2 f fd ["numbers", "bottom"] m__law_reduced :=
  fnC_of F sc__law_reduced (fun _ _ _ _ _ _ us hl => match us, hl with | [_, _], _ => rfl) (by decide) (fun cdv A outer s H E H0 S0 hr => by
    have nd := sc__law_reduced.nd
    exact PSs.nox (dss_cons (ds_set (i := 2) nd rfl (by first | exact Or.inl rfl | exact Or.inr rfl) (dv 1))
    (dss_cons (ds_for (vs := [3]) PassesOwn.never rfl (di_seq (dv 0)) (dg_name (i := 3) nd rfl (by first | exact Or.inl rfl | exact Or.inr rfl) (hv := (by decide))) (dss_one (ds_set (i := 2) nd rfl (by first | exact Or.inl rfl | exact Or.inr rfl) (de_call C__law_gcd (hr.mono (by decide)) rfl (da_cons (dv 2) (da_cons (dv 3) (da_nil)))))))
    (dss_one (ds_ret (de_op os_add (de_fnT cs_tup rfl T.f_tuple (by decide +kernel) (da_cons (de_lc (own := [("number", 3)]) rfl nd (di_seq (dv 0)) (blkOk_by (N := ["numbers", "bottom", "common", "number"]) (sc := defScope s__law_reduced) (by decide +kernel)) (fun _ _ _ _ _ => dg_name (i := 3) nd rfl (by first | exact Or.inl rfl | exact Or.inr rfl) (hv := (by decide))) (fun _ _ _ _ _ => dts_nil) (fun _ _ _ _ _ => de_op os_fdiv (dv 3) (dv 2))) (da_nil))) (de_tup (da_cons (de_op os_fdiv (dv 1) (dv 2)) (da_nil)))))))))
theorem ok__law_reduced {f : Addr} {fd : FuncData} (T : Txt P w K mg base cls) (F : FunD K "_law_reduced" "_law_reduced" (defArgs s__law_reduced) (defBody s__law_reduced) (defScope s__law_reduced) [] [] f fd) (hm : mg "_law_reduced" = some (.ref f)) (C__law_gcd : Cal P w K mg base cls 1 "_law_gcd" m__law_gcd) : Cal P w K mg base cls 2 "_law_reduced" m__law_reduced := ⟨f, fd, _, fc__law_reduced T F C__law_gcd, hm⟩

theorem sc__law_motion : FnScope ["row", "size", "room", "bottom", "wide", "j"] ["row", "size", "room"] (defScope s__law_motion) := ⟨rfl, rfl, rfl, by decide +kernel, rfl, by decide +kernel, by decide +kernel⟩
theorem fc__law_motion {f : Addr} {fd : FuncData} (T : Txt P w K mg base cls) (F : FunD K "_law_motion" "_law_motion" (defArgs s__law_motion) (defBody s__law_motion) (defScope s__law_motion) [] [] f fd) (C__law_reduced : Cal P w K mg base cls 2 "_law_reduced" m__law_reduced) : FnC P w K mg base cls 3 f fd ["row", "size", "room"] m__law_motion :=
  fnC_of F sc__law_motion (fun _ _ _ _ _ _ us hl => match us, hl with | [_, _, _], _ => rfl) (by decide) (fun cdv A outer s H E H0 S0 hr => by
    have nd := sc__law_motion.nd
    exact PSs.nox (dss_cons (ds_set (i := 3) nd rfl (by first | exact Or.inl rfl | exact Or.inr rfl) (de_ix xs_ix (de_lst (da_cons (de_int) (da_cons (de_int) (da_cons (de_int) (da_cons (de_int) (da_cons (de_int) (da_cons (de_int) (da_cons (de_int) (da_cons (de_int) (da_cons (de_int) (da_cons (de_int) (da_cons (de_int) (da_cons (de_int) (da_nil)))))))))))))) (de_ix xs_ix (dv 0) (de_int))))
    (dss_cons (ds_set (i := 4) nd rfl (by first | exact Or.inl rfl | exact Or.inr rfl) (de_op os_add (de_op os_mul (de_op os_mul (de_int) (dv 2)) (dv 3)) (de_int)))
    (dss_one (ds_ret (de_call C__law_reduced (hr.mono (by decide)) rfl (da_cons (de_lc (own := [("j", 5)]) rfl nd (di_range1 rfl T.f_range (da_cons (dv 1) (da_nil))) (blkOk_by (N := ["row", "size", "room", "bottom", "wide", "j"]) (sc := defScope s__law_motion) (by decide +kernel)) (fun _ _ _ _ _ => dg_name (i := 5) nd rfl (by first | exact Or.inl rfl | exact Or.inr rfl) (hv := (by decide))) (fun _ _ _ _ _ => dts_nil) (fun _ _ _ _ _ => de_op os_sub (de_op os_mod (de_fnT cs_int rfl T.f_int (by decide +kernel) (da_cons (de_ix xs_ix (dv 0) (de_op os_add (de_int) (dv 5))) (da_nil))) (dv 4)) (de_op os_mul (dv 2) (dv 3)))) (da_cons (dv 3) (da_nil)))))))))
theorem ok__law_motion {f : Addr} {fd : FuncData} (T : Txt P w K mg base cls) (F : FunD K "_law_motion" "_law_motion" (defArgs s__law_motion) (defBody s__law_motion) (defScope s__law_motion) [] [] f fd) (hm : mg "_law_motion" = some (.ref f)) (C__law_reduced : Cal P w K mg base cls 2 "_law_reduced" m__law_reduced) : Cal P w K mg base cls 3 "_law_motion" m__law_motion := ⟨f, fd, _, fc__law_motion T F C__law_reduced, hm⟩

theorem sc__law_fraction : FnScope ["over_line", "under_line", "common"] ["over_line", "under_line"] (defScope s__law_fraction) := ⟨rfl, rfl, rfl, by decide +kernel, rfl, by decide +kernel, by decide +kernel⟩
theorem fc__law_fraction {f : Addr} {fd : FuncData} (T : Txt P w K mg base cls) (F : FunD K "_law_fraction" "_law_fraction" (defArgs s__law_fraction) (defBody s__law_fraction) (defScope s__law_fraction) [] [] f fd) (C__law_gcd : Cal P w K mg base cls 1 "_law_gcd" m__law_gcd) : FnC P w K mg base cls 2 f fd ["over_line", "under_line"] m__law_fraction :=
  fnC_of F sc__law_fraction (fun _ _ _ _ _ _ us hl => match us, hl with | [_, _], _ => rfl) (by decide) (fun cdv A outer s H E H0 S0 hr => by
    have nd := sc__law_fraction.nd
    exact PSs.nox (dss_cons (ds_set (i := 2) nd rfl (by first | exact Or.inl rfl | exact Or.inr rfl) (de_call C__law_gcd (hr.mono (by decide)) rfl (da_cons (dv 0) (da_cons (dv 1) (da_nil)))))
    (dss_cons (ds_if (dt_cmp (os_lt hr.units0) (dv 1) (de_int)) (dss_one (ds_set (i := 2) nd rfl (by first | exact Or.inl rfl | exact Or.inr rfl) (de_un os_neg (dv 2)))) (dss_nil))
    (dss_one (ds_ret (de_tup (da_cons (de_op os_fdiv (dv 0) (dv 2)) (da_cons (de_op os_fdiv (dv 1) (dv 2)) (da_nil)))))))))
theorem ok__law_fraction {f : Addr} {fd : FuncData} (T : Txt P w K mg base cls) (F : FunD K "_law_fraction" "_law_fraction" (defArgs s__law_fraction) (defBody s__law_fraction) (defScope s__law_fraction) [] [] f fd) (hm : mg "_law_fraction" = some (.ref f)) (C__law_gcd : Cal P w K mg base cls 1 "_law_gcd" m__law_gcd) : Cal P w K mg base cls 2 "_law_fraction" m__law_fraction := ⟨f, fd, _, fc__law_fraction T F C__law_gcd, hm⟩

theorem sc__law_plus : FnScope ["one", "other"] ["one", "other"] (defScope s__law_plus) := ⟨rfl, rfl, rfl, by decide +kernel, rfl, by decide +kernel, by decide +kernel⟩
theorem fc__law_plus {f : Addr} {fd : FuncData} (T : Txt P w K mg base cls) (F : FunD K "_law_plus" "_law_plus" (defArgs s__law_plus) (defBody s__law_plus) (defScope s__law_plus) [] [] f fd) (C__law_fraction : Cal P w K mg base cls 2 "_law_fraction" m__law_fraction) : FnC P w K mg base cls 3 f fd ["one", "other"] m__law_plus :=
  fnC_of F sc__law_plus (fun _ _ _ _ _ _ us hl => match us, hl with | [_, _], _ => rfl) (by decide) (fun cdv A outer s H E H0 S0 hr => by
    have nd := sc__law_plus.nd
    exact PSs.nox (dss_one (ds_ret (de_call C__law_fraction (hr.mono (by decide)) rfl (da_cons (de_op os_add (de_op os_mul (de_ix xs_ix (dv 0) (de_int)) (de_ix xs_ix (dv 1) (de_int))) (de_op os_mul (de_ix xs_ix (dv 1) (de_int)) (de_ix xs_ix (dv 0) (de_int)))) (da_cons (de_op os_mul (de_ix xs_ix (dv 0) (de_int)) (de_ix xs_ix (dv 1) (de_int))) (da_nil)))))))
theorem ok__law_plus {f : Addr} {fd : FuncData} (T : Txt P w K mg base cls) (F : FunD K "_law_plus" "_law_plus" (defArgs s__law_plus) (defBody s__law_plus) (defScope s__law_plus) [] [] f fd) (hm : mg "_law_plus" = some (.ref f)) (C__law_fraction : Cal P w K mg base cls 2 "_law_fraction" m__law_fraction) : Cal P w K mg base cls 3 "_law_plus" m__law_plus := ⟨f, fd, _, fc__law_plus T F C__law_fraction, hm⟩

theorem sc__law_mirror : FnScope ["place", "number"] ["place", "number"] (defScope s__law_mirror) := ⟨rfl, rfl, rfl, by decide +kernel, rfl, by decide +kernel, by decide +kernel⟩
theorem fc__law_mirror {f : Addr} {fd : FuncData} (T : Txt P w K mg base cls) (F : FunD K "_law_mirror" "_law_mirror" (defArgs s__law_mirror) (defBody s__law_mirror) (defScope s__law_mirror) [] [] f fd) (C__law_fraction : Cal P w K mg base cls 2 "_law_fraction" m__law_fraction) : FnC P w K mg base cls 3 f fd ["place", "number"] m__law_mirror :=
  fnC_of F sc__law_mirror (fun _ _ _ _ _ _ us hl => match us, hl with | [_, _], _ => rfl) (by decide) (fun cdv A outer s H E H0 S0 hr => by
    have nd := sc__law_mirror.nd
    exact PSs.nox (dss_one (ds_ret (de_call C__law_fraction (hr.mono (by decide)) rfl (da_cons (de_op os_sub (de_op os_mul (de_op os_mul (de_int) (dv 1)) (de_ix xs_ix (dv 0) (de_int))) (de_ix xs_ix (dv 0) (de_int))) (da_cons (de_ix xs_ix (dv 0) (de_int)) (da_nil)))))))
theorem ok__law_mirror {f : Addr} {fd : FuncData} (T : Txt P w K mg base cls) (F : FunD K "_law_mirror" "_law_mirror" (defArgs s__law_mirror) (defBody s__law_mirror) (defScope s__law_mirror) [] [] f fd) (hm : mg "_law_mirror" = some (.ref f)) (C__law_fraction : Cal P w K mg base cls 2 "_law_fraction" m__law_fraction) : Cal P w K mg base cls 3 "_law_mirror" m__law_mirror := ⟨f, fd, _, fc__law_mirror T F C__law_fraction, hm⟩

theorem sc__law_sign : FnScope ["one", "other", "left", "right"] ["one", "other"] (defScope s__law_sign) := ⟨rfl, rfl, rfl, by decide +kernel, rfl, by decide +kernel, by decide +kernel⟩
theorem fc__law_sign {f : Addr} {fd : FuncData} (T : Txt P w K mg base cls) (F : FunD K "_law_sign" "_law_sign" (defArgs s__law_sign) (defBody s__law_sign) (defScope s__law_sign) [] [] f fd) : FnC P w K mg base cls 1 f fd ["one", "other"] m__law_sign :=
  fnC_of F sc__law_sign (fun _ _ _ _ _ _ us hl => match us, hl with | [_, _], _ => rfl) (by decide) (fun cdv A outer s H E H0 S0 hr => by
    have nd := sc__law_sign.nd
    exact PSs.nox (dss_cons (ds_set (i := 2) nd rfl (by first | exact Or.inl rfl | exact Or.inr rfl) (de_op os_mul (de_ix xs_ix (dv 0) (de_int)) (de_ix xs_ix (dv 1) (de_int))))
    (dss_cons (ds_set (i := 3) nd rfl (by first | exact Or.inl rfl | exact Or.inr rfl) (de_op os_mul (de_ix xs_ix (dv 1) (de_int)) (de_ix xs_ix (dv 0) (de_int))))
    (dss_one (ds_ret (de_op os_sub (de_fnT cs_int rfl T.f_int (by decide +kernel) (da_cons (de_cmp os_gt (dv 2) (dv 3)) (da_nil))) (de_fnT cs_int rfl T.f_int (by decide +kernel) (da_cons (de_cmp (os_lt hr.units0) (dv 2) (dv 3)) (da_nil)))))))))
theorem ok__law_sign {f : Addr} {fd : FuncData} (T : Txt P w K mg base cls) (F : FunD K "_law_sign" "_law_sign" (defArgs s__law_sign) (defBody s__law_sign) (defScope s__law_sign) [] [] f fd) (hm : mg "_law_sign" = some (.ref f)) : Cal P w K mg base cls 1 "_law_sign" m__law_sign := ⟨f, fd, _, fc__law_sign T F, hm⟩

theorem sc__law_line_votes : FnScope ["upper", "lower", "start", "goal", "count", "low", "high", "votes", "further", "before"] ["upper", "lower", "start", "goal", "count"] (defScope s__law_line_votes) := ⟨rfl, rfl, rfl, by decide +kernel, rfl, by decide +kernel, by decide +kernel⟩
theorem fc__law_line_votes {f : Addr} {fd : FuncData} (T : Txt P w K mg base cls) (F : FunD K "_law_line_votes" "_law_line_votes" (defArgs s__law_line_votes) (defBody s__law_line_votes) (defScope s__law_line_votes) [] [] f fd) (C__law_sign : Cal P w K mg base cls 1 "_law_sign" m__law_sign) (C__law_mirror : Cal P w K mg base cls 3 "_law_mirror" m__law_mirror) : FnC P w K mg base cls 4 f fd ["upper", "lower", "start", "goal", "count"] m__law_line_votes :=
  fnC_of F sc__law_line_votes (fun _ _ _ _ _ _ us hl => match us, hl with | [_, _, _, _, _], _ => rfl) (by decide) (fun cdv A outer s H E H0 S0 hr => by
    have nd := sc__law_line_votes.nd
    exact PSs.nox (dss_cons (ds_if (dt_cmp (os_eq hr.units) (dv 2) (dv 3)) (dss_one (ds_ret (de_int))) (dss_nil))
    (dss_cons (ds_set (i := 5) nd rfl (by first | exact Or.inl rfl | exact Or.inr rfl) (dv 2))
    (dss_cons (ds_set (i := 6) nd rfl (by first | exact Or.inl rfl | exact Or.inr rfl) (dv 2))
    (dss_cons (ds_for (vs := [7]) PassesOwn.never rfl (di_range2 rfl T.f_range (da_cons (de_int) (da_cons (de_op os_add (dv 4) (de_int)) (da_nil)))) (dg_name (i := 7) nd rfl (by first | exact Or.inl rfl | exact Or.inr rfl) (hv := (by decide))) (dss_cons (ds_set (i := 8) nd rfl (by first | exact Or.inl rfl | exact Or.inr rfl) (dv 6))
    (dss_cons (ds_if (dt_pw (dw_and (dt_cmp (os_lt hr.units0) (de_call C__law_sign (hr.mono (by decide)) rfl (da_cons (dv 5) (da_cons (de_tup (da_cons (dv 0) (da_cons (de_int) (da_nil)))) (da_nil)))) (de_int)) (dw_and1 (dt_cmp os_gt (de_call C__law_sign (hr.mono (by decide)) rfl (da_cons (de_call C__law_mirror (hr.mono (by decide)) rfl (da_cons (dv 5) (da_cons (dv 0) (da_nil)))) (da_cons (dv 6) (da_nil)))) (de_int))))) (dss_one (ds_set (i := 8) nd rfl (by first | exact Or.inl rfl | exact Or.inr rfl) (de_call C__law_mirror (hr.mono (by decide)) rfl (da_cons (dv 5) (da_cons (dv 0) (da_nil)))))) (dss_nil))
    (dss_cons (ds_set (i := 9) nd rfl (by first | exact Or.inl rfl | exact Or.inr rfl) (dv 5))
    (dss_cons (ds_if (dt_pw (dw_and (dt_cmp os_gt (de_call C__law_sign (hr.mono (by decide)) rfl (da_cons (dv 6) (da_cons (de_tup (da_cons (dv 1) (da_cons (de_int) (da_nil)))) (da_nil)))) (de_int)) (dw_and1 (dt_cmp (os_lt hr.units0) (de_call C__law_sign (hr.mono (by decide)) rfl (da_cons (de_call C__law_mirror (hr.mono (by decide)) rfl (da_cons (dv 6) (da_cons (dv 1) (da_nil)))) (da_cons (dv 5) (da_nil)))) (de_int))))) (dss_one (ds_set (i := 9) nd rfl (by first | exact Or.inl rfl | exact Or.inr rfl) (de_call C__law_mirror (hr.mono (by decide)) rfl (da_cons (dv 6) (da_cons (dv 1) (da_nil)))))) (dss_nil))
    (dss_cons (ds_if (dt_pw (dw_and (dt_cmp (os_eq hr.units) (dv 9) (dv 5)) (dw_and1 (dt_cmp (os_eq hr.units) (dv 8) (dv 6))))) (dss_one (ds_ret (de_non))) (dss_nil))
    (dss_cons (ds_set (i := 5) nd rfl (by first | exact Or.inl rfl | exact Or.inr rfl) (dv 9))
    (dss_cons (ds_set (i := 6) nd rfl (by first | exact Or.inl rfl | exact Or.inr rfl) (dv 8))
    (dss_one (ds_if (dt_pw (dw_and (dt_cmp (os_lt hr.units0) (de_call C__law_sign (hr.mono (by decide)) rfl (da_cons (dv 5) (da_cons (dv 3) (da_nil)))) (de_int)) (dw_and1 (dt_cmp (os_lt hr.units0) (de_call C__law_sign (hr.mono (by decide)) rfl (da_cons (dv 3) (da_cons (dv 6) (da_nil)))) (de_int))))) (dss_one (ds_ret (dv 7))) (dss_nil)))))))))))
    (dss_one (ds_ret (de_non))))))))
theorem ok__law_line_votes {f : Addr} {fd : FuncData} (T : Txt P w K mg base cls) (F : FunD K "_law_line_votes" "_law_line_votes" (defArgs s__law_line_votes) (defBody s__law_line_votes) (defScope s__law_line_votes) [] [] f fd) (hm : mg "_law_line_votes" = some (.ref f)) (C__law_sign : Cal P w K mg base cls 1 "_law_sign" m__law_sign) (C__law_mirror : Cal P w K mg base cls 3 "_law_mirror" m__law_mirror) : Cal P w K mg base cls 4 "_law_line_votes" m__law_line_votes := ⟨f, fd, _, fc__law_line_votes T F C__law_sign C__law_mirror, hm⟩

theorem sc__law_far : FnScope ["council", "upper", "lower", "start", "goal", "steps", "due", "sign", "further"] ["council", "upper", "lower", "start", "goal", "steps"] (defScope s__law_far) := ⟨rfl, rfl, rfl, by decide +kernel, rfl, by decide +kernel, by decide +kernel⟩
theorem fc__law_far {f : Addr} {fd : FuncData} (T : Txt P w K mg base cls) (F : FunD K "_law_far" "_law_far" (defArgs s__law_far) (defBody s__law_far) (defScope s__law_far) [] [] f fd) (C__law_line_votes : Cal P w K mg base cls 4 "_law_line_votes" m__law_line_votes) (C__law_sign : Cal P w K mg base cls 1 "_law_sign" m__law_sign) (C__law_plus : Cal P w K mg base cls 3 "_law_plus" m__law_plus) (C_fewest_on_line : Cal P w K mg base cls 6 "fewest_on_line" m_fewest_on_line) : FnC P w K mg base cls 7 f fd ["council", "upper", "lower", "start", "goal", "steps"] m__law_far :=
  fnC_of F sc__law_far (fun _ _ _ _ _ _ us hl => match us, hl with | [_, _, _, _, _, _], _ => rfl) (by decide) (fun cdv A outer s H E H0 S0 hr => by
    have nd := sc__law_far.nd
    exact PSs.nox (dss_cons (ds_set (i := 6) nd rfl (by first | exact Or.inl rfl | exact Or.inr rfl) (de_call C__law_line_votes (hr.mono (by decide)) rfl (da_cons (dv 1) (da_cons (dv 2) (da_cons (dv 3) (da_cons (dv 4) (da_cons (de_int) (da_nil))))))))
    (dss_cons (ds_if (dt_pw (dw_or (dt_cmp os_le (dv 1) (dv 2)) (dw_or (dt_cmp os_is (dv 6) (de_non)) (dw_or1 (dt_cmp (os_lt hr.units0) (dv 6) (de_int)))))) (dss_one (ds_ret (de_bl))) (dss_nil))
    (dss_cons (ds_set (i := 7) nd rfl (by first | exact Or.inl rfl | exact Or.inr rfl) (de_call C__law_sign (hr.mono (by decide)) rfl (da_cons (dv 4) (da_cons (dv 3) (da_nil)))))
    (dss_cons (ds_set (i := 8) nd rfl (by first | exact Or.inl rfl | exact Or.inr rfl) (de_call C__law_plus (hr.mono (by decide)) rfl (da_cons (dv 4) (da_cons (de_tup (da_cons (de_op os_mul (de_op os_mul (de_op os_mul (dv 7) (de_int)) (dv 5)) (de_op os_sub (dv 1) (dv 2))) (da_cons (de_int) (da_nil)))) (da_nil)))))
    (dss_one (ds_ret (de_cmp (os_eq hr.units) (de_call C_fewest_on_line (hr.mono (by decide)) rfl (da_cons (dv 0) (da_cons (dv 3) (da_cons (dv 8) (da_nil))))) (de_op os_add (dv 6) (de_op os_mul (de_int) (dv 5)))))))))))
theorem ok__law_far {f : Addr} {fd : FuncData} (T : Txt P w K mg base cls) (F : FunD K "_law_far" "_law_far" (defArgs s__law_far) (defBody s__law_far) (defScope s__law_far) [] [] f fd) (hm : mg "_law_far" = some (.ref f)) (C__law_line_votes : Cal P w K mg base cls 4 "_law_line_votes" m__law_line_votes) (C__law_sign : Cal P w K mg base cls 1 "_law_sign" m__law_sign) (C__law_plus : Cal P w K mg base cls 3 "_law_plus" m__law_plus) (C_fewest_on_line : Cal P w K mg base cls 6 "fewest_on_line" m_fewest_on_line) : Cal P w K mg base cls 7 "_law_far" m__law_far := ⟨f, fd, _, fc__law_far T F C__law_line_votes C__law_sign C__law_plus C_fewest_on_line, hm⟩

theorem sc__law_whole : FnScope ["value"] ["value"] (defScope s__law_whole) := ⟨rfl, rfl, rfl, by decide +kernel, rfl, by decide +kernel, by decide +kernel⟩
theorem fc__law_whole {f : Addr} {fd : FuncData} (T : Txt P w K mg base cls) (F : FunD K "_law_whole" "_law_whole" (defArgs s__law_whole) (defBody s__law_whole) (defScope s__law_whole) [] [] f fd) : FnC P w K mg base cls 1 f fd ["value"] m__law_whole :=
  fnC_of F sc__law_whole (fun _ _ _ _ _ _ us hl => match us, hl with | [_], _ => rfl) (by decide) (fun cdv A outer s H E H0 S0 hr => by
    have nd := sc__law_whole.nd
    exact PSs.nox (dss_one (ds_ret (de_and (de_isT .int rfl T.f_isinstance rfl T.f_int (by decide +kernel) (dv 0)) (de_one (de_not (de_isT .bool rfl T.f_isinstance rfl T.f_bool (by decide +kernel) (dv 0))))))))
theorem ok__law_whole {f : Addr} {fd : FuncData} (T : Txt P w K mg base cls) (F : FunD K "_law_whole" "_law_whole" (defArgs s__law_whole) (defBody s__law_whole) (defScope s__law_whole) [] [] f fd) (hm : mg "_law_whole" = some (.ref f)) : Cal P w K mg base cls 1 "_law_whole" m__law_whole := ⟨f, fd, _, fc__law_whole T F, hm⟩

theorem sc__law_way : FnScope ["home", "place", "size", "steps", "k", "step"] ["home", "place"] (defScope s__law_way) := ⟨rfl, rfl, rfl, by decide +kernel, rfl, by decide +kernel, by decide +kernel⟩
theorem fc__law_way {f : Addr} {fd : FuncData} (T : Txt P w K mg base cls) (F : FunD K "_law_way" "_law_way" (defArgs s__law_way) (defBody s__law_way) (defScope s__law_way) [] [] f fd) : FnC P w K mg base cls 1 f fd ["home", "place"] m__law_way :=
  fnC_of F sc__law_way (fun _ _ _ _ _ _ us hl => match us, hl with | [_, _], _ => rfl) (by decide) (fun cdv A outer s H E H0 S0 hr => by
    have nd := sc__law_way.nd
    exact PSs.nox (dss_cons (ds_set (i := 2) nd rfl (by first | exact Or.inl rfl | exact Or.inr rfl) (de_fnB cs_len rfl T.f_len (by decide +kernel) (da_cons (dv 0) (da_nil))))
    (dss_cons (ds_setLc (i := 3) (own := [("k", 4)]) rfl nd rfl rfl (sw_true rfl rfl rfl (by decide +kernel)) (di_range1 rfl T.f_range (da_cons (dv 2) (da_nil))) (blkOk_by (N := ["home", "place", "size", "steps", "k", "step"]) (sc := defScope s__law_way) (by decide +kernel)) (fun _ _ _ _ _ => dg_name (i := 4) nd rfl (by first | exact Or.inl rfl | exact Or.inr rfl) (hv := (by decide))) (fun _ _ _ _ _ => dts_nil) (fun _ _ _ _ _ => de_op os_sub (de_op os_mul (de_ix xs_ix (dv 0) (dv 4)) (de_ix xs_ix (dv 1) (dv 2))) (de_ix xs_ix (dv 1) (dv 4))))
    (dss_one (ds_ret (de_fnB (cs_sum rfl) rfl T.f_sum (by decide +kernel) (da_cons (de_lc (own := [("step", 5)]) rfl nd (di_seq (dv 3)) (blkOk_by (N := ["home", "place", "size", "steps", "k", "step"]) (sc := defScope s__law_way) (by decide +kernel)) (fun _ _ _ _ _ => dg_name (i := 5) nd rfl (by first | exact Or.inl rfl | exact Or.inr rfl) (hv := (by decide))) (fun _ _ _ _ _ => dts_nil) (fun _ _ _ _ _ => de_op os_mul (dv 5) (dv 5))) (da_nil))))))))
theorem ok__law_way {f : Addr} {fd : FuncData} (T : Txt P w K mg base cls) (F : FunD K "_law_way" "_law_way" (defArgs s__law_way) (defBody s__law_way) (defScope s__law_way) [] [] f fd) (hm : mg "_law_way" = some (.ref f)) : Cal P w K mg base cls 1 "_law_way" m__law_way := ⟨f, fd, _, fc__law_way T F, hm⟩

theorem sc__law_nearer : FnScope ["home", "motion", "spot", "size", "near"] ["home", "motion", "spot"] (defScope s__law_nearer) := ⟨rfl, rfl, rfl, by decide +kernel, rfl, by decide +kernel, by decide +kernel⟩
theorem fc__law_nearer {f : Addr} {fd : FuncData} (T : Txt P w K mg base cls) (F : FunD K "_law_nearer" "_law_nearer" (defArgs s__law_nearer) (defBody s__law_nearer) (defScope s__law_nearer) [] [] f fd) (C__law_way : Cal P w K mg base cls 1 "_law_way" m__law_way) : FnC P w K mg base cls 2 f fd ["home", "motion", "spot"] m__law_nearer :=
  fnC_of F sc__law_nearer (fun _ _ _ _ _ _ us hl => match us, hl with | [_, _, _], _ => rfl) (by decide) (fun cdv A outer s H E H0 S0 hr => by
    have nd := sc__law_nearer.nd
    exact PSs.nox (dss_cons (ds_set (i := 3) nd rfl (by first | exact Or.inl rfl | exact Or.inr rfl) (de_fnB cs_len rfl T.f_len (by decide +kernel) (da_cons (dv 0) (da_nil))))
    (dss_cons (ds_set (i := 4) nd rfl (by first | exact Or.inl rfl | exact Or.inr rfl) (de_op os_mul (de_op os_mul (de_call C__law_way (hr.mono (by decide)) rfl (da_cons (dv 0) (da_cons (dv 1) (da_nil)))) (de_ix xs_ix (dv 2) (dv 3))) (de_ix xs_ix (dv 2) (dv 3))))
    (dss_one (ds_ret (de_cmp (os_lt hr.units0) (dv 4) (de_op os_mul (de_op os_mul (de_call C__law_way (hr.mono (by decide)) rfl (da_cons (dv 0) (da_cons (dv 2) (da_nil)))) (de_ix xs_ix (dv 1) (dv 3))) (de_ix xs_ix (dv 1) (dv 3)))))))))
theorem ok__law_nearer {f : Addr} {fd : FuncData} (T : Txt P w K mg base cls) (F : FunD K "_law_nearer" "_law_nearer" (defArgs s__law_nearer) (defBody s__law_nearer) (defScope s__law_nearer) [] [] f fd) (hm : mg "_law_nearer" = some (.ref f)) (C__law_way : Cal P w K mg base cls 1 "_law_way" m__law_way) : Cal P w K mg base cls 2 "_law_nearer" m__law_nearer := ⟨f, fd, _, fc__law_nearer T F C__law_way, hm⟩

theorem sc__law_lot : FnScope ["homes", "motion", "spot", "k"] ["homes", "motion", "spot"] (defScope s__law_lot) := ⟨rfl, rfl, rfl, by decide +kernel, rfl, by decide +kernel, by decide +kernel⟩
theorem fc__law_lot {f : Addr} {fd : FuncData} (T : Txt P w K mg base cls) (F : FunD K "_law_lot" "_law_lot" (defArgs s__law_lot) (defBody s__law_lot) (defScope s__law_lot) [] [] f fd) (C__law_nearer : Cal P w K mg base cls 2 "_law_nearer" m__law_nearer) : FnC P w K mg base cls 3 f fd ["homes", "motion", "spot"] m__law_lot :=
  fnC_of F sc__law_lot (fun _ _ _ _ _ _ us hl => match us, hl with | [_, _, _], _ => rfl) (by decide) (fun cdv A outer s H E H0 S0 hr => by
    have nd := sc__law_lot.nd
    exact PSs.nox (dss_one (ds_ret (de_fnT cs_tup rfl T.f_tuple (by decide +kernel) (da_cons (de_lc (own := [("k", 3)]) rfl nd (di_range1 rfl T.f_range (da_cons (de_fnB cs_len rfl T.f_len (by decide +kernel) (da_cons (dv 0) (da_nil))) (da_nil))) (blkOk_by (N := ["homes", "motion", "spot", "k"]) (sc := defScope s__law_lot) (by decide +kernel)) (fun _ _ _ _ _ => dg_name (i := 3) nd rfl (by first | exact Or.inl rfl | exact Or.inr rfl) (hv := (by decide))) (fun _ _ _ _ _ => pts_one (dt_val (de_call C__law_nearer (hr.mono (by decide)) rfl (da_cons (de_ix xs_ix (dv 0) (dv 3)) (da_cons (dv 1) (da_cons (dv 2) (da_nil))))))) (fun _ _ _ _ _ => dv 3)) (da_nil))))))
theorem ok__law_lot {f : Addr} {fd : FuncData} (T : Txt P w K mg base cls) (F : FunD K "_law_lot" "_law_lot" (defArgs s__law_lot) (defBody s__law_lot) (defScope s__law_lot) [] [] f fd) (hm : mg "_law_lot" = some (.ref f)) (C__law_nearer : Cal P w K mg base cls 2 "_law_nearer" m__law_nearer) : Cal P w K mg base cls 3 "_law_lot" m__law_lot := ⟨f, fd, _, fc__law_lot T F C__law_nearer, hm⟩

theorem sc__law_asked : FnScope ["council", "homes", "table", "upper", "lower", "start", "goal", "given", "due"] ["council", "homes", "table", "upper", "lower", "start", "goal"] (defScope s__law_asked) := ⟨rfl, rfl, rfl, by decide +kernel, rfl, by decide +kernel, by decide +kernel⟩
theorem fc__law_asked {f : Addr} {fd : FuncData} (T : Txt P w K mg base cls) (F : FunD K "_law_asked" "_law_asked" (defArgs s__law_asked) (defBody s__law_asked) (defScope s__law_asked) [] [] f fd) (C_fewest_on_line : Cal P w K mg base cls 6 "fewest_on_line" m_fewest_on_line) (C__law_line_votes : Cal P w K mg base cls 4 "_law_line_votes" m__law_line_votes) (C__law_whole : Cal P w K mg base cls 1 "_law_whole" m__law_whole) (C__law_lot : Cal P w K mg base cls 3 "_law_lot" m__law_lot) (C__law_number : Cal P w K mg base cls 1 "_law_number" m__law_number) : FnC P w K mg base cls 7 f fd ["council", "homes", "table", "upper", "lower", "start", "goal"] m__law_asked :=
  fnC_of F sc__law_asked (fun _ _ _ _ _ _ us hl => match us, hl with | [_, _, _, _, _, _, _], _ => rfl) (by decide) (fun cdv A outer s H E H0 S0 hr => by
    have nd := sc__law_asked.nd
    exact PSs.nox (dss_cons (ds_set (i := 7) nd rfl (by first | exact Or.inl rfl | exact Or.inr rfl) (de_call C_fewest_on_line (hr.mono (by decide)) rfl (da_cons (dv 0) (da_cons (dv 5) (da_cons (dv 6) (da_nil))))))
    (dss_cons (ds_set (i := 8) nd rfl (by first | exact Or.inl rfl | exact Or.inr rfl) (de_call C__law_line_votes (hr.mono (by decide)) rfl (da_cons (dv 3) (da_cons (dv 4) (da_cons (dv 5) (da_cons (dv 6) (da_cons (de_int) (da_nil))))))))
    (dss_cons (ds_if (dt_pw (dw_or (dt_cmp (os_ne hr.units) (dv 7) (dv 8)) (dw_or1 (dt_pw (dw_and (dt_cmp os_isnot (dv 8) (de_non)) (dw_and1 (dt_not (dt_val (de_call C__law_whole (hr.mono (by decide)) rfl (da_cons (dv 7) (da_nil))))))))))) (dss_one (ds_ret (de_bl))) (dss_nil))
    (dss_cons (ds_if (dt_pw (dw_and (dt_cmp (os_ne hr.units) (dv 5) (dv 6)) (dw_and1 (dt_cmp (os_ne hr.units) (de_cmp (os_eq hr.units) (dv 8) (de_int)) (de_ix xs_ix (dv 2) (de_call C__law_number (hr.mono (by decide)) rfl (da_cons (de_call C__law_lot (hr.mono (by decide)) rfl (da_cons (dv 1) (da_cons (dv 6) (da_cons (dv 5) (da_nil))))) (da_nil)))))))) (dss_one (ds_ret (de_bl))) (dss_nil))
    (dss_one (ds_ret (de_or (de_cmp os_gt (dv 3) (dv 4)) (de_or (de_cmp os_is (dv 8) (de_non)) (de_one (de_cmp (os_lt hr.units0) (dv 8) (de_int))))))))))))
theorem ok__law_asked {f : Addr} {fd : FuncData} (T : Txt P w K mg base cls) (F : FunD K "_law_asked" "_law_asked" (defArgs s__law_asked) (defBody s__law_asked) (defScope s__law_asked) [] [] f fd) (hm : mg "_law_asked" = some (.ref f)) (C_fewest_on_line : Cal P w K mg base cls 6 "fewest_on_line" m_fewest_on_line) (C__law_line_votes : Cal P w K mg base cls 4 "_law_line_votes" m__law_line_votes) (C__law_whole : Cal P w K mg base cls 1 "_law_whole" m__law_whole) (C__law_lot : Cal P w K mg base cls 3 "_law_lot" m__law_lot) (C__law_number : Cal P w K mg base cls 1 "_law_number" m__law_number) : Cal P w K mg base cls 7 "_law_asked" m__law_asked := ⟨f, fd, _, fc__law_asked T F C_fewest_on_line C__law_line_votes C__law_whole C__law_lot C__law_number, hm⟩

theorem sc__law_world : FnScope ["script", "at", "homes", "words", "table", "council", "upper", "lower", "row", "places", "k", "steps", "plane", "other", "out", "home"] ["script", "at"] (defScope s__law_world) := ⟨rfl, rfl, rfl, by decide +kernel, rfl, by decide +kernel, by decide +kernel⟩
theorem fc__law_world {f : Addr} {fd : FuncData} (T : Txt P w K mg base cls) (F : FunD K "_law_world" "_law_world" (defArgs s__law_world) (defBody s__law_world) (defScope s__law_world) [] [] f fd) (C__law_line_council : Cal P w K mg base cls 6 "_law_line_council" m__law_line_council) (C__law_rule : Cal P w K mg base cls 11 "_law_rule" m__law_rule) (I_Council : CalI P w K mg base cls 2 "Council" 41 i_Council) (C__law_value : Cal P w K mg base cls 2 "_law_value" m__law_value) (C__law_cell : Cal P w K mg base cls 1 "_law_cell" m__law_cell) (C__law_digits : Cal P w K mg base cls 1 "_law_digits" m__law_digits) (C__law_motion : Cal P w K mg base cls 3 "_law_motion" m__law_motion) (C__law_asked : Cal P w K mg base cls 7 "_law_asked" m__law_asked) (C__law_far : Cal P w K mg base cls 7 "_law_far" m__law_far) (C__law_plus : Cal P w K mg base cls 3 "_law_plus" m__law_plus) (C__law_wrong : Cal P w K mg base cls 7 "_law_wrong" m__law_wrong) : FnC P w K mg base cls 12 f fd ["script", "at"] m__law_world :=
  fnC_of F sc__law_world (fun _ _ _ _ _ _ us hl => match us, hl with | [_, _], _ => rfl) (by decide) (fun cdv A outer s H E H0 S0 hr => by
    have nd := sc__law_world.nd
    exact PSs.nox (dss_cons (ds_asg (vs := [2, 3, 4]) (de_call C__law_line_council (hr.mono (by decide)) rfl (da_cons (dv 0) (da_cons (dv 1) (da_nil)))) (dg_lst rfl (dgs_cons (dg_name (i := 2) nd rfl (by first | exact Or.inl rfl | exact Or.inr rfl) (hv := (by decide))) (dgs_cons (dg_name (i := 3) nd rfl (by first | exact Or.inl rfl | exact Or.inr rfl) (hv := (by decide))) (dgs_cons (dg_name (i := 4) nd rfl (by first | exact Or.inl rfl | exact Or.inr rfl) (hv := (by decide))) (dgs_nil))))))
    (dss_cons (ds_set (i := 5) nd rfl (by first | exact Or.inl rfl | exact Or.inr rfl) (de_make I_Council (hr.mono (by decide)) rfl (da_cons (dv 2) (da_cons (de_call C__law_rule (hr.mono (by decide)) rfl (da_cons (dv 3) (da_cons (de_fnB cs_len rfl T.f_len (by decide +kernel) (da_cons (dv 2) (da_nil))) (da_nil)))) (da_nil)))))
    (dss_cons (ds_set (i := 6) nd rfl (by first | exact Or.inl rfl | exact Or.inr rfl) (de_call C__law_value (hr.mono (by decide)) rfl (da_cons (dv 2) (da_cons (dv 4) (da_cons (de_tup (da_cons (de_int) (da_nil))) (da_nil))))))
    (dss_cons (ds_set (i := 7) nd rfl (by first | exact Or.inl rfl | exact Or.inr rfl) (de_un os_neg (de_call C__law_value (hr.mono (by decide)) rfl (da_cons (dv 2) (da_cons (dv 4) (da_cons (de_tup (da_cons (de_un os_neg (de_int)) (da_nil))) (da_nil)))))))
    (dss_cons (ds_set (i := 8) nd rfl (by first | exact Or.inl rfl | exact Or.inr rfl) (de_call C__law_digits (hr.mono (by decide)) rfl (da_cons (de_call C__law_cell (hr.mono (by decide)) rfl (da_cons (dv 0) (da_cons (de_op os_add (dv 1) (de_int)) (da_nil)))) (da_cons (de_lst (da_cons (de_int) (da_cons (de_int) (da_cons (de_op os_pow (de_int) (de_int)) (da_cons (de_op os_pow (de_int) (de_int)) (da_cons (de_op os_pow (de_int) (de_int)) (da_nil))))))) (da_nil)))))
    (dss_cons (ds_setLc (i := 9) (own := [("k", 10)]) rfl nd rfl rfl (sw_true rfl rfl rfl (by decide +kernel)) (di_range1 rfl T.f_range (da_cons (de_int) (da_nil))) (blkOk_by (N := ["script", "at", "homes", "words", "table", "council", "upper", "lower", "row", "places", "k", "steps", "plane", "other", "out", "home"]) (sc := defScope s__law_world) (by decide +kernel)) (fun _ _ _ _ _ => dg_name (i := 10) nd rfl (by first | exact Or.inl rfl | exact Or.inr rfl) (hv := (by decide))) (fun _ _ _ _ _ => dts_nil) (fun _ _ _ _ _ => de_call C__law_motion (hr.mono (by decide)) rfl (da_cons (de_call C__law_digits (hr.mono (by decide)) rfl (da_cons (de_call C__law_cell (hr.mono (by decide)) rfl (da_cons (dv 0) (da_cons (de_op os_add (de_op os_add (dv 1) (de_int)) (dv 10)) (da_nil)))) (da_cons (de_lst (da_cons (de_int) (da_cons (de_int) (da_nil)))) (da_nil)))) (da_cons (de_int) (da_cons (de_int) (da_nil))))))
    (dss_cons (ds_set (i := 9) nd rfl (by first | exact Or.inl rfl | exact Or.inr rfl) (de_op os_add (dv 9) (de_lst (da_cons (de_op os_add (de_ix xs_ix (dv 2) (de_op os_mod (de_fnT cs_int rfl T.f_int (by decide +kernel) (da_cons (de_ix xs_ix (dv 8) (de_int)) (da_nil))) (de_fnB cs_len rfl T.f_len (by decide +kernel) (da_cons (dv 2) (da_nil))))) (de_tup (da_cons (de_int) (da_nil)))) (da_cons (de_tup (da_cons (dv 6) (da_cons (de_int) (da_nil)))) (da_cons (de_tup (da_cons (dv 7) (da_cons (de_int) (da_nil)))) (da_nil)))))))
    (dss_cons (ds_for (vs := [10]) PassesOwn.never rfl (di_range1 rfl T.f_range (da_cons (de_int) (da_nil))) (dg_name (i := 10) nd rfl (by first | exact Or.inl rfl | exact Or.inr rfl) (hv := (by decide))) (dss_one (ds_for (vs := [13]) PassesOwn.never rfl (di_seq (de_lst (da_cons (de_ix xs_ix (dv 9) (de_op os_mod (de_fnT cs_int rfl T.f_int (by decide +kernel) (da_cons (de_op os_add (dv 10) (de_int)) (da_nil))) (de_int))) (da_cons (de_ix xs_ix (dv 9) (de_op os_mod (de_fnT cs_int rfl T.f_int (by decide +kernel) (da_cons (de_op os_add (dv 10) (de_int)) (da_nil))) (de_int))) (da_cons (de_ix xs_ix (dv 9) (dv 10)) (da_nil)))))) (dg_name (i := 13) nd rfl (by first | exact Or.inl rfl | exact Or.inr rfl) (hv := (by decide))) (dss_one (ds_if (dt_not (dt_val (de_call C__law_asked (hr.mono (by decide)) rfl (da_cons (dv 5) (da_cons (dv 2) (da_cons (dv 4) (da_cons (dv 6) (da_cons (dv 7) (da_cons (de_ix xs_ix (dv 9) (dv 10)) (da_cons (dv 13) (da_nil))))))))))) (dss_one (ds_ret (de_bl))) (dss_nil))))))
    (dss_cons (ds_set (i := 11) nd rfl (by first | exact Or.inl rfl | exact Or.inr rfl) (de_op os_add (de_op os_add (de_op os_mul (de_fnT cs_int rfl T.f_int (by decide +kernel) (da_cons (de_ix xs_ix (dv 8) (de_int)) (da_nil))) (de_op os_pow (de_int) (de_int))) (de_op os_mul (de_fnT cs_int rfl T.f_int (by decide +kernel) (da_cons (de_ix xs_ix (dv 8) (de_int)) (da_nil))) (de_op os_pow (de_int) (de_int)))) (de_fnT cs_int rfl T.f_int (by decide +kernel) (da_cons (de_ix xs_ix (dv 8) (de_int)) (da_nil)))))
    (dss_cons (ds_for (vs := [10]) PassesOwn.never rfl (di_range1 rfl T.f_range (da_cons (de_int) (da_nil))) (dg_name (i := 10) nd rfl (by first | exact Or.inl rfl | exact Or.inr rfl) (hv := (by decide))) (dss_cons (ds_if (dt_not (dt_val (de_call C__law_far (hr.mono (by decide)) rfl (da_cons (dv 5) (da_cons (dv 6) (da_cons (dv 7) (da_cons (de_ix xs_ix (dv 9) (dv 10)) (da_cons (de_ix xs_ix (dv 9) (de_op os_add (dv 10) (de_int))) (da_cons (de_op os_add (de_int) (de_fnT cs_int rfl T.f_int (by decide +kernel) (da_cons (de_ix xs_ix (dv 8) (de_int)) (da_nil)))) (da_nil)))))))))) (dss_one (ds_ret (de_bl))) (dss_nil))
    (dss_cons (ds_if (dt_not (dt_val (de_call C__law_far (hr.mono (by decide)) rfl (da_cons (dv 5) (da_cons (dv 6) (da_cons (dv 7) (da_cons (de_ix xs_ix (dv 9) (dv 10)) (da_cons (de_ix xs_ix (dv 9) (de_op os_add (dv 10) (de_int))) (da_cons (dv 11) (da_nil)))))))))) (dss_one (ds_ret (de_bl))) (dss_nil))
    (dss_cons (ds_set (i := 14) nd rfl (by first | exact Or.inl rfl | exact Or.inr rfl) (de_call C__law_plus (hr.mono (by decide)) rfl (da_cons (de_ix xs_ix (dv 9) (dv 10)) (da_cons (de_tup (da_cons (de_op os_mul (de_op os_add (de_int) (de_fnT cs_int rfl T.f_int (by decide +kernel) (da_cons (de_ix xs_ix (dv 8) (de_int)) (da_nil)))) (de_ix xs_ix (de_lst (da_cons (de_int) (da_cons (de_un os_neg (de_int)) (da_nil)))) (de_op os_mod (de_fnT cs_int rfl T.f_int (by decide +kernel) (da_cons (dv 10) (da_nil))) (de_int)))) (da_cons (de_int) (da_nil)))) (da_nil)))))
    (dss_one (ds_if (dt_not (dt_val (de_call C__law_asked (hr.mono (by decide)) rfl (da_cons (dv 5) (da_cons (dv 2) (da_cons (dv 4) (da_cons (dv 6) (da_cons (dv 7) (da_cons (de_ix xs_ix (dv 9) (dv 10)) (da_cons (dv 14) (da_nil))))))))))) (dss_one (ds_ret (de_bl))) (dss_nil)))))))
    (dss_cons (ds_set (i := 12) nd rfl (by first | exact Or.inl rfl | exact Or.inr rfl) (de_make I_Council (hr.mono (by decide)) rfl (da_cons (de_fnT cs_tup rfl T.f_tuple (by decide +kernel) (da_cons (de_lc (own := [("home", 15)]) rfl nd (di_seq (dv 2)) (blkOk_by (N := ["script", "at", "homes", "words", "table", "council", "upper", "lower", "row", "places", "k", "steps", "plane", "other", "out", "home"]) (sc := defScope s__law_world) (by decide +kernel)) (fun _ _ _ _ _ => dg_name (i := 15) nd rfl (by first | exact Or.inl rfl | exact Or.inr rfl) (hv := (by decide))) (fun _ _ _ _ _ => dts_nil) (fun _ _ _ _ _ => de_op os_add (dv 15) (de_tup (da_cons (de_int) (da_nil))))) (da_nil))) (da_cons (de_fld T.fl_rule (dv 5)) (da_nil)))))
    (dss_one (ds_ret (de_call C__law_wrong (hr.mono (by decide)) rfl (da_cons (dv 12) (da_cons (de_tup (da_cons (de_int) (da_cons (de_int) (da_cons (de_int) (da_nil))))) (da_nil))))))))))))))))))
theorem ok__law_world {f : Addr} {fd : FuncData} (T : Txt P w K mg base cls) (F : FunD K "_law_world" "_law_world" (defArgs s__law_world) (defBody s__law_world) (defScope s__law_world) [] [] f fd) (hm : mg "_law_world" = some (.ref f)) (C__law_line_council : Cal P w K mg base cls 6 "_law_line_council" m__law_line_council) (C__law_rule : Cal P w K mg base cls 11 "_law_rule" m__law_rule) (I_Council : CalI P w K mg base cls 2 "Council" 41 i_Council) (C__law_value : Cal P w K mg base cls 2 "_law_value" m__law_value) (C__law_cell : Cal P w K mg base cls 1 "_law_cell" m__law_cell) (C__law_digits : Cal P w K mg base cls 1 "_law_digits" m__law_digits) (C__law_motion : Cal P w K mg base cls 3 "_law_motion" m__law_motion) (C__law_asked : Cal P w K mg base cls 7 "_law_asked" m__law_asked) (C__law_far : Cal P w K mg base cls 7 "_law_far" m__law_far) (C__law_plus : Cal P w K mg base cls 3 "_law_plus" m__law_plus) (C__law_wrong : Cal P w K mg base cls 7 "_law_wrong" m__law_wrong) : Cal P w K mg base cls 12 "_law_world" m__law_world := ⟨f, fd, _, fc__law_world T F C__law_line_council C__law_rule I_Council C__law_value C__law_cell C__law_digits C__law_motion C__law_asked C__law_far C__law_plus C__law_wrong, hm⟩

theorem sc_law : FnScope ["script"] ["script"] (defScope s_law) := ⟨rfl, rfl, rfl, by decide +kernel, rfl, by decide +kernel, by decide +kernel⟩
theorem fc_law {f : Addr} {fd : FuncData} (T : Txt P w K mg base cls) (F : FunD K "law" "law" (defArgs s_law) (defBody s_law) (defScope s_law) [] [] f fd) (C__law_world : Cal P w K mg base cls 12 "_law_world" m__law_world) : FnC P w K mg base cls 13 f fd ["script"] m_law :=
  fnC_of F sc_law (fun _ _ _ _ _ _ us hl => match us, hl with | [_], _ => rfl) (by decide) (fun cdv A outer s H E H0 S0 hr => by
    have nd := sc_law.nd
    exact PSs.nox (dss_one (ds_ret (de_and (de_call C__law_world (hr.mono (by decide)) rfl (da_cons (dv 0) (da_cons (de_int) (da_nil)))) (de_one (de_call C__law_world (hr.mono (by decide)) rfl (da_cons (dv 0) (da_cons (de_int) (da_nil)))))))))
theorem ok_law {f : Addr} {fd : FuncData} (T : Txt P w K mg base cls) (F : FunD K "law" "law" (defArgs s_law) (defBody s_law) (defScope s_law) [] [] f fd) (hm : mg "law" = some (.ref f)) (C__law_world : Cal P w K mg base cls 12 "_law_world" m__law_world) : Cal P w K mg base cls 13 "law" m_law := ⟨f, fd, _, fc_law T F C__law_world, hm⟩

end
end L2.DL.MM
namespace L2.DL.MM
open PySem PyProof.Rows PySem.Spec
open He (ga ma fAd)
theorem sci_WrongDimension : FnScope ["self", "dimension"] ["self", "dimension"] (defScope si_WrongDimension) := ⟨rfl, rfl, rfl, by decide +kernel, rfl, by decide +kernel, by decide +kernel⟩
theorem e_WrongDimension_of {P : Program} {w : World} {K : PySem.W.Frag} {mg : Str → Option Value} {base : Heap} {C fI : Addr} {fd : FuncData} (gC : mg "WrongDimension" = some (.ref C)) (T : OexC K C) (m : Meth K C "__init__" fI) (ty : PySem.W.typeIn K (.ref fI) = some (.type "function")) (F : FunD K "__init__" "WrongDimension.__init__" (defArgs si_WrongDimension) (defBody si_WrongDimension) (defScope si_WrongDimension) [] [] fI fd) (n1 : PySem.W.findIn K (.ref C) "dimension" = some none) : ExF P w K mg base C "WrongDimension" ["dimension"] :=
  ⟨gC, T, fI, fd, ["self", "dimension"], m.at_, ty, exinit1 F sci_WrongDimension T n1 (fun cdv A outer s H E => pss_one (ps_ost (pv 0) (pv 1))), F.bindsN fun _ _ _ _ _ _ us hl => match us, hl with | [_, _], _ => rfl, by decide, by decide⟩
theorem txtOf {P : Program} {w : World} {K : PySem.W.Frag} {h : Heap} {mg : Str → Option Value} {base : Heap} (X : K.In h) (G : h.Ns mainGlobals mg) (c : SaysZ fa fn ex K) : Txt P w K mg base (cl K) := by
  have E0 : ex K = true := c.2
  unfold ex at E0
  obtain ⟨EX0, E1⟩ := He.ba E0
  obtain ⟨EX1, E2⟩ := He.ba E1
  obtain ⟨EX2, E3⟩ := He.ba E2
  obtain ⟨EX3, E4⟩ := He.ba E3
  obtain ⟨EX4, E5⟩ := He.ba E4
  obtain ⟨EX5, E6⟩ := He.ba E5
  obtain ⟨EX6, E7⟩ := He.ba E6
  obtain ⟨EX7, E8⟩ := He.ba E7
  obtain ⟨EX8, E9⟩ := He.ba E8
  have EX9 := E9
  obtain ⟨fd_WrongDimension, FI_WrongDimension⟩ := c.1.def_ 0 (d := di_WrongDimension) rfl
  exact {
    f_len := He.free_ok X G (c.1.fact 0 (f := .free "len") rfl)
    f_range := He.free_ok X G (c.1.fact 1 (f := .free "range") rfl)
    f_int := He.free_ok X G (c.1.fact 2 (f := .free "int") rfl)
    f_tuple := He.free_ok X G (c.1.fact 3 (f := .free "tuple") rfl)
    f_sum := He.free_ok X G (c.1.fact 4 (f := .free "sum") rfl)
    f_max := He.free_ok X G (c.1.fact 5 (f := .free "max") rfl)
    f_any := He.free_ok X G (c.1.fact 6 (f := .free "any") rfl)
    f_list := He.free_ok X G (c.1.fact 7 (f := .free "list") rfl)
    f_sorted := He.free_ok X G (c.1.fact 8 (f := .free "sorted") rfl)
    f_min := He.free_ok X G (c.1.fact 9 (f := .free "min") rfl)
    f_isinstance := He.free_ok X G (c.1.fact 10 (f := .free "isinstance") rfl)
    f_abs := He.free_ok X G (c.1.fact 11 (f := .free "abs") rfl)
    f_bool := He.free_ok X G (c.1.fact 12 (f := .free "bool") rfl)
    g_LIMIT := He.int_ok X G (c.1.fact 13 (f := .int "LIMIT" 60) rfl)
    g_gcd := PySem.W.mg_of X G (of_decide_eq_true EX0)
    fl_many := (by
    intro c f hh
    unfold tb_many at hh
    simp only [List.mem_cons, List.not_mem_nil, or_false, Prod.mk.injEq] at hh
    rcases hh with ⟨rfl, rfl⟩ | ⟨rfl, rfl⟩
    · exact ⟨He.cls_ok (c.1.fact 14 (f := .cls "Council") rfl), He.noat_ok (c.1.fact 15 (f := .noat "Council" "many") rfl)⟩
    · exact ⟨He.cls_ok (c.1.fact 16 (f := .cls "Rule") rfl), He.noat_ok (c.1.fact 17 (f := .noat "Rule" "many") rfl)⟩)
    fl_homes := (by
    intro c f hh
    unfold tb_homes at hh
    simp only [List.mem_cons, List.not_mem_nil, or_false, Prod.mk.injEq] at hh
    rcases hh with ⟨rfl, rfl⟩
    · exact ⟨He.cls_ok (c.1.fact 14 (f := .cls "Council") rfl), He.noat_ok (c.1.fact 18 (f := .noat "Council" "homes") rfl)⟩)
    fl_rule := (by
    intro c f hh
    unfold tb_rule at hh
    simp only [List.mem_cons, List.not_mem_nil, or_false, Prod.mk.injEq] at hh
    rcases hh with ⟨rfl, rfl⟩
    · exact ⟨He.cls_ok (c.1.fact 14 (f := .cls "Council") rfl), He.noat_ok (c.1.fact 19 (f := .noat "Council" "rule") rfl)⟩)
    fl_dimension := (by
    intro c f hh
    unfold tb_dimension at hh
    simp only [List.mem_cons, List.not_mem_nil, or_false, Prod.mk.injEq] at hh
    rcases hh with ⟨rfl, rfl⟩
    · exact ⟨He.cls_ok (c.1.fact 14 (f := .cls "Council") rfl), He.noat_ok (c.1.fact 20 (f := .noat "Council" "dimension") rfl)⟩)
    fl_book := (by
    intro c f hh
    unfold tb_book at hh
    simp only [List.mem_cons, List.not_mem_nil, or_false, Prod.mk.injEq] at hh
    rcases hh with ⟨rfl, rfl⟩
    · exact ⟨He.cls_ok (c.1.fact 16 (f := .cls "Rule") rfl), He.noat_ok (c.1.fact 21 (f := .noat "Rule" "book") rfl)⟩)
    fl_least := (by
    intro c f hh
    unfold tb_least at hh
    simp only [List.mem_cons, List.not_mem_nil, or_false, Prod.mk.injEq] at hh
    rcases hh with ⟨rfl, rfl⟩
    · exact ⟨He.cls_ok (c.1.fact 16 (f := .cls "Rule") rfl), He.noat_ok (c.1.fact 22 (f := .noat "Rule" "least") rfl)⟩)
    g_CalmError := He.glo_ok X G (c.1.fact 23 (f := .glo "CalmError") rfl)
    g_WrongDimension := He.glo_ok X G (c.1.fact 24 (f := .glo "WrongDimension") rfl)
    e_WrongDimension := e_WrongDimension_of (He.glo_ok X G (c.1.fact 24 (f := .glo "WrongDimension") rfl)) (oexB_ok EX1) (He.meth_ok (c.1.fact 25 (f := .meth "WrongDimension" "__init__") rfl)) (of_decide_eq_true EX2) FI_WrongDimension (of_decide_eq_true EX3)
    cm_CalmError := (fun c b h => by
    unfold MM.cm_CalmError at h
    split at h
    · rename_i e
      subst e
      cases h
      exact He.exm_ok (c.1.fact 26 (f := .exm "WrongDimension" "CalmError" true) rfl)
    cases h)
    xf_dimension := (by
    intro c hc
    unfold MM.xf_dimension at hc
    simp only [List.mem_cons, List.not_mem_nil, or_false] at hc
    rcases hc with rfl
    · exact ⟨xfB_ok EX4, of_decide_eq_true EX3⟩)
    is_WrongDimension := (fun c b h => by
    unfold MM.is_WrongDimension at h
    split at h
    · rename_i e
      subst e
      cases h
      exact ⟨excB_ok EX5, of_decide_eq_true EX6⟩
    cases h) }
theorem cal {P : Program} {w : World} {K : PySem.W.Frag} {h : Heap} {mg : Str → Option Value} (X : K.In h) (G : h.Ns mainGlobals mg) (c : SaysZ fa fn ex K) : ∃ fd : FuncData, (∀ (s : Shared) (v : Value), BindsTo s fd ⟨[v], []⟩ [("script", v)]) ∧ ∀ base : Heap, FnOk P w K mg base (L2.CX P w) 13 (ga K "law") fd ["script"] (spD K (cl K) m_law) := by
  have E0 : ex K = true := c.2
  unfold ex at E0
  obtain ⟨EX0, E1⟩ := He.ba E0
  obtain ⟨EX1, E2⟩ := He.ba E1
  obtain ⟨EX2, E3⟩ := He.ba E2
  obtain ⟨EX3, E4⟩ := He.ba E3
  obtain ⟨EX4, E5⟩ := He.ba E4
  obtain ⟨EX5, E6⟩ := He.ba E5
  obtain ⟨EX6, E7⟩ := He.ba E6
  obtain ⟨EX7, E8⟩ := He.ba E7
  obtain ⟨EX8, E9⟩ := He.ba E8
  have EX9 := E9
  obtain ⟨fd_is_home, F_is_home⟩ := c.1.def_ 1 (d := dd_is_home) rfl
  obtain ⟨fd_Council___init__, F_Council___init__⟩ := c.1.def_ 2 (d := dd_Council___init__) rfl
  obtain ⟨fd__law_digits, F__law_digits⟩ := c.1.def_ 3 (d := dd__law_digits) rfl
  obtain ⟨fd__law_voters, F__law_voters⟩ := c.1.def_ 4 (d := dd__law_voters) rfl
  obtain ⟨fd__law_words, F__law_words⟩ := c.1.def_ 5 (d := dd__law_words) rfl
  obtain ⟨fd__law_homes, F__law_homes⟩ := c.1.def_ 6 (d := dd__law_homes) rfl
  obtain ⟨fd__law_cell, F__law_cell⟩ := c.1.def_ 7 (d := dd__law_cell) rfl
  obtain ⟨fd__law_number, F__law_number⟩ := c.1.def_ 8 (d := dd__law_number) rfl
  obtain ⟨fd__law_table, F__law_table⟩ := c.1.def_ 9 (d := dd__law_table) rfl
  obtain ⟨fd__law_line_council, F__law_line_council⟩ := c.1.def_ 10 (d := dd__law_line_council) rfl
  obtain ⟨fd__law_dot, F__law_dot⟩ := c.1.def_ 11 (d := dd__law_dot) rfl
  obtain ⟨fd__law_value, F__law_value⟩ := c.1.def_ 12 (d := dd__law_value) rfl
  obtain ⟨fd_dot, F_dot⟩ := c.1.def_ 13 (d := dd_dot) rfl
  obtain ⟨fd_ranked, F_ranked⟩ := c.1.def_ 14 (d := dd_ranked) rfl
  obtain ⟨fd_word, F_word⟩ := c.1.def_ 15 (d := dd_word) rfl
  obtain ⟨fd_ends_of, F_ends_of⟩ := c.1.def_ 16 (d := dd_ends_of) rfl
  obtain ⟨fd_compare, F_compare⟩ := c.1.def_ 17 (d := dd_compare) rfl
  obtain ⟨fd_ratio, F_ratio⟩ := c.1.def_ 18 (d := dd_ratio) rfl
  obtain ⟨fd_minus, F_minus⟩ := c.1.def_ 19 (d := dd_minus) rfl
  obtain ⟨fd_mirrored, F_mirrored⟩ := c.1.def_ 20 (d := dd_mirrored) rfl
  obtain ⟨fd_floor_of, F_floor_of⟩ := c.1.def_ 21 (d := dd_floor_of) rfl
  obtain ⟨fd_over, F_over⟩ := c.1.def_ 22 (d := dd_over) rfl
  obtain ⟨fd_rounds_to, F_rounds_to⟩ := c.1.def_ 23 (d := dd_rounds_to) rfl
  obtain ⟨fd_fewest_rising, F_fewest_rising⟩ := c.1.def_ 24 (d := dd_fewest_rising) rfl
  obtain ⟨fd_flipped, F_flipped⟩ := c.1.def_ 25 (d := dd_flipped) rfl
  obtain ⟨fd_fewest_between, F_fewest_between⟩ := c.1.def_ 26 (d := dd_fewest_between) rfl
  obtain ⟨fd_fewest_on_line, F_fewest_on_line⟩ := c.1.def_ 27 (d := dd_fewest_on_line) rfl
  obtain ⟨fd__law_wrong, F__law_wrong⟩ := c.1.def_ 28 (d := dd__law_wrong) rfl
  obtain ⟨fd_smaller_wins, F_smaller_wins⟩ := c.1.def_ 29 (d := dd_smaller_wins) rfl
  obtain ⟨fd_winning_book, F_winning_book⟩ := c.1.def_ 30 (d := dd_winning_book) rfl
  obtain ⟨fd_lot_order, F_lot_order⟩ := c.1.def_ 31 (d := dd_lot_order) rfl
  obtain ⟨fd_lot_of, F_lot_of⟩ := c.1.def_ 32 (d := dd_lot_of) rfl
  obtain ⟨fd_least_lots, F_least_lots⟩ := c.1.def_ 33 (d := dd_least_lots) rfl
  obtain ⟨fd_lot_number, F_lot_number⟩ := c.1.def_ 34 (d := dd_lot_number) rfl
  obtain ⟨fd_is_lot, F_is_lot⟩ := c.1.def_ 35 (d := dd_is_lot) rfl
  obtain ⟨fd_Rule___init__, F_Rule___init__⟩ := c.1.def_ 36 (d := dd_Rule___init__) rfl
  obtain ⟨fd_Rule___or__, F_Rule___or__⟩ := c.1.def_ 37 (d := dd_Rule___or__) rfl
  obtain ⟨fd_sums_of, F_sums_of⟩ := c.1.def_ 38 (d := dd_sums_of) rfl
  obtain ⟨fd_Rule_weighted, F_Rule_weighted⟩ := c.1.def_ 39 (d := dd_Rule_weighted) rfl
  obtain ⟨fd_Rule___invert__, F_Rule___invert__⟩ := c.1.def_ 40 (d := dd_Rule___invert__) rfl
  obtain ⟨fd_Rule___and__, F_Rule___and__⟩ := c.1.def_ 41 (d := dd_Rule___and__) rfl
  obtain ⟨fd__law_rule, F__law_rule⟩ := c.1.def_ 42 (d := dd__law_rule) rfl
  obtain ⟨fd__law_gcd, F__law_gcd⟩ := c.1.def_ 43 (d := dd__law_gcd) rfl
  obtain ⟨fd__law_reduced, F__law_reduced⟩ := c.1.def_ 44 (d := dd__law_reduced) rfl
  obtain ⟨fd__law_motion, F__law_motion⟩ := c.1.def_ 45 (d := dd__law_motion) rfl
  obtain ⟨fd__law_fraction, F__law_fraction⟩ := c.1.def_ 46 (d := dd__law_fraction) rfl
  obtain ⟨fd__law_plus, F__law_plus⟩ := c.1.def_ 47 (d := dd__law_plus) rfl
  obtain ⟨fd__law_mirror, F__law_mirror⟩ := c.1.def_ 48 (d := dd__law_mirror) rfl
  obtain ⟨fd__law_sign, F__law_sign⟩ := c.1.def_ 49 (d := dd__law_sign) rfl
  obtain ⟨fd__law_line_votes, F__law_line_votes⟩ := c.1.def_ 50 (d := dd__law_line_votes) rfl
  obtain ⟨fd__law_far, F__law_far⟩ := c.1.def_ 51 (d := dd__law_far) rfl
  obtain ⟨fd__law_whole, F__law_whole⟩ := c.1.def_ 52 (d := dd__law_whole) rfl
  obtain ⟨fd__law_way, F__law_way⟩ := c.1.def_ 53 (d := dd__law_way) rfl
  obtain ⟨fd__law_nearer, F__law_nearer⟩ := c.1.def_ 54 (d := dd__law_nearer) rfl
  obtain ⟨fd__law_lot, F__law_lot⟩ := c.1.def_ 55 (d := dd__law_lot) rfl
  obtain ⟨fd__law_asked, F__law_asked⟩ := c.1.def_ 56 (d := dd__law_asked) rfl
  obtain ⟨fd__law_world, F__law_world⟩ := c.1.def_ 57 (d := dd__law_world) rfl
  obtain ⟨fd_law, F_law⟩ := c.1.def_ 58 (d := dd_law) rfl
  refine ⟨fd_law, fun s v => FunD.bindsA (ps := ["script"]) F_law (fun _ _ _ _ _ _ us hl => match us, hl with | [_], _ => rfl) s [v] rfl, fun base => ?_⟩
  have T : Txt P w K mg base (cl K) := txtOf X G c
  have C_is_home := ok_is_home T F_is_home (He.glo_ok X G (c.1.fact 27 (f := .glo "is_home") rfl))
  have I_Council := ok_Council___init__ T F_Council___init__ (He.mkr_ok (c.1.fact 79 (f := .mkr "Council") rfl)) (He.glo_ok X G (c.1.fact 80 (f := .glo "Council") rfl)) C_is_home
  have C__law_digits := ok__law_digits T F__law_digits (He.glo_ok X G (c.1.fact 28 (f := .glo "_law_digits") rfl))
  have C__law_voters := ok__law_voters T F__law_voters (He.glo_ok X G (c.1.fact 29 (f := .glo "_law_voters") rfl))
  have C__law_words := ok__law_words T F__law_words (He.glo_ok X G (c.1.fact 30 (f := .glo "_law_words") rfl)) C__law_voters
  have C__law_homes := ok__law_homes T F__law_homes (He.glo_ok X G (c.1.fact 31 (f := .glo "_law_homes") rfl))
  have C__law_cell := ok__law_cell T F__law_cell (He.glo_ok X G (c.1.fact 32 (f := .glo "_law_cell") rfl))
  have C__law_number := ok__law_number T F__law_number (He.glo_ok X G (c.1.fact 33 (f := .glo "_law_number") rfl))
  have C__law_table := ok__law_table T F__law_table (He.glo_ok X G (c.1.fact 34 (f := .glo "_law_table") rfl)) C__law_number
  have C__law_line_council := ok__law_line_council T F__law_line_council (He.glo_ok X G (c.1.fact 35 (f := .glo "_law_line_council") rfl)) C__law_cell C__law_digits C__law_words C__law_homes C__law_table
  have C__law_dot := ok__law_dot T F__law_dot (He.glo_ok X G (c.1.fact 36 (f := .glo "_law_dot") rfl))
  have C__law_value := ok__law_value T F__law_value (He.glo_ok X G (c.1.fact 37 (f := .glo "_law_value") rfl)) C__law_dot C__law_number
  have C_dot := ok_dot T F_dot (He.glo_ok X G (c.1.fact 38 (f := .glo "dot") rfl))
  have C_ranked := ok_ranked T F_ranked (He.glo_ok X G (c.1.fact 39 (f := .glo "ranked") rfl)) C_dot
  have C_word := ok_word T F_word (He.glo_ok X G (c.1.fact 40 (f := .glo "word") rfl)) C_ranked
  have C_ends_of := ok_ends_of T F_ends_of (He.glo_ok X G (c.1.fact 41 (f := .glo "ends_of") rfl)) C_word
  have C_compare := ok_compare T F_compare (He.glo_ok X G (c.1.fact 42 (f := .glo "compare") rfl))
  have C_ratio := ok_ratio T F_ratio (He.glo_ok X G (c.1.fact 43 (f := .glo "ratio") rfl))
  have C_minus := ok_minus T F_minus (He.glo_ok X G (c.1.fact 44 (f := .glo "minus") rfl)) C_ratio
  have C_mirrored := ok_mirrored T F_mirrored (He.glo_ok X G (c.1.fact 45 (f := .glo "mirrored") rfl)) C_minus
  have C_floor_of := ok_floor_of T F_floor_of (He.glo_ok X G (c.1.fact 46 (f := .glo "floor_of") rfl))
  have C_over := ok_over T F_over (He.glo_ok X G (c.1.fact 47 (f := .glo "over") rfl)) C_ratio
  have C_rounds_to := ok_rounds_to T F_rounds_to (He.glo_ok X G (c.1.fact 48 (f := .glo "rounds_to") rfl)) C_compare C_minus C_over C_floor_of
  have C_fewest_rising := ok_fewest_rising T F_fewest_rising (He.glo_ok X G (c.1.fact 49 (f := .glo "fewest_rising") rfl)) C_mirrored C_compare C_rounds_to
  have C_flipped := ok_flipped T F_flipped (He.glo_ok X G (c.1.fact 50 (f := .glo "flipped") rfl)) C_ratio
  have C_fewest_between := ok_fewest_between T F_fewest_between (He.glo_ok X G (c.1.fact 51 (f := .glo "fewest_between") rfl)) C_compare C_fewest_rising C_flipped
  have C_fewest_on_line := ok_fewest_on_line T F_fewest_on_line (He.glo_ok X G (c.1.fact 52 (f := .glo "fewest_on_line") rfl)) C_ends_of C_fewest_between
  have C__law_wrong := ok__law_wrong T F__law_wrong (He.glo_ok X G (c.1.fact 53 (f := .glo "_law_wrong") rfl)) C_fewest_on_line
  have C_smaller_wins := ok_smaller_wins T F_smaller_wins (He.glo_ok X G (c.1.fact 54 (f := .glo "smaller_wins") rfl))
  have C_winning_book := ok_winning_book T F_winning_book (He.glo_ok X G (c.1.fact 55 (f := .glo "winning_book") rfl)) C_smaller_wins
  have C_lot_order := ok_lot_order T F_lot_order (He.glo_ok X G (c.1.fact 56 (f := .glo "lot_order") rfl))
  have C_lot_of := ok_lot_of T F_lot_of (He.glo_ok X G (c.1.fact 57 (f := .glo "lot_of") rfl))
  have C_least_lots := ok_least_lots T F_least_lots (He.glo_ok X G (c.1.fact 58 (f := .glo "least_lots") rfl)) C_smaller_wins C_lot_of C_lot_order
  have C_lot_number := ok_lot_number T F_lot_number (He.glo_ok X G (c.1.fact 59 (f := .glo "lot_number") rfl))
  have C_is_lot := ok_is_lot T F_is_lot (He.glo_ok X G (c.1.fact 60 (f := .glo "is_lot") rfl))
  have I_Rule := ok_Rule___init__ T F_Rule___init__ (He.mkr_ok (c.1.fact 81 (f := .mkr "Rule") rfl)) (He.glo_ok X G (c.1.fact 82 (f := .glo "Rule") rfl)) C_is_lot C_lot_number C_winning_book C_least_lots
  have O_Rule___or__ : OpD P w K mg base (cl K) 7 40 (PySem.dunder Operator.BitOr.info.2) m_Rule___or__ := ⟨⟨_, _, _, fc_Rule___or__ T F_Rule___or__ I_Rule, (He.meth_ok (c.1.fact 83 (f := .meth "Rule" "__or__") rfl)).at_, (He.meth_ok (c.1.fact 83 (f := .meth "Rule" "__or__") rfl)).fn⟩, EX7⟩
  have C_sums_of := ok_sums_of T F_sums_of (He.glo_ok X G (c.1.fact 61 (f := .glo "sums_of") rfl))
  have S_Rule_weighted : StaD P w K mg base (cl K) 7 40 "Rule" "weighted" m_Rule_weighted := ⟨let ⟨a, r, b⟩ := He5.wrapB_ok EX8; ⟨_, _, _, _, r, fc_Rule_weighted T F_Rule_weighted C_sums_of C_least_lots I_Rule, a, b⟩, creadB_ok EX9, He.glo_ok X G (c.1.fact 82 (f := .glo "Rule") rfl)⟩
  have O_Rule___invert__ : OpD P w K mg base (cl K) 7 40 ("__invert__") m_Rule___invert__ := ⟨⟨_, _, _, fc_Rule___invert__ T F_Rule___invert__ C_least_lots I_Rule, (He.meth_ok (c.1.fact 84 (f := .meth "Rule" "__invert__") rfl)).at_, (He.meth_ok (c.1.fact 84 (f := .meth "Rule" "__invert__") rfl)).fn⟩, EX7⟩
  have O_Rule___and__ : OpD P w K mg base (cl K) 7 40 (PySem.dunder Operator.BitAnd.info.2) m_Rule___and__ := ⟨⟨_, _, _, fc_Rule___and__ T F_Rule___and__ C_least_lots I_Rule, (He.meth_ok (c.1.fact 85 (f := .meth "Rule" "__and__") rfl)).at_, (He.meth_ok (c.1.fact 85 (f := .meth "Rule" "__and__") rfl)).fn⟩, EX7⟩
  have C__law_rule := ok__law_rule T F__law_rule (He.glo_ok X G (c.1.fact 62 (f := .glo "_law_rule") rfl)) S_Rule_weighted I_Rule O_Rule___invert__ O_Rule___and__ O_Rule___or__
  have C__law_gcd := ok__law_gcd T F__law_gcd (He.glo_ok X G (c.1.fact 63 (f := .glo "_law_gcd") rfl))
  have C__law_reduced := ok__law_reduced T F__law_reduced (He.glo_ok X G (c.1.fact 64 (f := .glo "_law_reduced") rfl)) C__law_gcd
  have C__law_motion := ok__law_motion T F__law_motion (He.glo_ok X G (c.1.fact 65 (f := .glo "_law_motion") rfl)) C__law_reduced
  have C__law_fraction := ok__law_fraction T F__law_fraction (He.glo_ok X G (c.1.fact 66 (f := .glo "_law_fraction") rfl)) C__law_gcd
  have C__law_plus := ok__law_plus T F__law_plus (He.glo_ok X G (c.1.fact 67 (f := .glo "_law_plus") rfl)) C__law_fraction
  have C__law_mirror := ok__law_mirror T F__law_mirror (He.glo_ok X G (c.1.fact 68 (f := .glo "_law_mirror") rfl)) C__law_fraction
  have C__law_sign := ok__law_sign T F__law_sign (He.glo_ok X G (c.1.fact 69 (f := .glo "_law_sign") rfl))
  have C__law_line_votes := ok__law_line_votes T F__law_line_votes (He.glo_ok X G (c.1.fact 70 (f := .glo "_law_line_votes") rfl)) C__law_sign C__law_mirror
  have C__law_far := ok__law_far T F__law_far (He.glo_ok X G (c.1.fact 71 (f := .glo "_law_far") rfl)) C__law_line_votes C__law_sign C__law_plus C_fewest_on_line
  have C__law_whole := ok__law_whole T F__law_whole (He.glo_ok X G (c.1.fact 72 (f := .glo "_law_whole") rfl))
  have C__law_way := ok__law_way T F__law_way (He.glo_ok X G (c.1.fact 73 (f := .glo "_law_way") rfl))
  have C__law_nearer := ok__law_nearer T F__law_nearer (He.glo_ok X G (c.1.fact 74 (f := .glo "_law_nearer") rfl)) C__law_way
  have C__law_lot := ok__law_lot T F__law_lot (He.glo_ok X G (c.1.fact 75 (f := .glo "_law_lot") rfl)) C__law_nearer
  have C__law_asked := ok__law_asked T F__law_asked (He.glo_ok X G (c.1.fact 76 (f := .glo "_law_asked") rfl)) C_fewest_on_line C__law_line_votes C__law_whole C__law_lot C__law_number
  have C__law_world := ok__law_world T F__law_world (He.glo_ok X G (c.1.fact 77 (f := .glo "_law_world") rfl)) C__law_line_council C__law_rule I_Council C__law_value C__law_cell C__law_digits C__law_motion C__law_asked C__law_far C__law_plus C__law_wrong
  exact (fc_law T F_law C__law_world).ok
theorem law_at {w : World} {K : PySem.W.Frag} {h : Heap} {mg : Str → Option Value} (X : K.In h) (G : h.Ns mainGlobals mg) (c : SaysZ fa fn ex K) : mg "law" = some (.ref (ga K "law")) := He.glo_ok X G (c.1.fact 78 (f := .glo "law") rfl)
end L2.DL.MM
/-! numbers of the laws: gcd, cells, digits, fractions, points in lowest terms -/
namespace L2.DL.MM
open PySem PyProof.Rows PySem.Spec
theorem fmod_nat (a b : Nat) : (a : Int).fmod (b : Int) = ((a % b : Nat) : Int) := by
  (rw [Int.fmod_eq_emod_of_nonneg _ (by omega)])
  rfl
theorem gcd_loop : ∀ (n a b : Nat) (z : Sl), b ≤ n → ∃ z', whileL (cE (eOp oNe (eV 1) (eC (.int 0)))) (sSeq (sAsg (eOp oMod (eFn fInt (aCons (eV 0) aNil)) (eV 1)) (gN 2)) (sSeq (sAsg (eV 1) (gN 0)) (sAsg (eV 2) (gN 1)))) (n + 1) [.d (.int a), .d (.int b), z] = .ok (.nx [.d (.int (Nat.gcd a b : Nat)), .d (.int 0), z']) := by
  intro n
  induction n with
  | zero =>
    intro a b z h
    have : b = 0 := by omega
    subst this
    exact ⟨z, by simp [whileL]⟩
  | succ n ih =>
    intro a b z h
    by_cases h0 : b = 0
    · subst h0
      exact ⟨z, by simp [whileL]⟩
    · have hm : a % b < b := Nat.mod_lt _ (by omega)
      have hg : Nat.gcd a b = Nat.gcd b (a % b) := by rw [Nat.gcd_comm, Nat.gcd_rec, Nat.gcd_comm]
      have hf := fmod_nat a b
      obtain ⟨r, hr⟩ : ∃ r, r = a % b := ⟨_, rfl⟩
      rw [← hr] at hm hg hf
      obtain ⟨z', e⟩ := ih b r (.d (.int (r : Int))) (by omega)
      refine ⟨z', ?_⟩
      rw [hg, ← e, whileL]
      have h1 : (b : Int) ≠ 0 := by omega
      simp [h1, hf, h0]
theorem gcd_eq (a b : Int) : m__law_gcd [.int a, .int b] = .ok (.int ((Nat.gcd a.natAbs b.natAbs : Nat) : Int)) := by
  obtain ⟨z', e⟩ := gcd_loop b.natAbs a.natAbs b.natAbs .no (Nat.le_refl _)
  have hf : fuelI 1 [.d (.int (a.natAbs : Int)), .d (.int (b.natAbs : Int)), .no] = b.natAbs + 1 := by
    show (b.natAbs : Int).natAbs + 1 = _
    rw [Int.natAbs_natCast]
  simp [m__law_gcd, runB, hf, e]
/-! ### the script's cells -/
theorem cell_loop {x0 x1 : Sl} : ∀ (ns : List Int) (s : Int) (z : Sl), 0 ≤ s → s < 1000003 → ∃ s' z', 0 ≤ s' ∧ s' < 1000003 ∧ forL (gN 3) (sAsg (eOp oMod (eFn fInt (aCons (eOp oAdd (eOp oMul (eV 2) (eC (.int 31))) (eOp oMod (eFn fInt (aCons (eV 3) aNil)) (eC (.int 1000003)))) aNil)) (eC (.int 1000003))) (gN 2)) (ns.map D.int) [x0, x1, .d (.int s), z] = .ok (.nx [x0, x1, .d (.int s'), z'])
  | [], s, z, h0, h1 => ⟨s, z, h0, h1, rfl⟩
  | n :: ns, s, z, h0, h1 => by
    obtain ⟨y, hy⟩ : ∃ y, y = n.fmod 1000003 := ⟨_, rfl⟩
    have f := fmod_in (s * 31 + y) (k := 1000003) (by decide)
    obtain ⟨s', z', a, b, e⟩ := cell_loop (x0 := x0) (x1 := x1) ns ((s * 31 + y).fmod 1000003) (.d (.int n)) f.1 f.2
    refine ⟨s', z', a, b, ?_⟩
    have m := o_mul (i := s) (j := 31) (sm.mu (sml (by omega)) (sml (by decide)))
    have m1 : oMod (.int n) (.int 1000003) = some (.int y) := by rw [hy]; exact o_mod (by decide)
    have m2 : oMod (.int (s * 31 + y)) (.int 1000003) = some (.int ((s * 31 + y).fmod 1000003)) := o_mod (by decide)
    clear hy
    rw [List.map_cons, forL]
    simp [m, m1, m2, e]
theorem cell_eq (ns : List Int) (k : Nat) (hk : k ≤ 1000) : ∃ c, m__law_cell [script ns, .int k] = .ok (.int c) := by
  have hl : ((ns.map D.int).length : Int) = ns.length := by rw [List.length_map]
  by_cases h : (k : Int) < ns.length
  · have ix : oIx (script ns) (.int k) = some (.int ns[k]) := by
      show atI (ns.map D.int) (k : Int) = _
      rw [atI_nat (by rw [List.length_map]; omega)]
      simp [show k < ns.length by omega]
    exact ⟨ns[k], by simp [m__law_cell, runB, h, ix]⟩
  · obtain ⟨s', z', a, b, e⟩ := cell_loop (x0 := .d (script ns)) (x1 := .d (.int k)) ns 17 .no (by decide) (by decide)
    have m1 := o_mul (i := s' + 7) (j := (k : Int) + 3) (sm.mu (sml (by omega)) (sml (by omega)))
    have hb : ((s' + 7) * ((k : Int) + 3)).natAbs ≤ 1000010 * 1003 := by
      rw [Int.natAbs_mul]
      exact Nat.mul_le_mul (by omega) (by omega)
    have m2 := o_mul (i := (s' + 7) * ((k : Int) + 3)) (j := 69621) (sm.mu (sml (by omega)) (sml (by decide)))
    have m3 : oMod (.int ((s' + 7) * ((k : Int) + 3) * 69621)) (.int 2147483647) = some (.int (((s' + 7) * ((k : Int) + 3) * 69621).fmod 2147483647)) := o_mod (by decide)
    revert m2 m3
    generalize ((s' + 7) * ((k : Int) + 3) * 69621) = y
    intro m2 m3
    exact ⟨_, by simp [m__law_cell, runB, h, e, m1, m2, m3]; rfl⟩
/-! ### digits -/
def Fit : List Int → List Int → Prop
  | [], [] => True
  | r :: rs, s :: ss => 0 ≤ r ∧ r < s ∧ Fit rs ss
  | _, _ => False
def sizesOk (ss : List Int) : Prop := ∀ s ∈ ss, 0 < s ∧ s ≤ 1000000000
theorem dig_loop1 {x0 x1 x4 x5 x7 : Sl} : ∀ (ss : List Int) (acc : List D) (r : Int) (z : Sl), sizesOk ss → acc.length + ss.length ≤ 1000 → ∃ row r' z', Fit row ss ∧ forL (gN 6) (sSeq (sApp 2 (eOp oMod (eFn fInt (aCons (eV 3) aNil)) (eV 6))) (sAsg (eOp oFdiv (eFn fInt (aCons (eV 3) aNil)) (eV 6)) (gN 3))) (ss.map D.int) [x0, x1, .bl acc, .d (.int r), x4, x5, z, x7] =
      .ok (.nx [x0, x1, .bl (acc ++ row.map D.int), .d (.int r'), x4, x5, z', x7])
  | [], acc, r, z, _, _ => ⟨[], r, z, trivial, by simp [forL]⟩
  | s :: ss, acc, r, z, ok, hl => by
    obtain ⟨s0, s1⟩ := ok s (by simp)
    rw [List.length_cons] at hl
    have sb := size_big
    obtain ⟨row, r', z', ft, e⟩ := dig_loop1 (x0 := x0) (x1 := x1) (x4 := x4) (x5 := x5) (x7 := x7) ss (acc ++ [.int (r.fmod s)]) (r.fdiv s) (.d (.int s)) (fun x hx => ok x (by simp [hx])) (by simp; omega)
    have f := fmod_in r s0
    refine ⟨r.fmod s :: row, r', z', ⟨f.1, f.2, ft⟩, ?_⟩
    have m := o_mod (i := r) (j := s) (by omega)
    have d := o_fdiv (i := r) (j := s) (by omega) (sml (by omega)).fd
    have hs : acc.length < sizeLine := by omega
    have ea : acc ++ List.map D.int (r.fmod s :: row) = acc ++ [.int (r.fmod s)] ++ List.map D.int row := by simp
    rw [ea, ← e, List.map_cons, forL]
    simp [m, d, hs]
theorem dig_loop2 {x0 x3 x6 : Sl} {S : List Int} (hS : S.length ≤ 1000) (okS : sizesOk S) : ∀ (ss p : List Int) (acc : List D) (s : Int) (z z7 : Sl), p ++ ss = S → acc.length = p.length → 0 ≤ s → s < 2147483648 →
    ∃ row s' z' z7', Fit row ss ∧ forL (gN 5) (sSeq (sAsg (eOp oMod (eFn fInt (aCons (eOp oAdd (eOp oAdd (eOp oMul (eV 4) (eC (.int 48271))) (eOp oMul (eC (.int 974711)) (eV 5))) (eC (.int 12345))) aNil)) (eC (.int 2147483647))) (gN 4))
      (sSeq (sAsg (eOp oMod (eFn fInt (aCons (eOp oMul (eV 4) (eOp oAdd (eOp oFdiv (eV 4) (eC (.int 65537))) (eC (.int 3)))) aNil)) (eC (.int 2147483629))) (gN 7))
        (sApp 2 (eOp oMod (eOp oFdiv (eV 7) (eC (.int 19))) (eOp oIx (eV 1) (eV 5)))))) ((List.range' p.length ss.length).map fun k => .int (0 + (k : Nat))) [x0, .d (.lst (S.map D.int)), .bl acc, x3, .d (.int s), z, x6, z7] =
      .ok (.nx [x0, .d (.lst (S.map D.int)), .bl (acc ++ row.map D.int), x3, .d (.int s'), z', x6, z7'])
  | [], p, acc, s, z, z7, _, _, _, _ => ⟨[], s, z, z7, trivial, by simp [forL]⟩
  | c :: ss, p, acc, s, z, z7, e, ha, h0, h1 => by
    have sb := size_big
    have hp : p.length < S.length := by rw [← e]; simp
    obtain ⟨c0, c1⟩ := okS c (by rw [← e]; simp)
    obtain ⟨t, ht⟩ : ∃ t, t = (s * 48271 + 974711 * (p.length : Nat) + 12345).fmod 2147483647 := ⟨_, rfl⟩
    have ft := fmod_in (s * 48271 + 974711 * (p.length : Nat) + 12345) (k := 2147483647) (by decide)
    rw [← ht] at ft
    obtain ⟨u, hu⟩ : ∃ u, u = (t * (t.fdiv 65537 + 3)).fmod 2147483629 := ⟨_, rfl⟩
    have fc := fmod_in (u.fdiv 19) c0
    obtain ⟨row, s', z', z7', fit, q⟩ := dig_loop2 (x0 := x0) (x3 := x3) (x6 := x6) hS okS ss (p ++ [c]) (acc ++ [.int ((u.fdiv 19).fmod c)]) t (.d (.int (p.length : Nat))) (.d (.int u)) (by rw [List.append_assoc]; exact e) (by simp [ha]) ft.1 (by omega)
    refine ⟨(u.fdiv 19).fmod c :: row, s', z', z7', ⟨fc.1, fc.2, fit⟩, ?_⟩
    have hp1 : (p ++ [c]).length = p.length + 1 := by simp
    rw [hp1] at q
    have hr : List.range' p.length (c :: ss).length = p.length :: List.range' (p.length + 1) ss.length := rfl
    have ea : acc ++ List.map D.int ((u.fdiv 19).fmod c :: row) = acc ++ [.int ((u.fdiv 19).fmod c)] ++ List.map D.int row := by simp
    have m1 := o_mul (i := s) (j := 48271) (sm.mu (sml (by omega)) (sml (by decide)))
    have m2 := o_mul (i := 974711) (j := ((p.length : Nat) : Int)) (sm.mu (sml (by decide)) (sml (by omega)))
    have m3 : oMod (.int (s * 48271 + 974711 * (p.length : Nat) + 12345)) (.int 2147483647) = some (.int t) := by rw [ht]; exact o_mod (by decide)
    have d1 : oFdiv (.int t) (.int 65537) = some (.int (t.fdiv 65537)) := o_fdiv (by decide) (by decide)
    have bt : 0 ≤ t.fdiv 65537 ∧ t.fdiv 65537 ≤ t := by
      (rw [Int.fdiv_eq_ediv_of_nonneg _ (by decide)])
      omega
    have m4 := o_mul (i := t) (j := t.fdiv 65537 + 3) (sm.mu (sml (by omega)) (sml (by omega)))
    have m5 : oMod (.int (t * (t.fdiv 65537 + 3))) (.int 2147483629) = some (.int u) := by rw [hu]; exact o_mod (by decide)
    have d2 : oFdiv (.int u) (.int 19) = some (.int (u.fdiv 19)) := o_fdiv (by decide) (by decide)
    have ix : oIx (.lst (S.map D.int)) (.int (p.length : Nat)) = some (.int c) := by
      show atI (S.map D.int) (p.length : Nat) = _
      rw [atI_nat (by rw [List.length_map]; exact hp), ← e]
      simp
    have m6 := o_mod (i := u.fdiv 19) (j := c) (by omega)
    have hs : acc.length < sizeLine := by omega
    clear ht hu
    rw [ea, ← q, hr, List.map_cons, Int.zero_add, forL]
    revert m1 m2 m3 d1 m4 m5 d2 m6
    generalize s * 48271 = y1
    generalize 974711 * ((p.length : Nat) : Int) = y2
    generalize t.fdiv 65537 = y3
    generalize t * (y3 + 3) = y4
    generalize u.fdiv 19 = y5
    generalize y5.fmod c = y6
    intro m1 m2 m3 d1 m4 m5 d2 m6
    simp [m1, m2, m3, d1, m4, m5, d2, ix, m6, hs]
theorem p18 : oPowD (.int 10) (.int 18) = some (.int 1000000000000000000) := rfl
theorem digits_eq (c : Int) (S : List Int) (hS : S.length ≤ 1000) (okS : sizesOk S) : ∃ row, Fit row S ∧ m__law_digits [.int c, .lst (S.map D.int)] = .ok (.lst (row.map D.int)) := by
  have sb := size_big
  have z0 : 0 ≤ sizeLine := by omega
  by_cases h : (1000000000000000000 : Int) ≤ c
  · obtain ⟨row, r', z', ft, e⟩ := dig_loop1 (x0 := .d (.int c)) (x1 := .d (.lst (S.map D.int))) (x4 := .no) (x5 := .no) (x7 := .no) S [] (c - 1000000000000000000) .no okS (by simpa using hS)
    rw [List.nil_append] at e
    exact ⟨row, ft, by simp [m__law_digits, runB, p18, h, e]⟩
  · have fs := fmod_in c (k := 2147483629) (by decide)
    have m0 : oMod (.int c) (.int 2147483629) = some (.int (c.fmod 2147483629)) := o_mod (by decide)
    obtain ⟨row, s', z', z7', ft, e⟩ := dig_loop2 (x0 := .d (.int c)) (x3 := .d (.int c)) (x6 := .no) hS okS S [] [] (c.fmod 2147483629) .no .no rfl rfl fs.1 (by omega)
    rw [List.nil_append] at e
    have rg : S.length < 4611686018427387904 := by omega
    have hr : rangeD 0 S.length = (List.range' 0 S.length).map fun k => D.int (0 + (k : Nat)) := by
      unfold rangeD
      rw [List.range_eq_range']
    rw [List.length_nil, ← hr] at e
    revert e
    generalize hq : rangeD 0 S.length = rr
    intro e
    exact ⟨row, ft, by simp [m__law_digits, runB, p18, h, m0, rg, hq, e]⟩
/-! ### points: one bottom, lowest terms -/
def gl (b : Nat) (ns : List Int) : Nat := ns.foldl (fun g n => Nat.gcd g n.natAbs) b
def redD (ns : List Int) (B : Int) : D := .tup (ns.map (fun n => D.int (n.fdiv (gl B.natAbs ns : Nat))) ++ [.int (B.fdiv (gl B.natAbs ns : Nat))])
theorem gl_dvd : ∀ (ns : List Int) (b : Nat), gl b ns ∣ b ∧ ∀ n ∈ ns, gl b ns ∣ n.natAbs
  | [], b => ⟨Nat.dvd_refl _, by simp⟩
  | n :: ns, b => by
    obtain ⟨h1, h2⟩ := gl_dvd ns (Nat.gcd b n.natAbs)
    refine ⟨Nat.dvd_trans h1 (Nat.gcd_dvd_left _ _), fun m hm => ?_⟩
    (rcases List.mem_cons.mp hm with rfl | hm)
    · exact Nat.dvd_trans h1 (Nat.gcd_dvd_right _ _)
    · exact h2 m hm
theorem gl_pos {b : Nat} {ns : List Int} (h : 0 < b) : 0 < gl b ns := Nat.pos_of_dvd_of_pos (gl_dvd ns b).1 h
theorem gl_le {b : Nat} {ns : List Int} (h : 0 < b) : gl b ns ≤ b := Nat.le_of_dvd h (gl_dvd ns b).1
theorem gl_mul {α : Type} (f : α → Int) (k : Nat) : ∀ (qs : List α) (b : Nat), gl (b * k) (qs.map fun q => f q * (k : Int)) = gl b (qs.map f) * k
  | [], b => rfl
  | q :: qs, b => by
    show gl (Nat.gcd (b * k) (f q * (k : Int)).natAbs) _ = gl (Nat.gcd b (f q).natAbs) _ * k
    rw [Int.natAbs_mul, Int.natAbs_natCast, Nat.gcd_mul_right]
    exact gl_mul f k qs _
theorem fdiv_cross {N M g k : Int} (hg : 0 < g) (hk : 0 < k) (dg : g ∣ N) (dk : k ∣ M) (h : N * k = M * g) : N.fdiv g = M.fdiv k := by
  rw [Int.fdiv_eq_ediv_of_nonneg _ (by omega), Int.fdiv_eq_ediv_of_nonneg _ (by omega)]
  obtain ⟨x, rfl⟩ := dg
  obtain ⟨y, rfl⟩ := dk
  rw [Int.mul_ediv_cancel_left _ (by omega), Int.mul_ediv_cancel_left _ (by omega)]
  have e : (g * k) * x = (g * k) * y := by
    calc (g * k) * x = g * x * k := by rw [Int.mul_assoc, Int.mul_comm k x, ← Int.mul_assoc]
      _ = k * y * g := h
      _ = (g * k) * y := by rw [Int.mul_comm g k, Int.mul_assoc, Int.mul_assoc, Int.mul_comm y g]
  exact Int.eq_of_mul_eq_mul_left (Int.ne_of_gt (Int.mul_pos hg hk)) e
/-- the same point, written over two bottoms -/
theorem red_eq {α : Type} {f f' : α → Int} {qs : List α} {B B' : Int} (hB : 0 < B) (hB' : 0 < B') (h : ∀ q ∈ qs, f q * B' = f' q * B) : redD (qs.map f) B = redD (qs.map f') B' := by
  obtain ⟨b, rfl⟩ := Int.eq_ofNat_of_zero_le (show 0 ≤ B by omega)
  obtain ⟨b', rfl⟩ := Int.eq_ofNat_of_zero_le (show 0 ≤ B' by omega)
  have e1 := gl_mul f b' qs b
  have e2 := gl_mul f' b qs b'
  have hm : (qs.map fun q => f q * (b' : Int)) = qs.map fun q => f' q * (b : Int) := List.map_congr_left h
  rw [hm, Nat.mul_comm b b', e2] at e1
  have p1 : 0 < gl b (qs.map f) := gl_pos (by omega)
  have p2 : 0 < gl b' (qs.map f') := gl_pos (by omega)
  unfold redD
  rw [Int.natAbs_natCast, Int.natAbs_natCast]
  obtain ⟨g, hg⟩ : ∃ g, g = gl b (qs.map f) := ⟨_, rfl⟩
  obtain ⟨g', hg'⟩ : ∃ g, g = gl b' (qs.map f') := ⟨_, rfl⟩
  have d1 := gl_dvd (qs.map f) b
  have d2 := gl_dvd (qs.map f') b'
  rw [← hg] at e1 p1 d1 ⊢
  rw [← hg'] at e1 p2 d2 ⊢
  have e1 : (g' : Int) * b = g * b' := by
    have := congrArg (fun n : Nat => (n : Int)) e1
    simpa using this
  have hb : (b : Int).fdiv g = (b' : Int).fdiv g' := fdiv_cross (by omega) (by omega) (Int.natCast_dvd_natCast.mpr d1.1) (Int.natCast_dvd_natCast.mpr d2.1) (by rw [Int.mul_comm, e1, Int.mul_comm])
  rw [hb, List.map_map, List.map_map]
  congr 2
  refine List.map_congr_left fun q hq => ?_
  refine congrArg D.int (fdiv_cross (by omega) (by omega) (Int.ofNat_dvd_left.mpr (d1.2 _ (List.mem_map_of_mem hq))) (Int.ofNat_dvd_left.mpr (d2.2 _ (List.mem_map_of_mem hq))) ?_)
  have k := h q hq
  have : (f q * g') * b = (f' q * g) * b := by
    calc (f q * g') * b = f q * (g' * b) := Int.mul_assoc _ _ _
      _ = f q * (g * b') := by rw [e1]
      _ = (f q * b') * g := by rw [Int.mul_comm (g : Int), Int.mul_assoc]
      _ = (f' q * b) * g := by rw [k]
      _ = (f' q * g) * b := by rw [Int.mul_assoc, Int.mul_comm (b : Int), ← Int.mul_assoc]
  exact Int.eq_of_mul_eq_mul_right (show (b : Int) ≠ 0 by omega) this
/-! ### the walks of both -/
theorem gl_loop {body : MS} {x0 x1 : Sl} (h : ∀ (g : Nat) (n : Int), body [x0, x1, .d (.int (g : Int)), .d (.int n)] = .ok (.nx [x0, x1, .d (.int ((Nat.gcd g n.natAbs : Nat) : Int)), .d (.int n)])) : ∀ (ns : List Int) (g : Nat) (z : Sl), ∃ z', forL (gN 3) body (ns.map D.int) [x0, x1, .d (.int (g : Int)), z] = .ok (.nx [x0, x1, .d (.int ((gl g ns : Nat) : Int)), z'])
  | [], g, z => ⟨z, rfl⟩
  | n :: ns, g, z => by
    obtain ⟨z', e⟩ := gl_loop h ns (Nat.gcd g n.natAbs) (.d (.int n))
    refine ⟨z', ?_⟩
    rw [List.map_cons, forL]
    show ((body [x0, x1, .d (.int (g : Int)), .d (.int n)]).bind _) = _
    rw [h]
    exact e
theorem sm_nat {g : Nat} {B : Int} (h : g ≤ B.natAbs) (s : sm B) : sm (g : Int) := by
  unfold sm at s ⊢
  rw [Int.natAbs_natCast]
  omega
theorem reduced_eq {ns : List Int} {B : Int} (hB : 0 < B) (s : sm B) (hl : ns.length < 1000) : m__law_reduced [.lst (ns.map D.int), .int B] = .ok (redD ns B) := by
  obtain ⟨b, rfl⟩ := Int.eq_ofNat_of_zero_le (show 0 ≤ B by omega)
  have big : 1000 ≤ sizeLine := by decide
  obtain ⟨z', e⟩ := gl_loop (x0 := .d (.lst (ns.map D.int))) (x1 := .d (.int (b : Int))) (body := sAsg (eCallN m__law_gcd (aCons (eV 2) (aCons (eV 3) aNil))) (gN 2)) (fun g n => by simp [gcd_eq]) ns b .no
  have gp := gl_pos (b := b) (ns := ns) (by omega)
  have gs := sm_nat (B := (b : Int)) (gl_le (b := b) (ns := ns) (by omega)) s
  unfold redD
  rw [Int.natAbs_natCast]
  revert e gp gs
  generalize gl b ns = g
  intro e gp gs
  have g0 : (g : Int) ≠ 0 := by omega
  have dv := fun i => o_fdiv (i := i) g0 gs.fd
  have hc : compL (gN 3) cYes (eOp oFdiv (eV 3) (eV 2)) [.d (.lst (ns.map D.int)), .d (.int (b : Int)), .d (.int (g : Int)), .no] (ns.map D.int) = .ok (ns.map fun n => .int (n.fdiv g)) := by
    rw [compL_map (fun d => match d with | .int n => .int (n.fdiv g) | d => d)]
    · rw [List.map_map]; rfl
    · intro d hd
      obtain ⟨n, _, rfl⟩ := List.mem_map.mp hd
      exact ⟨_, rfl, by simp [dv]⟩
  have hl2 : ns.length ≤ sizeLine := by omega
  have hl3 : ns.length + 1 ≤ sizeLine := by omega
  have l1 : 1 ≤ sizeLine := by decide
  simp [m__law_reduced, runB, e, hc, dv, hl2, hl3, l1]
/-! ### fractions -/
def pair (q : Int × Int) : D := .tup [.int q.1, .int q.2]
def sg (b g : Int) : Int := if b < 0 then -g else g
/-- a / b in lowest terms -/
def low (a b : Int) : Int × Int := (a.fdiv (sg b (Nat.gcd a.natAbs b.natAbs : Nat)), b.fdiv (sg b (Nat.gcd a.natAbs b.natAbs : Nat)))
theorem low_spec {a b : Int} (hb : b ≠ 0) : ∃ p q k : Int, low a b = (p, q) ∧ k ≠ 0 ∧ a = p * k ∧ b = q * k ∧ 0 < q ∧ Nat.gcd p.natAbs q.natAbs = 1 := by
  obtain ⟨g, hg⟩ : ∃ g : Nat, g = Nat.gcd a.natAbs b.natAbs := ⟨_, rfl⟩
  have gp : 0 < g := by rw [hg]; exact Nat.gcd_pos_of_pos_right _ (by omega)
  have da : (g : Int) ∣ a := by rw [hg]; exact Int.ofNat_dvd_left.mpr (Nat.gcd_dvd_left _ _)
  have db : (g : Int) ∣ b := by rw [hg]; exact Int.ofNat_dvd_left.mpr (Nat.gcd_dvd_right _ _)
  obtain ⟨x, hx⟩ := da
  obtain ⟨y, hy⟩ := db
  have cop : Nat.gcd x.natAbs y.natAbs = 1 := by
    have e : g * Nat.gcd x.natAbs y.natAbs = g := by
      have e1 : a.natAbs = g * x.natAbs := by rw [hx, Int.natAbs_mul, Int.natAbs_natCast]
      have e2 : b.natAbs = g * y.natAbs := by rw [hy, Int.natAbs_mul, Int.natAbs_natCast]
      calc g * Nat.gcd x.natAbs y.natAbs = Nat.gcd (g * x.natAbs) (g * y.natAbs) := (Nat.gcd_mul_left _ _ _).symm
        _ = g := by rw [← e1, ← e2, ← hg]
    exact Nat.eq_of_mul_eq_mul_left gp (by rw [e, Nat.mul_one])
  have g0 : (g : Int) ≠ 0 := by omega
  have g1 : (0 : Int) < g := by omega
  unfold low sg
  rw [← hg]
  by_cases h : b < 0
  · rw [if_pos h]
    have ny : y < 0 := by
      rcases Int.lt_trichotomy y 0 with z | z | z
      · exact z
      · rw [z, Int.mul_zero] at hy; exact absurd hy hb
      · have := Int.mul_pos g1 z; omega
    have gn : (-(g : Int)) ≠ 0 := by omega
    refine ⟨-x, -y, -(g : Int), ?_, gn, by rw [hx, Int.neg_mul_neg, Int.mul_comm], by rw [hy, Int.neg_mul_neg, Int.mul_comm], by omega, by rw [Int.natAbs_neg, Int.natAbs_neg]; exact cop⟩
    have e1 : a = (-(g : Int)) * (-x) := by rw [hx, Int.neg_mul_neg]
    have e2 : b = (-(g : Int)) * (-y) := by rw [hy, Int.neg_mul_neg]
    rw [e1, e2, Int.mul_fdiv_cancel_left _ gn, Int.mul_fdiv_cancel_left _ gn]
  · rw [if_neg h]
    have py : 0 < y := by
      rcases Int.lt_trichotomy y 0 with z | z | z
      · have := Int.mul_neg_of_pos_of_neg g1 z; omega
      · rw [z, Int.mul_zero] at hy; exact absurd hy hb
      · exact z
    refine ⟨x, y, (g : Int), ?_, g0, by rw [hx, Int.mul_comm], by rw [hy, Int.mul_comm], py, cop⟩
    rw [hx, hy, Int.mul_fdiv_cancel_left _ g0, Int.mul_fdiv_cancel_left _ g0]
theorem low_uniq {a b p q : Int} (hb : b ≠ 0) (hq : 0 < q) (hc : Nat.gcd p.natAbs q.natAbs = 1) (h : a * q = p * b) : low a b = (p, q) := by
  obtain ⟨p', q', k, e, hk, ha, hb', hq', hc'⟩ := low_spec (a := a) hb
  have h1 : p' * q = p * q' := by
    have : (p' * q) * k = (p * q') * k := by
      calc (p' * q) * k = (p' * k) * q := by rw [Int.mul_assoc, Int.mul_comm q k, ← Int.mul_assoc]
        _ = p * b := by rw [← ha]; exact h
        _ = (p * q') * k := by rw [hb', Int.mul_assoc]
    exact Int.eq_of_mul_eq_mul_right hk this
  have n1 : p'.natAbs * q.natAbs = p.natAbs * q'.natAbs := by rw [← Int.natAbs_mul, ← Int.natAbs_mul, h1]
  have d1 : q.natAbs ∣ q'.natAbs := by
    have : q.natAbs ∣ p.natAbs * q'.natAbs := ⟨p'.natAbs, by rw [← n1, Nat.mul_comm]⟩
    exact (Nat.Coprime.dvd_of_dvd_mul_left (Nat.coprime_comm.mp hc) this)
  have d2 : q'.natAbs ∣ q.natAbs := by
    have : q'.natAbs ∣ p'.natAbs * q.natAbs := ⟨p.natAbs, by rw [n1, Nat.mul_comm]⟩
    exact (Nat.Coprime.dvd_of_dvd_mul_left (Nat.coprime_comm.mp hc') this)
  have eq : q' = q := by
    have := Nat.dvd_antisymm d1 d2
    omega
  subst eq
  have ep : p' = p := Int.eq_of_mul_eq_mul_right (by omega) h1
  rw [e, ep]
theorem sg_spec (a : Int) {b : Int} (hb : b ≠ 0) (sb : sm b) : sg b (Nat.gcd a.natAbs b.natAbs : Nat) ≠ 0 ∧ (sg b (Nat.gcd a.natAbs b.natAbs : Nat)).natAbs.log2 < 9000 := by
  have g0 : Nat.gcd a.natAbs b.natAbs ≠ 0 := Nat.gcd_ne_zero_right (by omega)
  have gs : Nat.gcd a.natAbs b.natAbs ≤ b.natAbs := Nat.gcd_le_right _ (by omega)
  have l : (Nat.gcd a.natAbs b.natAbs).log2 < 9000 := by
    have : sm ((Nat.gcd a.natAbs b.natAbs : Nat) : Int) := sm_nat gs sb
    have z := this.fd
    rwa [Int.natAbs_natCast] at z
  unfold sg
  split
  · exact ⟨by omega, by rw [Int.natAbs_neg, Int.natAbs_natCast]; exact l⟩
  · exact ⟨by omega, by rw [Int.natAbs_natCast]; exact l⟩
theorem frac_eq {a b : Int} (hb : b ≠ 0) (sb : sm b) : m__law_fraction [.int a, .int b] = .ok (pair (low a b)) := by
  obtain ⟨h1, h2⟩ := sg_spec a hb sb
  have l2 : 2 ≤ sizeLine := by decide
  unfold pair low
  by_cases h : b < 0
  · have e : sg b (Nat.gcd a.natAbs b.natAbs : Nat) = -((Nat.gcd a.natAbs b.natAbs : Nat) : Int) := if_pos h
    rw [e] at h1 h2 ⊢
    have dv := fun i => o_fdiv (i := i) h1 h2
    revert dv
    generalize hg : ((Nat.gcd a.natAbs b.natAbs : Nat) : Int) = g
    intro dv
    have ge := gcd_eq a b
    rw [hg] at ge
    simp [m__law_fraction, runB, ge, h, dv, l2]
  · have e : sg b (Nat.gcd a.natAbs b.natAbs : Nat) = ((Nat.gcd a.natAbs b.natAbs : Nat) : Int) := if_neg h
    rw [e] at h1 h2 ⊢
    have dv := fun i => o_fdiv (i := i) h1 h2
    revert dv
    generalize hg : ((Nat.gcd a.natAbs b.natAbs : Nat) : Int) = g
    intro dv
    have ge := gcd_eq a b
    rw [hg] at ge
    simp [m__law_fraction, runB, ge, h, dv, l2]
def cmpI (l r : Int) : Int := if l < r then -1 else if r < l then 1 else 0
theorem o_mulS {i j : Int} (h : sm i) (k : sm j) : oMul (.int i) (.int j) = some (.int (i * j)) := o_mul (h.mu k)
theorem fInt_bl (b : Bool) : fInt [.bl b] = some (.int (if b = true then 1 else 0)) := rfl
theorem sign_eq {p q r s : Int} (h1 : sm p) (h2 : sm q) (h3 : sm r) (h4 : sm s) : m__law_sign [pair (p, q), pair (r, s)] = .ok (.int (cmpI (p * s) (r * q))) := by
  have e1 := o_mulS h1 h4
  have e2 := o_mulS h3 h2
  revert e1 e2
  unfold pair
  generalize p * s = x
  generalize r * q = y
  intro e1 e2
  unfold cmpI
  by_cases h : x < y
  · have h' : ¬ y < x := by omega
    simp [m__law_sign, runB, e1, e2, h, h', fInt_bl]
  · by_cases h' : y < x
    · simp [m__law_sign, runB, e1, e2, h, h', fInt_bl]
    · simp [m__law_sign, runB, e1, e2, h, h', fInt_bl]
/-! ### sums of products -/
def dotI (xs ys : List Int) : Int := (List.zipWith (· * ·) xs ys).sum
theorem zip_range (xs ys : List Int) (h : ys.length = xs.length) : List.zipWith (· * ·) xs ys = (List.range xs.length).map fun k => xs.getD k 0 * ys.getD k 0 := by
  apply List.ext_getElem
  · simp [h]
  · intro i h1 h2
    simp only [List.length_zipWith] at h1
    have a : i < xs.length := by omega
    have b : i < ys.length := by omega
    simp [a, b]
theorem dot_core {xs ys : List Int} (hl : ys.length = xs.length) (hx : ∀ x ∈ xs, sm x) (hy : ∀ y ∈ ys, sm y) (hn : xs.length ≤ 1000) {ρ : List Sl} (h0 : ρ[0]? = some (.d (tupI xs))) (h1 : ρ[1]? = some (.d (tupI ys))) (h2 : 2 < ρ.length) :
    compL (gN 2) cYes (eOp oMul (eOp oIx (eV 0) (eV 2)) (eOp oIx (eV 1) (eV 2))) ρ ((List.range xs.length).map nat) = .ok ((List.zipWith (· * ·) xs ys).map D.int) := by
  rw [lc_map nat (fun k => .int (xs.getD k 0 * ys.getD k 0)), zip_range xs ys hl, List.map_map]
  · rfl
  · intro k hk
    have hk : k < xs.length := List.mem_range.mp hk
    have i1 := ixT (xs := xs.map D.int) (k := k) (d := .int (xs.getD k 0)) (by simp [hk])
    have i2 := ixT (xs := ys.map D.int) (k := k) (d := .int (ys.getD k 0)) (by simp [show k < ys.length by omega])
    have a1 : sm (xs.getD k 0) := hx _ (by simp [hk])
    have a2 : sm (ys.getD k 0) := hy _ (by simp [show k < ys.length by omega])
    have e := o_mulS a1 a2
    refine ⟨_, rfl, ?_⟩
    have g0 : (ρ.set 2 (.d (nat k)))[0]? = some (.d (tupI xs)) := by rw [List.getElem?_set_ne (by decide)]; exact h0
    have g1 : (ρ.set 2 (.d (nat k)))[1]? = some (.d (tupI ys)) := by rw [List.getElem?_set_ne (by decide)]; exact h1
    have g2 : (ρ.set 2 (.d (nat k)))[2]? = some (.d (nat k)) := by rw [List.getElem?_set_self h2]
    rw [ev_Op, ev_Op, ev_V 0 g0, ev_V 2 g2, ev_Op, ev_V 1 g1, ev_V 2 g2]
    simp only [bind_ok, nat, i1, i2, lift_some, e]
theorem ldot_eq {xs ys : List Int} (hl : ys.length = xs.length) (hx : ∀ x ∈ xs, sm x) (hy : ∀ y ∈ ys, sm y) (hn : xs.length ≤ 1000) : m__law_dot [tupI xs, tupI ys] = .ok (.int (dotI xs ys)) := by
  have sb := size_big
  have hr := rg1 (n := xs.length) (by omega) (as := aCons (eFn fLen (aCons (eV 0) (aNil))) (aNil)) (ρ := [.d (tupI xs), .d (tupI ys), .no]) (by simp)
  have hc := dot_core hl hx hy hn (ρ := [.d (tupI xs), .d (tupI ys), .no]) rfl rfl (by simp)
  have hz : xs.length ≤ sizeLine := by omega
  unfold dotI
  revert hc
  generalize List.zipWith (· * ·) xs ys = zs
  intro hc
  simp [m__law_dot, runB, -iv_R1, hr, hc, hz]
end L2.DL.MM
/-! lots of the program -/
namespace L2.DL.MM
open PySem PyProof.Rows PySem.Spec
theorem bitD (n v : Nat) : decide ((((n / 2 ^ v) &&& 1 : Nat) : Int) = 1) = n.testBit v := by
  rw [Bool.eq_iff_iff, decide_eq_true_eq, ← bit_at]
  omega
/-- the bits of a number -/
theorem bits_core {n many : Nat} {ρ : List Sl} (h0 : ρ[0]? = some (.d (nat n))) (h2 : 2 < ρ.length) :
    compL (gN 2) (cE (eOp oEq (eOp oBand (eOp oShr (eV 0) (eV 2)) (eC (.int 1))) (eC (.int 1)))) (eV 2) ρ ((List.range many).map nat) = .ok ((lotN n many).map nat) := by
  rw [lc_filter nat (fun v => n.testBit v) nat]
  · rfl
  · intro v hv
    have g0 : (ρ.set 2 (.d (nat v)))[0]? = some (.d (nat n)) := by rw [List.getElem?_set_ne (by decide)]; exact h0
    have g2 : (ρ.set 2 (.d (nat v)))[2]? = some (.d (nat v)) := by rw [List.getElem?_set_self h2]
    have e1 := o_shrN n v
    have e2 := o_bandN (n / 2 ^ v) 1
    refine ⟨_, rfl, ?_, fun _ => by rw [ev_V 2 g2]⟩
    rw [ev_E, ev_Op, ev_Op, ev_Op, ev_V 0 g0, ev_V 2 g2]
    simp only [bind_ok, nat, e1, lift_some, ev_C]
    rw [show (D.int 1) = D.int ((1 : Nat) : Int) from rfl, e2]
    simp only [lift_some, bind_ok, q_int, tb_bl]
    exact congrArg Res.ok (bitD n v)
theorem lot_of_eq {n many : Nat} (hm : many ≤ 1000) : m_lot_of [nat n, nat many] = .ok (lotD (lotN n many)) := by
  have hr := rg1 (n := many) (by omega) (as := aCons (eV 1) (aNil)) (ρ := [.d (nat n), .d (nat many), .no]) rfl
  have hc := bits_core (n := n) (many := many) (ρ := [.d (nat n), .d (nat many), .no]) rfl (by simp)
  have hz : many ≤ sizeLine := by have := size_big; omega
  unfold lotD
  revert hc
  generalize lotN n many = l
  intro hc
  simp [m_lot_of, runB, -iv_R1, hr, hc, hz]
theorem voters_eq {n many : Nat} (hm : many ≤ 1000) : m__law_voters [nat n, nat many] = .ok (lotD (lotN n many)) := lot_of_eq hm
/-- the number of a lot -/
theorem number_loop {d : D} {l : List Nat} (hl : ∀ v ∈ l, v ≤ 1000) : Ev (forL (gN 2) (sAsg (eOp oAdd (eV 1) (eOp oShl (eC (.int 1)) (eV 2))) (gN 1)) (l.map nat) [.d d, .d (.int 0), .no]) fun o => ∃ ρ', o = .nx ρ' ∧ ∃ z, ρ' = [.d d, .d (nat (numN l)), z] := by
  refine (ev_for nat l (fun p ρ => ∃ z, ρ = [.d d, .d (nat (numN p)), z]) ?_ ⟨.no, rfl⟩).imp fun o ho => ho
  rintro p x q ρ e ⟨z, rfl⟩
  have hx : x ≤ 1000 := hl x (by rw [e]; simp)
  have e1 := o_shl1 hx
  have en : numN (p ++ [x]) = numN p + 2 ^ x := by unfold numN; simp
  refine ⟨[.d d, .d (nat (numN p)), .d (nat x)], rfl, ?_⟩
  simp [nat, e1, en]
theorem lot_number_eq {l : List Nat} (hl : ∀ v ∈ l, v ≤ 1000) : m_lot_number [lotD l] = .ok (nat (numN l)) := by
  obtain ⟨o, e, ρ', rfl, z, rfl⟩ := (number_loop (d := lotD l) hl).get
  unfold lotD at e ⊢
  simp [m_lot_number, runB, e]
theorem lnumber_eqT {l : List Nat} (hl : ∀ v ∈ l, v ≤ 1000) : m__law_number [lotD l] = .ok (nat (numN l)) := lot_number_eq hl
theorem lnumber_eqL {l : List Nat} (hl : ∀ v ∈ l, v ≤ 1000) : m__law_number [.lst (l.map nat)] = .ok (nat (numN l)) := by
  obtain ⟨o, e, ρ', rfl, z, rfl⟩ := (number_loop (d := .lst (l.map nat)) hl).get
  simp [m__law_number, runB, e]
theorem is_lot_eq {l : List Nat} {many : Nat} (hs : l.Pairwise (· < ·)) (hl : ∀ v ∈ l, v < many) : m_is_lot [lotD l, nat many] = .ok (.bl true) := by
  have key : Ev (forL (gN 3) (sSeq (sIf (cOr (cE (eOp oLe (eV 3) (eV 2))) (cE (eOp oGe (eV 3) (eV 1)))) (sRet (eC (.bl false))) (sNx)) (sAsg (eV 3) (gN 2))) (l.map nat) [.d (lotD l), .d (nat many), .d (.int (-1)), .no]) fun o => ∃ ρ', o = .nx ρ' ∧ ∃ a z, ρ' = [.d (lotD l), .d (nat many), .d (.int a), z] := by
    refine (ev_for nat l (fun p ρ => ∃ a z, ρ = [.d (lotD l), .d (nat many), .d (.int a), z] ∧ ∀ v ∈ (l.drop p.length), a < (v : Int)) ?_ ⟨-1, .no, rfl, fun v _ => by omega⟩).imp fun o ⟨ρ', e, a, z, h, _⟩ => ⟨ρ', e, a, z, h⟩
    rintro p x q ρ e ⟨a, z, rfl, ha⟩
    have hd : l.drop p.length = x :: q := by rw [e]; simp
    have h1 : a < (x : Int) := ha x (by rw [hd]; simp)
    have h2 : x < many := hl x (by rw [e]; simp)
    have hq : ∀ v ∈ q, x < v := by
      rw [e] at hs
      exact (List.pairwise_cons.mp (List.pairwise_append.mp hs).2.1).1
    refine ⟨[.d (lotD l), .d (nat many), .d (.int a), .d (nat x)], rfl, ?_⟩
    have n1 : ¬ ((x : Int) ≤ a) := by omega
    have n2 : ¬ ((many : Int) ≤ (x : Int)) := by omega
    simp only [sv_Seq, sv_If, ev_Or, ev_E, ev_Op, nat]
    simp [n1, n2]
    intro v hv
    have e2 : l.drop (p.length + 1) = q := by
      rw [← List.drop_drop, hd]; rfl
    rw [e2] at hv
    have := hq v hv
    omega
  obtain ⟨o, e, ρ', rfl, a, z, rfl⟩ := key.get
  unfold lotD at e ⊢
  simp [m_is_lot, runB, e]
/-! ### books -/
def boolD (f : Nat → Bool) (n : Nat) : D := .bl (f n)
def bookD (f : Nat → Bool) (k : Nat) : List D := (List.range k).map (boolD f)
theorem book_at {f : Nat → Bool} {k n : Nat} (h : n < k) : (bookD f k)[n]? = some (.bl (f n)) := by
  unfold bookD boolD
  simp [h]
theorem book_len (f : Nat → Bool) (k : Nat) : (bookD f k).length = k := by simp [bookD]
/-- a lot with one voter less, in a book of k lots -/
theorem smaller_core {B : D} {f : Nat → Bool} {k n many : Nat} (hB : ∀ j, j < k → oIx B (nat j) = some (.bl (f j))) (hk : n ≤ k) (hm : many ≤ 1000) : m_smaller_wins [B, nat n, nat many] = .ok (.bl (sw f many n)) := by
  have hr := rg1 (n := many) (by omega) (as := aCons (eV 2) (aNil)) (ρ := [.d B, .d (nat n), .d (nat many), .no]) rfl
  have key := ev_forT (g := gN 3) (body := sIf (cAnd (cE (eOp oEq (eOp oBand (eOp oShr (eV 1) (eV 3)) (eC (.int 1))) (eC (.int 1)))) (cE (eOp oIx (eV 0) (eOp oSub (eV 1) (eOp oShl (eC (.int 1)) (eV 3)))))) (sRet (eC (.bl true))) (sNx)) (ρ := [.d B, .d (nat n), .d (nat many), .no])
    nat (List.range many) (fun p ρ => (∃ z, ρ = [.d B, .d (nat n), .d (nat many), z]) ∧ (p.any fun v => n.testBit v && f (n - 2 ^ v)) = false) (fun d => d = .bl true ∧ sw f many n = true) (by
      rintro p x q ρ e ⟨⟨z, rfl⟩, hp⟩
      have hx : x < many := List.mem_range.mp (by rw [e]; simp)
      refine ⟨[.d B, .d (nat n), .d (nat many), .d (nat x)], rfl, ?_⟩
      have e1 := o_shrN n x
      have e2 := o_bandN (n / 2 ^ x) 1
      have e3 := o_shl1 (k := x) (by omega)
      have c : cE (eOp oEq (eOp oBand (eOp oShr (eV 1) (eV 3)) (eC (.int 1))) (eC (.int 1))) [.d B, .d (nat n), .d (nat many), .d (nat x)] = .ok (n.testBit x) := by
        rw [← bitD n x]
        simp only [ev_V, ev_Op, ev_Un, ev_C, ev_E, ev_And, ev_Or, ev_Not, ev_If, ev_eAnd, ev_eOr, ev_eNot, ev_Fn, ev_Cons, ev_Nil, ev_Call, ev_CallN, ev_Yes, ev_Fld, sv_Seq, sv_If, sv_Ret, sv_Asg, sv_Nx, sv_For, gv_N, bind_ok, lift_some, nox_ok1, tb_bl, if_true, if_false, Bool.false_eq_true, List.getElem?_cons_succ, List.getElem?_cons_zero, List.set_cons_succ, List.set_cons_zero, Option.some.injEq, Sl.d.injEq, Option.bind_some, runE_rt, runE_nx, Ev_ok, wi_cons, wi_nil, List.replicate, decide_true, decide_false, nat, e1]
        rw [show (D.int 1) = D.int ((1 : Nat) : Int) from rfl, e2]
        simp only [ev_V, ev_Op, ev_Un, ev_C, ev_E, ev_And, ev_Or, ev_Not, ev_If, ev_eAnd, ev_eOr, ev_eNot, ev_Fn, ev_Cons, ev_Nil, ev_Call, ev_CallN, ev_Yes, ev_Fld, sv_Seq, sv_If, sv_Ret, sv_Asg, sv_Nx, sv_For, gv_N, bind_ok, lift_some, nox_ok1, tb_bl, if_true, if_false, Bool.false_eq_true, List.getElem?_cons_succ, List.getElem?_cons_zero, List.set_cons_succ, List.set_cons_zero, Option.some.injEq, Sl.d.injEq, Option.bind_some, runE_rt, runE_nx, Ev_ok, wi_cons, wi_nil, List.replicate, decide_true, decide_false, q_int]
        rfl
      rw [sv_If, ev_And, c]
      simp only [bind_ok]
      cases hb : n.testBit x with
      | false =>
        simp only [Bool.false_eq_true, if_false, bind_ok, sv_Nx, Ev_ok]
        refine ⟨⟨_, rfl⟩, ?_⟩
        rw [List.any_append, hp]
        simp [hb]
      | true =>
        have ge := bit_ge hb
        have pp : 0 < 2 ^ x := Nat.pow_pos (by decide)
        have ix := hB (n - 2 ^ x) (by omega)
        have es : ((n : Int) - ((2 ^ x : Nat) : Int)) = ((n - 2 ^ x : Nat) : Int) := by omega
        have c2 : cE (eOp oIx (eV 0) (eOp oSub (eV 1) (eOp oShl (eC (.int 1)) (eV 3)))) [.d B, .d (nat n), .d (nat many), .d (nat x)] = .ok (f (n - 2 ^ x)) := by
          unfold nat at ix
          simp only [ev_V, ev_Op, ev_Un, ev_C, ev_E, ev_And, ev_Or, ev_Not, ev_If, ev_eAnd, ev_eOr, ev_eNot, ev_Fn, ev_Cons, ev_Nil, ev_Call, ev_CallN, ev_Yes, ev_Fld, sv_Seq, sv_If, sv_Ret, sv_Asg, sv_Nx, sv_For, gv_N, bind_ok, lift_some, nox_ok1, tb_bl, if_true, if_false, Bool.false_eq_true, List.getElem?_cons_succ, List.getElem?_cons_zero, List.set_cons_succ, List.set_cons_zero, Option.some.injEq, Sl.d.injEq, Option.bind_some, runE_rt, runE_nx, Ev_ok, wi_cons, wi_nil, List.replicate, decide_true, decide_false, nat, e3, o_sub, es, ix]
        simp only [if_true, c2, bind_ok]
        cases hf : f (n - 2 ^ x) with
        | false =>
          simp only [Bool.false_eq_true, if_false, sv_Nx, Ev_ok]
          refine ⟨⟨_, rfl⟩, ?_⟩
          rw [List.any_append, hp]
          simp [hf]
        | true =>
          simp only [if_true, sv_Ret, ev_C, bind_ok, Ev_ok]
          exact ⟨by trivial, sw_iff.mpr ⟨x, hx, hb, hf⟩⟩) ⟨⟨_, rfl⟩, rfl⟩
  obtain ⟨o, e, h⟩ := key.get
  rcases h with ⟨ρ', rfl, ⟨z, rfl⟩, hp⟩ | ⟨d, rfl, rfl, hs⟩
  · have hs : sw f many n = false := hp
    rw [hs]
    simp [m_smaller_wins, runB, -iv_R1, hr, e]
  · rw [hs]
    simp [m_smaller_wins, runB, -iv_R1, hr, e]
theorem smaller_lst {f : Nat → Bool} {k n many : Nat} (hk : n ≤ k) (hm : many ≤ 1000) : m_smaller_wins [.lst (bookD f k), nat n, nat many] = .ok (.bl (sw f many n)) := smaller_core (k := k) (fun j hj => ixL (book_at hj)) hk hm
theorem smaller_tup {f : Nat → Bool} {k n many : Nat} (hk : n ≤ k) (hm : many ≤ 1000) : m_smaller_wins [.tup (bookD f k), nat n, nat many] = .ok (.bl (sw f many n)) := smaller_core (k := k) (fun j hj => ixT (book_at hj)) hk hm
theorem pow9 {many : Nat} (h : many ≤ 9) : 2 ^ many ≤ 512 := Nat.le_trans (Nat.pow_le_pow_right (by decide) h) (by decide)
/-- the book of told lots -/
theorem book_eq {many : Nat} (hm : many ≤ 9) (ms : List Nat) (hl : ms.length ≤ 1000000) : m_winning_book [nat many, .lst (ms.map nat)] = .ok (.tup (bookD (clos ms) (2 ^ many))) := by
  have p9 := pow9 hm
  have sb := size_big
  have hr : ∀ kvs, iR1 (aCons (eOp oShl (eC (.int 1)) (eV 0)) (aNil)) [.d (nat many), .d (.lst (ms.map nat)), .d (.dct kvs), .bl [], .no] = .ok ((List.range (2 ^ many)).map nat) := fun kvs => rg1 (by omega) (by
    have e3 := o_shl1 (k := many) (by omega)
    simp [nat, e3])
  obtain ⟨kvs, ed, hk⟩ := dc_keys (g := gN 4) (tk := eV 4) (tv := eC (.bl true)) (ρ := [.d (nat many), .d (.lst (ms.map nat)), .no, .no, .no]) (v := .bl true) ms [] (fun n _ => ⟨_, rfl, rfl, rfl⟩)
  have hk : ∀ j : Nat, (lookK kvs (.inl (j : Int))).isSome = decide (j ∈ ms) := fun j => by
    rw [hk j]
    simp [lookK]
  have key := ev_for (g := gN 4) (body := sApp 3 (eOr (eOp oIn (eV 4) (eV 2)) (eAtom 3 (eCallN m_smaller_wins (aCons (eV 3) (aCons (eV 4) (aCons (eV 0) (aNil)))))))) (ρ := [.d (nat many), .d (.lst (ms.map nat)), .d (.dct kvs), .bl [], .no])
    nat (List.range (2 ^ many)) (fun p ρ => ∃ z, ρ = [.d (nat many), .d (.lst (ms.map nat)), .d (.dct kvs), .bl (bookD (clos ms) p.length), z]) (by
      rintro p x q ρ e ⟨z, rfl⟩
      have hx : x < 2 ^ many := List.mem_range.mp (by rw [e]; simp)
      have hp : p.length = x := by
        have : (List.range (2 ^ many))[p.length]? = some x := by rw [e]; simp
        rw [List.getElem?_range] at this
        · exact Option.some.inj this
        · have hl := congrArg List.length e
          simp at hl
          omega
      refine ⟨[.d (nat many), .d (.lst (ms.map nat)), .d (.dct kvs), .bl (bookD (clos ms) p.length), .d (nat x)], rfl, ?_⟩
      have i1 : oIn (nat x) (.dct kvs) = some (.bl (decide (x ∈ ms))) := by
        show ((keyD (nat x)).map fun k => (lookK kvs k).isSome).map D.bl = _
        show some (D.bl (lookK kvs (.inl (x : Int))).isSome) = _
        rw [hk]
      have s1 := smaller_lst (f := clos ms) (k := p.length) (n := x) (many := many) (by omega) (by omega)
      have v : eOr (eOp oIn (eV 4) (eV 2)) (eAtom 3 (eCallN m_smaller_wins (aCons (eV 3) (aCons (eV 4) (aCons (eV 0) (aNil)))))) [.d (nat many), .d (.lst (ms.map nat)), .d (.dct kvs), .bl (bookD (clos ms) p.length), .d (nat x)] = .ok (.bl (clos ms x)) := by
        rw [clos_step hx, ev_eOr, ev_Op]
        simp only [ev_V, ev_Op, ev_Un, ev_C, ev_E, ev_And, ev_Or, ev_Not, ev_If, ev_eAnd, ev_eOr, ev_eNot, ev_Fn, ev_Cons, ev_Nil, ev_Call, ev_CallN, ev_Yes, ev_Fld, sv_Seq, sv_If, sv_Ret, sv_Asg, sv_Nx, sv_For, gv_N, bind_ok, lift_some, nox_ok1, tb_bl, if_true, if_false, Bool.false_eq_true, List.getElem?_cons_succ, List.getElem?_cons_zero, List.set_cons_succ, List.set_cons_zero, Option.some.injEq, Sl.d.injEq, Option.bind_some, runE_rt, runE_nx, Ev_ok, wi_cons, wi_nil, List.replicate, decide_true, decide_false, i1]
        cases hin : decide (x ∈ ms) with
        | true => rfl
        | false =>
          simp only [Bool.false_eq_true, if_false, Bool.false_or]
          rw [ev_Atom 3 rfl]
          simp only [ev_V, ev_Op, ev_Un, ev_C, ev_E, ev_And, ev_Or, ev_Not, ev_If, ev_eAnd, ev_eOr, ev_eNot, ev_Fn, ev_Cons, ev_Nil, ev_Call, ev_CallN, ev_Yes, ev_Fld, sv_Seq, sv_If, sv_Ret, sv_Asg, sv_Nx, sv_For, gv_N, bind_ok, lift_some, nox_ok1, tb_bl, if_true, if_false, Bool.false_eq_true, List.getElem?_cons_succ, List.getElem?_cons_zero, List.set_cons_succ, List.set_cons_zero, Option.some.injEq, Sl.d.injEq, Option.bind_some, runE_rt, runE_nx, Ev_ok, wi_cons, wi_nil, List.replicate, decide_true, decide_false, s1]
          rfl
      have hz : (bookD (clos ms) p.length).length < sizeLine := by rw [book_len]; omega
      rw [sv_App 3 (xs := bookD (clos ms) p.length) rfl, v]
      simp only [bind_ok]
      rw [if_pos hz, Ev_ok]
      refine ⟨.d (nat x), ?_⟩
      have eb : bookD (clos ms) (p ++ [x]).length = bookD (clos ms) p.length ++ [.bl (clos ms x)] := by
        unfold bookD
        rw [List.length_append, List.length_singleton, List.range_succ, List.map_append, hp]
        rfl
      rw [eb]
      rfl) ⟨.no, rfl⟩
  obtain ⟨o, e, ρ', rfl, z, rfl⟩ := key.get
  rw [List.length_range] at e
  have hz : ms.length ≤ sizeLine := by omega
  have hb : (bookD (clos ms) (2 ^ many)).length = 2 ^ many := book_len _ _
  unfold m_winning_book
  rw [run2]
  simp only [ev_V, ev_Op, ev_Un, ev_C, ev_E, ev_And, ev_Or, ev_Not, ev_If, ev_eAnd, ev_eOr, ev_eNot, ev_Fn, ev_Cons, ev_Nil, ev_Call, ev_CallN, ev_Yes, ev_Fld, sv_Seq, sv_If, sv_Ret, sv_Asg, sv_Nx, sv_For, gv_N, bind_ok, lift_some, nox_ok1, tb_bl, if_true, if_false, Bool.false_eq_true, List.getElem?_cons_succ, List.getElem?_cons_zero, List.set_cons_succ, List.set_cons_zero, Option.some.injEq, Sl.d.injEq, Option.bind_some, runE_rt, runE_nx, Ev_ok, wi_cons, wi_nil, List.replicate, decide_true, decide_false, ev_Dc, iv_Sq, it_lst, List.length_map, Nat.reduceSub]
  rw [if_pos hz, ed]
  simp only [ev_V, ev_Op, ev_Un, ev_C, ev_E, ev_And, ev_Or, ev_Not, ev_If, ev_eAnd, ev_eOr, ev_eNot, ev_Fn, ev_Cons, ev_Nil, ev_Call, ev_CallN, ev_Yes, ev_Fld, sv_Seq, sv_If, sv_Ret, sv_Asg, sv_Nx, sv_For, gv_N, bind_ok, lift_some, nox_ok1, tb_bl, if_true, if_false, Bool.false_eq_true, List.getElem?_cons_succ, List.getElem?_cons_zero, List.set_cons_succ, List.set_cons_zero, Option.some.injEq, Sl.d.injEq, Option.bind_some, runE_rt, runE_nx, Ev_ok, wi_cons, wi_nil, List.replicate, decide_true, decide_false, sv_NewL, List.length_cons, List.length_nil, Nat.reduceAdd, Nat.reduceLT, Nat.zero_le, and_self, hr kvs, e]
  rw [sv_FrzL 3 (xs := bookD (clos ms) (2 ^ many)) rfl]
  simp only [ev_V, ev_Op, ev_Un, ev_C, ev_E, ev_And, ev_Or, ev_Not, ev_If, ev_eAnd, ev_eOr, ev_eNot, ev_Fn, ev_Cons, ev_Nil, ev_Call, ev_CallN, ev_Yes, ev_Fld, sv_Seq, sv_If, sv_Ret, sv_Asg, sv_Nx, sv_For, gv_N, bind_ok, lift_some, nox_ok1, tb_bl, if_true, if_false, Bool.false_eq_true, List.getElem?_cons_succ, List.getElem?_cons_zero, List.set_cons_succ, List.set_cons_zero, Option.some.injEq, Sl.d.injEq, Option.bind_some, runE_rt, runE_nx, Ev_ok, wi_cons, wi_nil, List.replicate, decide_true, decide_false, f_tupL]
end L2.DL.MM
/-! rules of the program -/
namespace L2.DL.MM
open PySem PyProof.Rows PySem.Spec
theorem lot_order_eq (l : List Nat) : m_lot_order [lotD l] = .ok (.tup [nat l.length, lotD l]) := by
  unfold m_lot_order
  rw [run1]
  have l2 : ∀ x y : D, oTup [x, y] = some (.tup [x, y]) := fun x y => o_tup (by show 2 ≤ sizeLine; decide)
  have fl : fLen [lotD l] = some (nat l.length) := by
    unfold lotD
    rw [f_lenT, List.length_map]
    rfl
  simp only [ev_V, ev_Op, ev_Un, ev_C, ev_E, ev_And, ev_Or, ev_Not, ev_If, ev_eAnd, ev_eOr, ev_eNot, ev_Fn, ev_Cons, ev_Nil, ev_Call, ev_CallN, ev_Yes, ev_Fld, sv_Seq, sv_If, sv_Ret, sv_Asg, sv_Nx, sv_For, gv_N, bind_ok, lift_some, nox_ok1, tb_bl, if_true, if_false, Bool.false_eq_true, List.getElem?_cons_succ, List.getElem?_cons_zero, List.set_cons_succ, List.set_cons_zero, Option.some.injEq, Sl.d.injEq, Option.bind_some, runE_rt, runE_nx, Ev_ok, wi_cons, wi_nil, List.replicate, decide_true, decide_false, fl, l2]
theorem nat_int (l : List Nat) : l.map nat = (l.map fun k : Nat => (k : Int)).map D.int := by rw [List.map_map]; rfl
theorem lot_dep (l : List Nat) (n : Nat) : (lotD l).dep (n + 1) = true := by
  unfold lotD
  rw [nat_int]
  exact dep_ints _ n
theorem lot_py (l : List Nat) (n : Nat) : (lotD l).py (n + 1) = .tuple ((l.map fun k : Nat => (k : Int)).map PyData.int) := by
  unfold lotD
  show PyData.tuple ((l.map nat).map (D.py n)) = _
  (rw [List.map_map, List.map_map])
  congr 1
  apply List.map_congr_left
  intro k _
  cases n <;> rfl
def keyL (l : List Nat) : D := .tup [nat l.length, lotD l]
theorem keyL_py (l : List Nat) : (keyL l).py 29 = .tuple [.int (l.length : Int), .tuple ((l.map fun k : Nat => (k : Int)).map PyData.int)] := by
  show PyData.tuple [(nat l.length).py 28, (lotD l).py 28] = _
  rw [lot_py]
  rfl
theorem sort_lots (ls : List (List Nat)) : ∃ ls' : List (List Nat), fSortK m_lot_order [.lst (ls.map lotD)] = some (.lst (ls'.map lotD)) ∧ ls'.Perm ls := by
  have hk := keysD_map (m := m_lot_order) lotD keyL ls fun l _ => lot_order_eq l
  have hb : sortB (ls.map keyL) = true := sortB_of keyL ls (fun l _ => ⟨rfl, by
    show ([nat l.length, lotD l].all (D.dep 28)) = true
    rw [List.all_cons, List.all_cons, lot_dep]
    rfl⟩) fun l _ l' _ => by
      rw [keyL_py, keyL_py]
      have e := PySem.W.alike_ints (l.map fun k : Nat => (k : Int)) (l'.map fun k : Nat => (k : Int))
      revert e
      generalize (l.map fun k : Nat => (k : Int)).map PyData.int = a
      generalize (l'.map fun k : Nat => (k : Int)).map PyData.int = b
      intro e
      simp [PySem.W.alike, PySem.W.alikeAll, e]
  have p := sortK_perm (xs := ls.map lotD) (ks := ls.map keyL) (by simp)
  obtain ⟨ls', e, p'⟩ := perm_map_inv p rfl
  refine ⟨ls', ?_, p'⟩
  show (keysD m_lot_order (ls.map lotD)).bind _ = _
  rw [hk]
  show (if sortB (ls.map keyL) = true then some (D.lst (sortK (ls.map lotD) (ls.map keyL))) else none) = _
  rw [if_pos hb, e]
def lotsD (ms : List Nat) (many : Nat) : D := .tup (ms.map fun m => lotD (lotN m many))
/-- the least lots of a book: B a list or a tuple -/
theorem least_core {B : D} {f : Nat → Bool} {many : Nat} (hm : many ≤ 9) (hl : fLen [B] = some (nat (2 ^ many))) (hB : ∀ j, j < 2 ^ many → oIx B (nat j) = some (.bl (f j))) (hs : ∀ n, n < 2 ^ many → m_smaller_wins [B, nat n, nat many] = .ok (.bl (sw f many n))) :
    ∃ ms, m_least_lots [nat many, B] = .ok (lotsD ms many) ∧ ms.Perm (minls f many) := by
  have p9 := pow9 hm
  have sb := size_big
  have hr := rg1 (n := 2 ^ many) (by omega) (as := aCons (eFn fLen (aCons (eV 1) (aNil))) (aNil)) (ρ := [.d (nat many), .d B, .no, .no]) (by
    simp only [ev_V, ev_Op, ev_Un, ev_C, ev_E, ev_And, ev_Or, ev_Not, ev_If, ev_eAnd, ev_eOr, ev_eNot, ev_Fn, ev_Cons, ev_Nil, ev_Call, ev_CallN, ev_Yes, ev_Fld, sv_Seq, sv_If, sv_Ret, sv_Asg, sv_Nx, sv_For, gv_N, bind_ok, lift_some, nox_ok1, tb_bl, if_true, if_false, Bool.false_eq_true, List.getElem?_cons_succ, List.getElem?_cons_zero, List.set_cons_succ, List.set_cons_zero, Option.some.injEq, Sl.d.injEq, Option.bind_some, runE_rt, runE_nx, Ev_ok, wi_cons, wi_nil, List.replicate, decide_true, decide_false, hl]
    rfl)
  have hc : compL (gN 3) (cAnd (cE (eOp oIx (eV 1) (eV 3))) (cNot (cE (eCallN m_smaller_wins (aCons (eV 1) (aCons (eV 3) (aCons (eV 0) (aNil)))))))) (eV 3) [.d (nat many), .d B, .no, .no] ((List.range (2 ^ many)).map nat) = .ok ((minls f many).map nat) := by
    rw [lc_filter nat (minl f many) nat]
    · rfl
    · intro n hn
      have hn : n < 2 ^ many := List.mem_range.mp hn
      refine ⟨[.d (nat many), .d B, .no, .d (nat n)], rfl, ?_, fun _ => rfl⟩
      simp only [ev_V, ev_Op, ev_Un, ev_C, ev_E, ev_And, ev_Or, ev_Not, ev_If, ev_eAnd, ev_eOr, ev_eNot, ev_Fn, ev_Cons, ev_Nil, ev_Call, ev_CallN, ev_Yes, ev_Fld, sv_Seq, sv_If, sv_Ret, sv_Asg, sv_Nx, sv_For, gv_N, bind_ok, lift_some, nox_ok1, tb_bl, if_true, if_false, Bool.false_eq_true, List.getElem?_cons_succ, List.getElem?_cons_zero, List.set_cons_succ, List.set_cons_zero, Option.some.injEq, Sl.d.injEq, Option.bind_some, runE_rt, runE_nx, Ev_ok, wi_cons, wi_nil, List.replicate, decide_true, decide_false, hB n hn, hs n hn]
      unfold minl
      cases f n <;> rfl
  have hc2 : compL (gN 3) cYes (eCallN m_lot_of (aCons (eV 3) (aCons (eV 0) (aNil)))) [.d (nat many), .d B, .d (.lst ((minls f many).map nat)), .no] ((minls f many).map nat) = .ok (((minls f many).map fun n => lotN n many).map lotD) := by
    rw [lc_map nat (fun n => lotD (lotN n many)), List.map_map]
    · rfl
    · intro n _
      refine ⟨_, rfl, ?_⟩
      simp only [ev_V, ev_Op, ev_Un, ev_C, ev_E, ev_And, ev_Or, ev_Not, ev_If, ev_eAnd, ev_eOr, ev_eNot, ev_Fn, ev_Cons, ev_Nil, ev_Call, ev_CallN, ev_Yes, ev_Fld, sv_Seq, sv_If, sv_Ret, sv_Asg, sv_Nx, sv_For, gv_N, bind_ok, lift_some, nox_ok1, tb_bl, if_true, if_false, Bool.false_eq_true, List.getElem?_cons_succ, List.getElem?_cons_zero, List.set_cons_succ, List.set_cons_zero, Option.some.injEq, Sl.d.injEq, Option.bind_some, runE_rt, runE_nx, Ev_ok, wi_cons, wi_nil, List.replicate, decide_true, decide_false, lot_of_eq (n := n) (many := many) (by omega)]
  have len : (minls f many).length ≤ sizeLine := by
    have := List.length_filter_le (minl f many) (List.range (2 ^ many))
    rw [List.length_range] at this
    show ((List.range (2 ^ many)).filter (minl f many)).length ≤ _
    omega
  obtain ⟨ls', e, p⟩ := sort_lots ((minls f many).map fun n => lotN n many)
  obtain ⟨ms, e2, p2⟩ := perm_map_inv p rfl
  refine ⟨ms, ?_, p2⟩
  unfold m_least_lots
  rw [run2]
  simp only [ev_V, ev_Op, ev_Un, ev_C, ev_E, ev_And, ev_Or, ev_Not, ev_If, ev_eAnd, ev_eOr, ev_eNot, ev_Fn, ev_Cons, ev_Nil, ev_Call, ev_CallN, ev_Yes, ev_Fld, sv_Seq, sv_If, sv_Ret, sv_Asg, sv_Nx, sv_For, gv_N, bind_ok, lift_some, nox_ok1, tb_bl, if_true, if_false, Bool.false_eq_true, List.getElem?_cons_succ, List.getElem?_cons_zero, List.set_cons_succ, List.set_cons_zero, Option.some.injEq, Sl.d.injEq, Option.bind_some, runE_rt, runE_nx, Ev_ok, wi_cons, wi_nil, List.replicate, decide_true, decide_false, ev_Lc, Nat.reduceSub, hr, List.length_map, List.length_range]
  rw [if_pos (by omega), hc]
  simp only [ev_V, ev_Op, ev_Un, ev_C, ev_E, ev_And, ev_Or, ev_Not, ev_If, ev_eAnd, ev_eOr, ev_eNot, ev_Fn, ev_Cons, ev_Nil, ev_Call, ev_CallN, ev_Yes, ev_Fld, sv_Seq, sv_If, sv_Ret, sv_Asg, sv_Nx, sv_For, gv_N, bind_ok, lift_some, nox_ok1, tb_bl, if_true, if_false, Bool.false_eq_true, List.getElem?_cons_succ, List.getElem?_cons_zero, List.set_cons_succ, List.set_cons_zero, Option.some.injEq, Sl.d.injEq, Option.bind_some, runE_rt, runE_nx, Ev_ok, wi_cons, wi_nil, List.replicate, decide_true, decide_false, ev_Lc, iv_Sq, it_lst, List.length_map, ev_SortK]
  rw [if_pos len, hc2]
  simp only [ev_V, ev_Op, ev_Un, ev_C, ev_E, ev_And, ev_Or, ev_Not, ev_If, ev_eAnd, ev_eOr, ev_eNot, ev_Fn, ev_Cons, ev_Nil, ev_Call, ev_CallN, ev_Yes, ev_Fld, sv_Seq, sv_If, sv_Ret, sv_Asg, sv_Nx, sv_For, gv_N, bind_ok, lift_some, nox_ok1, tb_bl, if_true, if_false, Bool.false_eq_true, List.getElem?_cons_succ, List.getElem?_cons_zero, List.set_cons_succ, List.set_cons_zero, Option.some.injEq, Sl.d.injEq, Option.bind_some, runE_rt, runE_nx, Ev_ok, wi_cons, wi_nil, List.replicate, decide_true, decide_false, e, f_tupL]
  unfold lotsD
  rw [e2, List.map_map]
  rfl
theorem least_lst {f : Nat → Bool} {many : Nat} (hm : many ≤ 9) : ∃ ms, m_least_lots [nat many, .lst (bookD f (2 ^ many))] = .ok (lotsD ms many) ∧ ms.Perm (minls f many) :=
  least_core hm (by show some (D.int _) = _; rw [book_len]; rfl) (fun j hj => ixL (book_at hj)) fun n hn => smaller_lst (by omega) (by omega)
theorem least_tup {f : Nat → Bool} {many : Nat} (hm : many ≤ 9) : ∃ ms, m_least_lots [nat many, .tup (bookD f (2 ^ many))] = .ok (lotsD ms many) ∧ ms.Perm (minls f many) :=
  least_core hm (by show some (D.int _) = _; rw [book_len]; rfl) (fun j hj => ixT (book_at hj)) fun n hn => smaller_tup (by omega) (by omega)
/-! ### a rule -/
def ruleD (many : Nat) (f : Nat → Bool) (ms : List Nat) : D := .obj 40 [("many", nat many), ("book", .tup (bookD f (2 ^ many))), ("least", lotsD ms many)]
/-- the rule of a book -/
structure IsRule (d : D) (many : Nat) (f : Nat → Bool) : Prop where
  book : Book many f
  ex : ∃ ms, d = ruleD many f ms ∧ ms.Perm (minls f many)
theorem bookD_congr {f g : Nat → Bool} {k : Nat} (h : ∀ n, n < k → f n = g n) : bookD f k = bookD g k := by
  unfold bookD boolD
  apply List.map_congr_left
  intro n hn
  rw [h n (List.mem_range.mp hn)]
theorem minls_congr {f g : Nat → Bool} {many : Nat} (h : ∀ n, n < 2 ^ many → f n = g n) : minls f many = minls g many := by
  unfold minls
  apply List.filter_congr
  intro n hn
  have hn := List.mem_range.mp hn
  have e : sw f many n = sw g many n := by
    rw [Bool.eq_iff_iff, sw_iff, sw_iff]
    constructor
    · rintro ⟨v, h1, h2, h3⟩; exact ⟨v, h1, h2, by rw [← h _ (Nat.lt_trans (less_lt h2) hn)]; exact h3⟩
    · rintro ⟨v, h1, h2, h3⟩; exact ⟨v, h1, h2, by rw [h _ (Nat.lt_trans (less_lt h2) hn)]; exact h3⟩
  unfold minl
  rw [h n hn, e]
theorem IsRule.congr {d : D} {many : Nat} {f g : Nat → Bool} (h : IsRule d many f) (e : ∀ n, n < 2 ^ many → f n = g n) : IsRule d many g := by
  obtain ⟨B, ms, rfl, p⟩ := h
  refine ⟨B.congr fun n hn => (e n hn).symm, ms, ?_, by rw [← minls_congr e]; exact p⟩
  unfold ruleD
  rw [bookD_congr e]
theorem mem_many : (40, ("many" : Str)) ∈ tb_many := by decide
theorem mem_book : (40, ("book" : Str)) ∈ tb_book := by decide
theorem mem_least : (40, ("least" : Str)) ∈ tb_least := by decide
theorem fld_many (many : Nat) (f : Nat → Bool) (ms : List Nat) : oFld tb_many "many" (ruleD many f ms) = some (nat many) := by
  unfold ruleD
  rw [o_fld mem_many]
  rfl
theorem fld_book (many : Nat) (f : Nat → Bool) (ms : List Nat) : oFld tb_book "book" (ruleD many f ms) = some (.tup (bookD f (2 ^ many))) := by
  unfold ruleD
  rw [o_fld mem_book]
  rfl
theorem fld_least (many : Nat) (f : Nat → Bool) (ms : List Nat) : oFld tb_least "least" (ruleD many f ms) = some (lotsD ms many) := by
  unfold ruleD
  rw [o_fld mem_least]
  rfl
theorem bits_le {m many : Nat} (hm : many ≤ 9) : ∀ v ∈ lotN m many, v ≤ 1000 := fun v hv => by
  have := lotN_lt hv
  omega
/-- Rule(many, lots) -/
theorem rule_eq {many : Nat} (hm : many ≤ 9) {ms : List Nat} (h0 : ms ≠ []) (h : ∀ m ∈ ms, 1 ≤ m ∧ m < 2 ^ many) (hl : ms.length ≤ 100000) : ∃ d, i_Rule [nat many, lotsD ms many] = .ok d ∧ IsRule d many (clos ms) := by
  have sb := size_big
  obtain ⟨ls, el, pl⟩ := least_tup (f := clos ms) hm
  have key := ev_for (g := gN 3) (body := sIf (cOr (cE (eOp oEq (eFn fLen (aCons (eV 3) (aNil))) (eC (.int 0)))) (cNot (cE (eCallN m_is_lot (aCons (eV 3) (aCons (eV 1) (aNil))))))) (sNever) (sNx)) (ρ := [.bo 40 [], .d (nat many), .d (lotsD ms many), .no])
    (fun m => lotD (lotN m many)) ms (fun p ρ => ∃ z, ρ = [.bo 40 [], .d (nat many), .d (lotsD ms many), z]) (by
      rintro p x q ρ e ⟨z, rfl⟩
      obtain ⟨h1, h2⟩ := h x (by rw [e]; simp)
      have hp := lotN_pos h2 h1
      refine ⟨[.bo 40 [], .d (nat many), .d (lotsD ms many), .d (lotD (lotN x many))], rfl, ?_⟩
      have il := is_lot_eq (l := lotN x many) (many := many) (lotN_sorted _ _) (fun v hv => lotN_lt hv)
      have fl : fLen [lotD (lotN x many)] = some (.int ((lotN x many).length : Nat)) := by
        unfold lotD
        rw [f_lenT, List.length_map]
      have ne : ((((lotN x many).length : Nat) : Int) = 0) = False := eq_false (by omega)
      simp only [ev_V, ev_Op, ev_Un, ev_C, ev_E, ev_And, ev_Or, ev_Not, ev_If, ev_eAnd, ev_eOr, ev_eNot, ev_Fn, ev_Cons, ev_Nil, ev_Call, ev_CallN, ev_Yes, ev_Fld, sv_Seq, sv_If, sv_Ret, sv_Asg, sv_Nx, sv_For, gv_N, bind_ok, lift_some, nox_ok1, tb_bl, if_true, if_false, Bool.false_eq_true, List.getElem?_cons_succ, List.getElem?_cons_zero, List.set_cons_succ, List.set_cons_zero, Option.some.injEq, Sl.d.injEq, Option.bind_some, runE_rt, runE_nx, Ev_ok, wi_cons, wi_nil, List.replicate, decide_true, decide_false, fl, q_int, il, ne, decide_false, Bool.not_true]
      exact ⟨_, rfl⟩) ⟨.no, rfl⟩
  obtain ⟨o, e, ρ', rfl, z, rfl⟩ := key.get
  have nums : compL (gN 3) cYes (eCallN m_lot_number (aCons (eV 3) (aNil))) [.bo 40 [("many", nat many)], .d (nat many), .d (lotsD ms many), .no] (ms.map fun m => lotD (lotN m many)) = .ok (ms.map nat) := by
    rw [lc_map (fun m => lotD (lotN m many)) nat]
    intro m hmm
    refine ⟨_, rfl, ?_⟩
    have := lot_number_eq (l := lotN m many) (bits_le hm)
    rw [numN_lotN many m (h m hmm).2] at this
    simp only [ev_V, ev_Op, ev_Un, ev_C, ev_E, ev_And, ev_Or, ev_Not, ev_If, ev_eAnd, ev_eOr, ev_eNot, ev_Fn, ev_Cons, ev_Nil, ev_Call, ev_CallN, ev_Yes, ev_Fld, sv_Seq, sv_If, sv_Ret, sv_Asg, sv_Nx, sv_For, gv_N, bind_ok, lift_some, nox_ok1, tb_bl, if_true, if_false, Bool.false_eq_true, List.getElem?_cons_succ, List.getElem?_cons_zero, List.set_cons_succ, List.set_cons_zero, Option.some.injEq, Sl.d.injEq, Option.bind_some, runE_rt, runE_nx, Ev_ok, wi_cons, wi_nil, List.replicate, decide_true, decide_false, this]
  have bk := book_eq hm ms (by omega)
  have fl : fLen [lotsD ms many] = some (.int (ms.length : Nat)) := by
    unfold lotsD
    rw [f_lenT, List.length_map]
  have ne : (((ms.length : Nat) : Int) = 0) = False := eq_false (by
    cases ms with
    | nil => exact absurd rfl h0
    | cons m r => simp only [List.length_cons]; omega)
  have it : itemsD (lotsD ms many) = some (ms.map fun m => lotD (lotN m many)) := rfl
  have p1 : putD "many" (nat many) [] = [(("many" : Str), nat many)] := rfl
  have p2 : ∀ x y : D, putD "book" y [(("many" : Str), x)] = [(("many" : Str), x), (("book" : Str), y)] := fun x y => by
    have e1 : ¬ (("many" : Str) = "book") := by decide
    simp [putD, e1]
  have p3 : ∀ x y w : D, putD "least" w [(("many" : Str), x), (("book" : Str), y)] = [(("many" : Str), x), (("book" : Str), y), (("least" : Str), w)] := fun x y w => by
    have e1 : ¬ (("many" : Str) = "least") := by decide
    have e2 : ¬ (("book" : Str) = "least") := by decide
    simp [putD, e1, e2]
  have lk : ∀ x y : D, List.lookup ("book" : Str) [(("many" : Str), x), (("book" : Str), y)] = some y := fun x y => rfl
  refine ⟨ruleD many (clos ms) ls, ?_, clos_book h0 h, ls, rfl, pl⟩
  unfold i_Rule runI
  rw [if_pos (show [nat many, lotsD ms many].length = 2 from rfl)]
  simp only [List.map_cons, List.map_nil, List.cons_append, List.nil_append, ev_V, ev_Op, ev_Un, ev_C, ev_E, ev_And, ev_Or, ev_Not, ev_If, ev_eAnd, ev_eOr, ev_eNot, ev_Fn, ev_Cons, ev_Nil, ev_Call, ev_CallN, ev_Yes, ev_Fld, sv_Seq, sv_If, sv_Ret, sv_Asg, sv_Nx, sv_For, gv_N, bind_ok, lift_some, nox_ok1, tb_bl, if_true, if_false, Bool.false_eq_true, List.getElem?_cons_succ, List.getElem?_cons_zero, List.set_cons_succ, List.set_cons_zero, Option.some.injEq, Sl.d.injEq, Option.bind_some, runE_rt, runE_nx, Ev_ok, wi_cons, wi_nil, List.replicate, decide_true, decide_false, fl, q_int, ne, decide_false, iv_Sq, it, Nat.reduceAdd, Nat.reduceSub, e]
  rw [sv_SetF 0 rfl]
  simp only [ev_V, ev_Op, ev_Un, ev_C, ev_E, ev_And, ev_Or, ev_Not, ev_If, ev_eAnd, ev_eOr, ev_eNot, ev_Fn, ev_Cons, ev_Nil, ev_Call, ev_CallN, ev_Yes, ev_Fld, sv_Seq, sv_If, sv_Ret, sv_Asg, sv_Nx, sv_For, gv_N, bind_ok, lift_some, nox_ok1, tb_bl, if_true, if_false, Bool.false_eq_true, List.getElem?_cons_succ, List.getElem?_cons_zero, List.set_cons_succ, List.set_cons_zero, Option.some.injEq, Sl.d.injEq, Option.bind_some, runE_rt, runE_nx, Ev_ok, wi_cons, wi_nil, List.replicate, decide_true, decide_false]
  rw [if_pos ⟨mem_many, by simp⟩]
  simp only [ev_V, ev_Op, ev_Un, ev_C, ev_E, ev_And, ev_Or, ev_Not, ev_If, ev_eAnd, ev_eOr, ev_eNot, ev_Fn, ev_Cons, ev_Nil, ev_Call, ev_CallN, ev_Yes, ev_Fld, sv_Seq, sv_If, sv_Ret, sv_Asg, sv_Nx, sv_For, gv_N, bind_ok, lift_some, nox_ok1, tb_bl, if_true, if_false, Bool.false_eq_true, List.getElem?_cons_succ, List.getElem?_cons_zero, List.set_cons_succ, List.set_cons_zero, Option.some.injEq, Sl.d.injEq, Option.bind_some, runE_rt, runE_nx, Ev_ok, wi_cons, wi_nil, List.replicate, decide_true, decide_false, p1]
  rw [sv_SetF 0 rfl]
  simp only [ev_V, ev_Op, ev_Un, ev_C, ev_E, ev_And, ev_Or, ev_Not, ev_If, ev_eAnd, ev_eOr, ev_eNot, ev_Fn, ev_Cons, ev_Nil, ev_Call, ev_CallN, ev_Yes, ev_Fld, sv_Seq, sv_If, sv_Ret, sv_Asg, sv_Nx, sv_For, gv_N, bind_ok, lift_some, nox_ok1, tb_bl, if_true, if_false, Bool.false_eq_true, List.getElem?_cons_succ, List.getElem?_cons_zero, List.set_cons_succ, List.set_cons_zero, Option.some.injEq, Sl.d.injEq, Option.bind_some, runE_rt, runE_nx, Ev_ok, wi_cons, wi_nil, List.replicate, decide_true, decide_false, ev_Lc, iv_Sq, it, List.length_map]
  rw [if_pos (by omega), nums]
  simp only [ev_V, ev_Op, ev_Un, ev_C, ev_E, ev_And, ev_Or, ev_Not, ev_If, ev_eAnd, ev_eOr, ev_eNot, ev_Fn, ev_Cons, ev_Nil, ev_Call, ev_CallN, ev_Yes, ev_Fld, sv_Seq, sv_If, sv_Ret, sv_Asg, sv_Nx, sv_For, gv_N, bind_ok, lift_some, nox_ok1, tb_bl, if_true, if_false, Bool.false_eq_true, List.getElem?_cons_succ, List.getElem?_cons_zero, List.set_cons_succ, List.set_cons_zero, Option.some.injEq, Sl.d.injEq, Option.bind_some, runE_rt, runE_nx, Ev_ok, wi_cons, wi_nil, List.replicate, decide_true, decide_false, bk]
  rw [if_pos ⟨mem_book, by simp⟩]
  simp only [ev_V, ev_Op, ev_Un, ev_C, ev_E, ev_And, ev_Or, ev_Not, ev_If, ev_eAnd, ev_eOr, ev_eNot, ev_Fn, ev_Cons, ev_Nil, ev_Call, ev_CallN, ev_Yes, ev_Fld, sv_Seq, sv_If, sv_Ret, sv_Asg, sv_Nx, sv_For, gv_N, bind_ok, lift_some, nox_ok1, tb_bl, if_true, if_false, Bool.false_eq_true, List.getElem?_cons_succ, List.getElem?_cons_zero, List.set_cons_succ, List.set_cons_zero, Option.some.injEq, Sl.d.injEq, Option.bind_some, runE_rt, runE_nx, Ev_ok, wi_cons, wi_nil, List.replicate, decide_true, decide_false, p2]
  rw [sv_SetF 0 rfl]
  simp only [ev_V, ev_Op, ev_Un, ev_C, ev_E, ev_And, ev_Or, ev_Not, ev_If, ev_eAnd, ev_eOr, ev_eNot, ev_Fn, ev_Cons, ev_Nil, ev_Call, ev_CallN, ev_Yes, ev_Fld, sv_Seq, sv_If, sv_Ret, sv_Asg, sv_Nx, sv_For, gv_N, bind_ok, lift_some, nox_ok1, tb_bl, if_true, if_false, Bool.false_eq_true, List.getElem?_cons_succ, List.getElem?_cons_zero, List.set_cons_succ, List.set_cons_zero, Option.some.injEq, Sl.d.injEq, Option.bind_some, runE_rt, runE_nx, Ev_ok, wi_cons, wi_nil, List.replicate, decide_true, decide_false]
  rw [ev_FldB 0 (c := 40) rfl mem_book, lk]
  simp only [ev_V, ev_Op, ev_Un, ev_C, ev_E, ev_And, ev_Or, ev_Not, ev_If, ev_eAnd, ev_eOr, ev_eNot, ev_Fn, ev_Cons, ev_Nil, ev_Call, ev_CallN, ev_Yes, ev_Fld, sv_Seq, sv_If, sv_Ret, sv_Asg, sv_Nx, sv_For, gv_N, bind_ok, lift_some, nox_ok1, tb_bl, if_true, if_false, Bool.false_eq_true, List.getElem?_cons_succ, List.getElem?_cons_zero, List.set_cons_succ, List.set_cons_zero, Option.some.injEq, Sl.d.injEq, Option.bind_some, runE_rt, runE_nx, Ev_ok, wi_cons, wi_nil, List.replicate, decide_true, decide_false, el]
  rw [if_pos ⟨mem_least, by simp⟩]
  simp only [ev_V, ev_Op, ev_Un, ev_C, ev_E, ev_And, ev_Or, ev_Not, ev_If, ev_eAnd, ev_eOr, ev_eNot, ev_Fn, ev_Cons, ev_Nil, ev_Call, ev_CallN, ev_Yes, ev_Fld, sv_Seq, sv_If, sv_Ret, sv_Asg, sv_Nx, sv_For, gv_N, bind_ok, lift_some, nox_ok1, tb_bl, if_true, if_false, Bool.false_eq_true, List.getElem?_cons_succ, List.getElem?_cons_zero, List.set_cons_succ, List.set_cons_zero, Option.some.injEq, Sl.d.injEq, Option.bind_some, runE_rt, runE_nx, Ev_ok, wi_cons, wi_nil, List.replicate, decide_true, decide_false, p3]
  rfl
end L2.DL.MM
/-! rules by weights, joined, opposite -/
namespace L2.DL.MM
open PySem PyProof.Rows PySem.Spec
def sumD (ws : List Int) (n : Nat) : D := .int (sumN ws n)
def sumsD (ws : List Int) : List D := (List.range (2 ^ ws.length)).map (sumD ws)
/-- one weight more -/
theorem sums_step (p : List Int) (x : Int) : sumsD (p ++ [x]) = sumsD p ++ (List.range (2 ^ p.length)).map fun n => D.int (sumN p n + x) := by
  unfold sumsD
  rw [List.length_append, List.length_singleton, range_twice]
  congr 1
  · apply List.map_congr_left
    intro n hn
    unfold sumD
    rw [sumN_lo p x n (List.mem_range.mp hn)]
  · apply List.map_congr_left
    intro n hn
    unfold sumD
    rw [sumN_hi p x n (List.mem_range.mp hn)]
theorem sums_len (ws : List Int) : (sumsD ws).length = 2 ^ ws.length := by simp [sumsD]
theorem sums_of_eq {ws : List Int} (hl : ws.length ≤ 9) : m_sums_of [tupI ws] = .ok (.tup (sumsD ws)) := by
  have sb := size_big
  have key := ev_for (g := gN 2) (body := sAsg (eOp oAdd (eV 1) (eLc (iSq (eV 1)) [3] (gN 3) (cYes) (eOp oAdd (eV 3) (eV 2)))) (gN 1)) (ρ := [.d (tupI ws), .d (.lst (sumsD [])), .no, .no])
    D.int ws (fun p ρ => ∃ z, ρ = [.d (tupI ws), .d (.lst (sumsD p)), z, .no]) (by
      rintro p x q ρ e ⟨z, rfl⟩
      have hp : p.length < 9 := by have := congrArg List.length e; simp at this; omega
      have p9 := pow9 (many := p.length) (by omega)
      refine ⟨[.d (tupI ws), .d (.lst (sumsD p)), .d (.int x), .no], rfl, ?_⟩
      have hc : compL (gN 3) cYes (eOp oAdd (eV 3) (eV 2)) [.d (tupI ws), .d (.lst (sumsD p)), .d (.int x), .no] (sumsD p) = .ok ((List.range (2 ^ p.length)).map fun n => D.int (sumN p n + x)) := by
        unfold sumsD
        rw [lc_map (sumD p) (fun n => D.int (sumN p n + x))]
        intro n _
        exact ⟨_, rfl, rfl⟩
      have hz : (sumsD p).length ≤ sizeLine := by rw [sums_len]; omega
      have ha := o_addl (xs := sumsD p) (ys := (List.range (2 ^ p.length)).map fun n => D.int (sumN p n + x)) (by rw [sums_len, List.length_map, List.length_range]; omega)
      simp only [ev_V, ev_Op, ev_Un, ev_C, ev_E, ev_And, ev_Or, ev_Not, ev_If, ev_eAnd, ev_eOr, ev_eNot, ev_Fn, ev_Cons, ev_Nil, ev_Call, ev_CallN, ev_Yes, ev_Fld, sv_Seq, sv_If, sv_Ret, sv_Asg, sv_Nx, sv_For, gv_N, bind_ok, lift_some, nox_ok1, tb_bl, if_true, if_false, Bool.false_eq_true, List.getElem?_cons_succ, List.getElem?_cons_zero, List.set_cons_succ, List.set_cons_zero, Option.some.injEq, Sl.d.injEq, Option.bind_some, runE_rt, runE_nx, Ev_ok, wi_cons, wi_nil, List.replicate, decide_true, decide_false, ev_Lc, iv_Sq, it_lst]
      rw [if_pos hz, hc]
      simp only [ev_V, ev_Op, ev_Un, ev_C, ev_E, ev_And, ev_Or, ev_Not, ev_If, ev_eAnd, ev_eOr, ev_eNot, ev_Fn, ev_Cons, ev_Nil, ev_Call, ev_CallN, ev_Yes, ev_Fld, sv_Seq, sv_If, sv_Ret, sv_Asg, sv_Nx, sv_For, gv_N, bind_ok, lift_some, nox_ok1, tb_bl, if_true, if_false, Bool.false_eq_true, List.getElem?_cons_succ, List.getElem?_cons_zero, List.set_cons_succ, List.set_cons_zero, Option.some.injEq, Sl.d.injEq, Option.bind_some, runE_rt, runE_nx, Ev_ok, wi_cons, wi_nil, List.replicate, decide_true, decide_false, ha]
      exact ⟨_, by rw [sums_step]⟩) ⟨.no, rfl⟩
  obtain ⟨o, e, ρ', rfl, z, rfl⟩ := key.get
  have l1 : ∀ x : D, oLst [x] = some (.lst [x]) := fun x => o_lst (by show 1 ≤ sizeLine; decide)
  have s0 : (.lst (sumsD []) : D) = .lst [.int 0] := rfl
  rw [s0] at e
  unfold m_sums_of
  rw [run1]
  simp only [ev_V, ev_Op, ev_Un, ev_C, ev_E, ev_And, ev_Or, ev_Not, ev_If, ev_eAnd, ev_eOr, ev_eNot, ev_Fn, ev_Cons, ev_Nil, ev_Call, ev_CallN, ev_Yes, ev_Fld, sv_Seq, sv_If, sv_Ret, sv_Asg, sv_Nx, sv_For, gv_N, bind_ok, lift_some, nox_ok1, tb_bl, if_true, if_false, Bool.false_eq_true, List.getElem?_cons_succ, List.getElem?_cons_zero, List.set_cons_succ, List.set_cons_zero, Option.some.injEq, Sl.d.injEq, Option.bind_some, runE_rt, runE_nx, Ev_ok, wi_cons, wi_nil, List.replicate, decide_true, decide_false, l1, iv_Sq, it_tup, Nat.reduceSub, e, f_tupL]
theorem least_pos {many : Nat} {f : Nat → Bool} {ms : List Nat} (B : Book many f) (p : ms.Perm (minls f many)) : ms ≠ [] ∧ (∀ m ∈ ms, 1 ≤ m ∧ m < 2 ^ many) ∧ ms.length ≤ 2 ^ many := by
  refine ⟨fun e => ?_, fun m hm => ?_, ?_⟩
  · obtain ⟨m, hm⟩ := B.some
    rw [e] at p
    have := p.symm.mem_iff.mp hm
    simp at this
  · obtain ⟨h1, h2, _⟩ := minls_mem.mp (p.mem_iff.mp hm)
    exact ⟨B.pos h2, h1⟩
  · rw [p.length_eq]
    have := List.length_filter_le (minl f many) (List.range (2 ^ many))
    rwa [List.length_range] at this
/-- Rule(many, least lots of a book) -/
theorem rule_of_least {many : Nat} {f : Nat → Bool} {ms : List Nat} (hm : many ≤ 9) (B : Book many f) (p : ms.Perm (minls f many)) : ∃ d, i_Rule [nat many, lotsD ms many] = .ok d ∧ IsRule d many f := by
  obtain ⟨h0, h, hl⟩ := least_pos B p
  have p9 := pow9 hm
  obtain ⟨d, e, R⟩ := rule_eq hm h0 h (by omega)
  exact ⟨d, e, R.congr fun n hn => clos_min B (fun m => p.mem_iff) hn⟩
theorem len_int (l : List D) : fLen [.lst l] = some (.int (l.length : Nat)) := rfl
/-- Rule.weighted(weights, quota) -/
theorem weighted_eq {ws : List Int} {q : Int} (hl : ws.length ≤ 9) (h : ∀ w ∈ ws, 0 ≤ w) (h1 : 1 ≤ q) (h2 : q ≤ ws.sum) : ∃ d, m_Rule_weighted [tupI ws, .int q] = .ok d ∧ IsRule d ws.length (fun n => decide (q ≤ sumN ws n)) := by
  have sb := size_big
  have p9 := pow9 hl
  have B := weight_book h h1 h2
  obtain ⟨ms, el, p⟩ := least_lst (f := fun n => decide (q ≤ sumN ws n)) hl
  obtain ⟨d, er, R⟩ := rule_of_least hl B p
  refine ⟨d, ?_, R⟩
  have hc : compL (gN 3) cYes (eOp oGe (eV 3) (eV 1)) [.d (tupI ws), .d (.int q), .no, .no] (sumsD ws) = .ok (bookD (fun n => decide (q ≤ sumN ws n)) (2 ^ ws.length)) := by
    unfold sumsD
    rw [lc_map (sumD ws) (boolD fun n => decide (q ≤ sumN ws n))]
    · rfl
    · intro n _
      exact ⟨_, rfl, rfl⟩
  have n1 : decide (q < 1) = false := decide_eq_false (by omega)
  have n2 : decide (ws.sum < q) = false := decide_eq_false (by omega)
  have hz : (sumsD ws).length ≤ sizeLine := by rw [sums_len]; omega
  have fl : fLen [tupI ws] = some (nat ws.length) := by rw [f_lenT, List.length_map]; rfl
  unfold m_Rule_weighted
  rw [run2]
  simp only [ev_V, ev_Op, ev_Un, ev_C, ev_E, ev_And, ev_Or, ev_Not, ev_If, ev_eAnd, ev_eOr, ev_eNot, ev_Fn, ev_Cons, ev_Nil, ev_Call, ev_CallN, ev_Yes, ev_Fld, sv_Seq, sv_If, sv_Ret, sv_Asg, sv_Nx, sv_For, gv_N, bind_ok, lift_some, nox_ok1, tb_bl, if_true, if_false, Bool.false_eq_true, List.getElem?_cons_succ, List.getElem?_cons_zero, List.set_cons_succ, List.set_cons_zero, Option.some.injEq, Sl.d.injEq, Option.bind_some, runE_rt, runE_nx, Ev_ok, wi_cons, wi_nil, List.replicate, decide_true, decide_false, o_lt, o_gt, n1, n2, f_sumT, ev_Lc, iv_Sq, sums_of_eq hl, it_tup, Nat.reduceSub]
  rw [if_pos hz, hc]
  simp only [ev_V, ev_Op, ev_Un, ev_C, ev_E, ev_And, ev_Or, ev_Not, ev_If, ev_eAnd, ev_eOr, ev_eNot, ev_Fn, ev_Cons, ev_Nil, ev_Call, ev_CallN, ev_Yes, ev_Fld, sv_Seq, sv_If, sv_Ret, sv_Asg, sv_Nx, sv_For, gv_N, bind_ok, lift_some, nox_ok1, tb_bl, if_true, if_false, Bool.false_eq_true, List.getElem?_cons_succ, List.getElem?_cons_zero, List.set_cons_succ, List.set_cons_zero, Option.some.injEq, Sl.d.injEq, Option.bind_some, runE_rt, runE_nx, Ev_ok, wi_cons, wi_nil, List.replicate, decide_true, decide_false, fl, el, er]
theorem own2 {d1 d2 d : D} {m : List D → Res D} {f1 f2 : List (Str × D)} (e1 : d1 = .obj 40 f1) (e2 : d2 = .obj 40 f2) (h : m [d1, d2] = .ok d) : oOwn 40 m d1 d2 = some d := by
  subst e1 e2
  simp [oOwn, h]
theorem own1 {d1 d : D} {m : List D → Res D} {f1 : List (Str × D)} (e1 : d1 = .obj 40 f1) (h : m [d1] = .ok d) : oOwn1 40 m d1 = some d := by
  subst e1
  simp [oOwn1, h]
theorem IsRule.obj {d : D} {many : Nat} {f : Nat → Bool} (R : IsRule d many f) : ∃ fs, d = .obj 40 fs := by
  obtain ⟨_, ms, rfl, _⟩ := R
  exact ⟨_, rfl⟩
theorem ne_self (n : Nat) : oNe (nat n) (nat n) = some (.bl false) := by
  unfold nat
  rw [n_int]
  simp
theorem and_eq {d1 d2 : D} {many : Nat} {f g : Nat → Bool} (hm : many ≤ 9) (R1 : IsRule d1 many f) (R2 : IsRule d2 many g) : ∃ d, m_Rule___and__ [d1, d2] = .ok d ∧ IsRule d many (fun n => f n && g n) := by
  obtain ⟨B1, ms1, rfl, p1⟩ := R1
  obtain ⟨B2, ms2, rfl, p2⟩ := R2
  have sb := size_big
  have p9 := pow9 hm
  obtain ⟨ms, el, p⟩ := least_lst (f := fun n => f n && g n) hm
  obtain ⟨d, er, R⟩ := rule_of_least hm (B1.and B2) p
  refine ⟨d, ?_, R⟩
  have fl : fLen [.tup (bookD f (2 ^ many))] = some (nat (2 ^ many)) := by rw [f_lenT, book_len]; rfl
  have hr := rg1 (n := 2 ^ many) (by omega) (as := aCons (eFn fLen (aCons (eFld tb_book "book" (eV 0)) (aNil))) (aNil)) (ρ := [.d (ruleD many f ms1), .d (ruleD many g ms2), .no, .no]) (by
    simp only [ev_V, ev_Op, ev_Un, ev_C, ev_E, ev_And, ev_Or, ev_Not, ev_If, ev_eAnd, ev_eOr, ev_eNot, ev_Fn, ev_Cons, ev_Nil, ev_Call, ev_CallN, ev_Yes, ev_Fld, sv_Seq, sv_If, sv_Ret, sv_Asg, sv_Nx, sv_For, gv_N, bind_ok, lift_some, nox_ok1, tb_bl, if_true, if_false, Bool.false_eq_true, List.getElem?_cons_succ, List.getElem?_cons_zero, List.set_cons_succ, List.set_cons_zero, Option.some.injEq, Sl.d.injEq, Option.bind_some, runE_rt, runE_nx, Ev_ok, wi_cons, wi_nil, List.replicate, decide_true, decide_false, fld_book, fl]
    rfl)
  have hc : compL (gN 3) cYes (eAnd (eOp oIx (eFld tb_book "book" (eV 0)) (eV 3)) (eOp oIx (eFld tb_book "book" (eV 1)) (eV 3))) [.d (ruleD many f ms1), .d (ruleD many g ms2), .no, .no] ((List.range (2 ^ many)).map nat) = .ok (bookD (fun n => f n && g n) (2 ^ many)) := by
    rw [lc_map nat (boolD fun n => f n && g n)]
    · rfl
    · intro n hn
      have hn := List.mem_range.mp hn
      have i1 : oIx (.tup (bookD f (2 ^ many))) (nat n) = some (.bl (f n)) := ixT (book_at hn)
      have i2 : oIx (.tup (bookD g (2 ^ many))) (nat n) = some (.bl (g n)) := ixT (book_at hn)
      refine ⟨_, rfl, ?_⟩
      simp only [ev_V, ev_Op, ev_Un, ev_C, ev_E, ev_And, ev_Or, ev_Not, ev_If, ev_eAnd, ev_eOr, ev_eNot, ev_Fn, ev_Cons, ev_Nil, ev_Call, ev_CallN, ev_Yes, ev_Fld, sv_Seq, sv_If, sv_Ret, sv_Asg, sv_Nx, sv_For, gv_N, bind_ok, lift_some, nox_ok1, tb_bl, if_true, if_false, Bool.false_eq_true, List.getElem?_cons_succ, List.getElem?_cons_zero, List.set_cons_succ, List.set_cons_zero, Option.some.injEq, Sl.d.injEq, Option.bind_some, runE_rt, runE_nx, Ev_ok, wi_cons, wi_nil, List.replicate, decide_true, decide_false, fld_book, i1, i2]
      show _ = Res.ok (D.bl (f n && g n))
      cases f n <;> simp
  unfold m_Rule___and__
  rw [run2]
  simp only [ev_V, ev_Op, ev_Un, ev_C, ev_E, ev_And, ev_Or, ev_Not, ev_If, ev_eAnd, ev_eOr, ev_eNot, ev_Fn, ev_Cons, ev_Nil, ev_Call, ev_CallN, ev_Yes, ev_Fld, sv_Seq, sv_If, sv_Ret, sv_Asg, sv_Nx, sv_For, gv_N, bind_ok, lift_some, nox_ok1, tb_bl, if_true, if_false, Bool.false_eq_true, List.getElem?_cons_succ, List.getElem?_cons_zero, List.set_cons_succ, List.set_cons_zero, Option.some.injEq, Sl.d.injEq, Option.bind_some, runE_rt, runE_nx, Ev_ok, wi_cons, wi_nil, List.replicate, decide_true, decide_false, fld_many, ne_self, ev_Lc, Nat.reduceSub, hr, List.length_map, List.length_range]
  rw [if_pos (by omega), hc]
  simp only [ev_V, ev_Op, ev_Un, ev_C, ev_E, ev_And, ev_Or, ev_Not, ev_If, ev_eAnd, ev_eOr, ev_eNot, ev_Fn, ev_Cons, ev_Nil, ev_Call, ev_CallN, ev_Yes, ev_Fld, sv_Seq, sv_If, sv_Ret, sv_Asg, sv_Nx, sv_For, gv_N, bind_ok, lift_some, nox_ok1, tb_bl, if_true, if_false, Bool.false_eq_true, List.getElem?_cons_succ, List.getElem?_cons_zero, List.set_cons_succ, List.set_cons_zero, Option.some.injEq, Sl.d.injEq, Option.bind_some, runE_rt, runE_nx, Ev_ok, wi_cons, wi_nil, List.replicate, decide_true, decide_false, fld_many, el, er]
theorem clos_app (a b : List Nat) (n : Nat) : clos (a ++ b) n = (clos a n || clos b n) := by
  unfold clos
  rw [List.any_append]
theorem or_eq {d1 d2 : D} {many : Nat} {f g : Nat → Bool} (hm : many ≤ 9) (R1 : IsRule d1 many f) (R2 : IsRule d2 many g) : ∃ d, m_Rule___or__ [d1, d2] = .ok d ∧ IsRule d many (fun n => f n || g n) := by
  obtain ⟨B1, ms1, rfl, p1⟩ := R1
  obtain ⟨B2, ms2, rfl, p2⟩ := R2
  have sb := size_big
  have p9 := pow9 hm
  obtain ⟨n1, h1, l1⟩ := least_pos B1 p1
  obtain ⟨n2, h2, l2⟩ := least_pos B2 p2
  obtain ⟨d, er, R⟩ := rule_eq hm (ms := ms1 ++ ms2) (by simp [n1]) (fun m hmm => (List.mem_append.mp hmm).elim (h1 m) (h2 m)) (by rw [List.length_append]; omega)
  refine ⟨d, ?_, R.congr fun n hn => by rw [clos_app, clos_min B1 (fun m => p1.mem_iff) hn, clos_min B2 (fun m => p2.mem_iff) hn]⟩
  have ha : oAdd (lotsD ms1 many) (lotsD ms2 many) = some (lotsD (ms1 ++ ms2) many) := by
    unfold lotsD
    rw [o_addt (by rw [List.length_map, List.length_map]; omega), List.map_append]
  unfold m_Rule___or__
  rw [run2]
  simp only [ev_V, ev_Op, ev_Un, ev_C, ev_E, ev_And, ev_Or, ev_Not, ev_If, ev_eAnd, ev_eOr, ev_eNot, ev_Fn, ev_Cons, ev_Nil, ev_Call, ev_CallN, ev_Yes, ev_Fld, sv_Seq, sv_If, sv_Ret, sv_Asg, sv_Nx, sv_For, gv_N, bind_ok, lift_some, nox_ok1, tb_bl, if_true, if_false, Bool.false_eq_true, List.getElem?_cons_succ, List.getElem?_cons_zero, List.set_cons_succ, List.set_cons_zero, Option.some.injEq, Sl.d.injEq, Option.bind_some, runE_rt, runE_nx, Ev_ok, wi_cons, wi_nil, List.replicate, decide_true, decide_false, fld_many, ne_self, fld_least, ha, Nat.reduceSub, er]
theorem inv_eq {d1 : D} {many : Nat} {f : Nat → Bool} (hm : many ≤ 9) (R1 : IsRule d1 many f) : ∃ d, m_Rule___invert__ [d1] = .ok d ∧ IsRule d many (fun n => !f (2 ^ many - 1 - n)) := by
  obtain ⟨B1, ms1, rfl, p1⟩ := R1
  have sb := size_big
  have p9 := pow9 hm
  have pp : 0 < 2 ^ many := Nat.pow_pos (by decide)
  obtain ⟨ms, el, p⟩ := least_lst (f := fun n => !f (2 ^ many - 1 - n)) hm
  obtain ⟨d, er, R⟩ := rule_of_least hm B1.opp p
  refine ⟨d, ?_, R⟩
  have fl : fLen [.tup (bookD f (2 ^ many))] = some (nat (2 ^ many)) := by rw [f_lenT, book_len]; rfl
  have sub1 : oSub (nat (2 ^ many)) (.int 1) = some (nat (2 ^ many - 1)) := by
    unfold nat
    rw [o_sub]
    congr 2
    omega
  have hr := rg1 (n := 2 ^ many) (by omega) (as := aCons (eFn fLen (aCons (eFld tb_book "book" (eV 0)) (aNil))) (aNil)) (ρ := [.d (ruleD many f ms1), .d (nat (2 ^ many - 1)), .no, .no]) (by
    simp only [ev_V, ev_Op, ev_Un, ev_C, ev_E, ev_And, ev_Or, ev_Not, ev_If, ev_eAnd, ev_eOr, ev_eNot, ev_Fn, ev_Cons, ev_Nil, ev_Call, ev_CallN, ev_Yes, ev_Fld, sv_Seq, sv_If, sv_Ret, sv_Asg, sv_Nx, sv_For, gv_N, bind_ok, lift_some, nox_ok1, tb_bl, if_true, if_false, Bool.false_eq_true, List.getElem?_cons_succ, List.getElem?_cons_zero, List.set_cons_succ, List.set_cons_zero, Option.some.injEq, Sl.d.injEq, Option.bind_some, runE_rt, runE_nx, Ev_ok, wi_cons, wi_nil, List.replicate, decide_true, decide_false, fld_book, fl]
    rfl)
  have hc : compL (gN 3) cYes (eNot (eOp oIx (eFld tb_book "book" (eV 0)) (eOp oSub (eV 1) (eV 3)))) [.d (ruleD many f ms1), .d (nat (2 ^ many - 1)), .no, .no] ((List.range (2 ^ many)).map nat) = .ok (bookD (fun n => !f (2 ^ many - 1 - n)) (2 ^ many)) := by
    rw [lc_map nat (boolD fun n => !f (2 ^ many - 1 - n))]
    · rfl
    · intro n hn
      have hn := List.mem_range.mp hn
      have s1 : oSub (nat (2 ^ many - 1)) (nat n) = some (nat (2 ^ many - 1 - n)) := by
        unfold nat
        rw [o_sub]
        congr 2
        omega
      have i1 : oIx (.tup (bookD f (2 ^ many))) (nat (2 ^ many - 1 - n)) = some (.bl (f (2 ^ many - 1 - n))) := ixT (book_at (by omega))
      refine ⟨_, rfl, ?_⟩
      simp only [ev_V, ev_Op, ev_Un, ev_C, ev_E, ev_And, ev_Or, ev_Not, ev_If, ev_eAnd, ev_eOr, ev_eNot, ev_Fn, ev_Cons, ev_Nil, ev_Call, ev_CallN, ev_Yes, ev_Fld, sv_Seq, sv_If, sv_Ret, sv_Asg, sv_Nx, sv_For, gv_N, bind_ok, lift_some, nox_ok1, tb_bl, if_true, if_false, Bool.false_eq_true, List.getElem?_cons_succ, List.getElem?_cons_zero, List.set_cons_succ, List.set_cons_zero, Option.some.injEq, Sl.d.injEq, Option.bind_some, runE_rt, runE_nx, Ev_ok, wi_cons, wi_nil, List.replicate, decide_true, decide_false, fld_book, s1, i1]
      rfl
  unfold m_Rule___invert__
  rw [run1]
  simp only [ev_V, ev_Op, ev_Un, ev_C, ev_E, ev_And, ev_Or, ev_Not, ev_If, ev_eAnd, ev_eOr, ev_eNot, ev_Fn, ev_Cons, ev_Nil, ev_Call, ev_CallN, ev_Yes, ev_Fld, sv_Seq, sv_If, sv_Ret, sv_Asg, sv_Nx, sv_For, gv_N, bind_ok, lift_some, nox_ok1, tb_bl, if_true, if_false, Bool.false_eq_true, List.getElem?_cons_succ, List.getElem?_cons_zero, List.set_cons_succ, List.set_cons_zero, Option.some.injEq, Sl.d.injEq, Option.bind_some, runE_rt, runE_nx, Ev_ok, wi_cons, wi_nil, List.replicate, decide_true, decide_false, fld_many, fld_book, fl, sub1, ev_Lc, Nat.reduceSub, hr, List.length_map, List.length_range]
  rw [if_pos (by omega), hc]
  simp only [ev_V, ev_Op, ev_Un, ev_C, ev_E, ev_And, ev_Or, ev_Not, ev_If, ev_eAnd, ev_eOr, ev_eNot, ev_Fn, ev_Cons, ev_Nil, ev_Call, ev_CallN, ev_Yes, ev_Fld, sv_Seq, sv_If, sv_Ret, sv_Asg, sv_Nx, sv_For, gv_N, bind_ok, lift_some, nox_ok1, tb_bl, if_true, if_false, Bool.false_eq_true, List.getElem?_cons_succ, List.getElem?_cons_zero, List.set_cons_succ, List.set_cons_zero, Option.some.injEq, Sl.d.injEq, Option.bind_some, runE_rt, runE_nx, Ev_ok, wi_cons, wi_nil, List.replicate, decide_true, decide_false, fld_many, el, er]
end L2.DL.MM
/-! the laws' words of rules -/
namespace L2.DL.MM
open PySem PyProof.Rows PySem.Spec
inductive Wd where
  | wt (ws : List Int) (q : Int) | lots (ms : List Nat) | both (a b : Wd) | either (a b : Wd) | opp (a : Wd)
def Wd.D (many : Nat) : Wd → DL.D
  | .wt ws q => .tup [.str "weights", tupI ws, .int q]
  | .lots ms => .tup [.str "lots", lotsD ms many]
  | .both a b => .tup [.str "both", a.D many, b.D many]
  | .either a b => .tup [.str "either", a.D many, b.D many]
  | .opp a => .tup [.str "opposite", a.D many]
def Wd.f (many : Nat) : Wd → Nat → Bool
  | .wt ws q => fun n => decide (q ≤ sumN ws n)
  | .lots ms => clos ms
  | .both a b => fun n => a.f many n && b.f many n
  | .either a b => fun n => a.f many n || b.f many n
  | .opp a => fun n => !a.f many (2 ^ many - 1 - n)
def Wd.Ok (many : Nat) : Wd → Prop
  | .wt ws q => ws.length = many ∧ (∀ w ∈ ws, 0 ≤ w) ∧ 1 ≤ q ∧ q ≤ ws.sum
  | .lots ms => ms ≠ [] ∧ (∀ m ∈ ms, 1 ≤ m ∧ m < 2 ^ many) ∧ ms.length ≤ 1000
  | .both a b => a.Ok many ∧ b.Ok many
  | .either a b => a.Ok many ∧ b.Ok many
  | .opp a => a.Ok many
def Wd.dep : Wd → Nat
  | .wt _ _ => 0
  | .lots _ => 0
  | .both a b => max a.dep b.dep + 1
  | .either a b => max a.dep b.dep + 1
  | .opp a => a.dep + 1
theorem Wd.book {many : Nat} : ∀ {w : Wd}, w.Ok many → Book many (w.f many)
  | .wt ws q, h => by
    obtain ⟨hl, h0, h1, h2⟩ := h
    subst hl
    exact weight_book h0 h1 h2
  | .lots ms, h => clos_book h.1 h.2.1
  | .both a b, h => (Wd.book h.1).and (Wd.book h.2)
  | .either a b, h => (Wd.book h.1).or (Wd.book h.2)
  | .opp a, h => Book.opp (Wd.book (w := a) h)
theorem sWW : decide (("weights" : Str) = "weights") = true := by decide
theorem sLW : decide (("lots" : Str) = "weights") = false := by decide
theorem sLL : decide (("lots" : Str) = "lots") = true := by decide
theorem sBW : decide (("both" : Str) = "weights") = false := by decide
theorem sBL : decide (("both" : Str) = "lots") = false := by decide
theorem sBO : decide (("both" : Str) = "opposite") = false := by decide
theorem sBB : decide (("both" : Str) = "both") = true := by decide
theorem sEW : decide (("either" : Str) = "weights") = false := by decide
theorem sEL : decide (("either" : Str) = "lots") = false := by decide
theorem sEO : decide (("either" : Str) = "opposite") = false := by decide
theorem sEB : decide (("either" : Str) = "both") = false := by decide
theorem sOW : decide (("opposite" : Str) = "weights") = false := by decide
theorem sOL : decide (("opposite" : Str) = "lots") = false := by decide
theorem sOO : decide (("opposite" : Str) = "opposite") = true := by decide
section
variable {many : Nat} (hm : many ≤ 9)
include hm
theorem shl_many : oShl (.int 1) (nat many) = some (nat (2 ^ many)) := o_shl1 (by omega)
theorem table_eq : ∀ (n : Nat) (w : Wd), w.dep < n → w.Ok many → mr__law_table n [w.D many, nat many] = .ok (.lst (bookD (w.f many) (2 ^ many))) := by
  have sb := size_big
  have p9 := pow9 hm
  have pp : 0 < 2 ^ many := Nat.pow_pos (by decide)
  intro n
  induction n with
  | zero => intro w h; exact absurd h (Nat.not_lt_zero _)
  | succ n ih =>
    intro w hd ok
    show r__law_table (mr__law_table n) _ = _
    have hR : ∀ ρ : List Sl, ρ[2]? = some (.d (nat (2 ^ many))) → iR1 (aCons (eV 2) (aNil)) ρ = .ok ((List.range (2 ^ many)).map nat) := fun ρ h => rg1 (by omega) (by
      rw [ev_Cons, ev_V 2 h]
      rfl)
    unfold r__law_table
    rw [run2]
    cases w with
    | wt ws q =>
      obtain ⟨hl, _⟩ := ok
      have key := ev_for (g := gN 6) (body := sAsg (eOp oAdd (eV 5) (eLc (iSq (eV 5)) [9] (gN 9) (cYes) (eOp oAdd (eV 9) (eV 6)))) (gN 5)) (ρ := [.d (Wd.D many (.wt ws q)), .d (nat many), .d (nat (2 ^ many)), .no, .no, .d (.lst (sumsD [])), .no, .no, .no, .no, .no])
        D.int ws (fun p ρ => ∃ z, ρ = [.d (Wd.D many (.wt ws q)), .d (nat many), .d (nat (2 ^ many)), .no, .no, .d (.lst (sumsD p)), z, .no, .no, .no, .no]) (by
          rintro p x qq ρ e ⟨z, rfl⟩
          have hp : p.length < many := by have := congrArg List.length e; simp at this; omega
          have p9' := pow9 (many := p.length) (by omega)
          refine ⟨[.d (Wd.D many (.wt ws q)), .d (nat many), .d (nat (2 ^ many)), .no, .no, .d (.lst (sumsD p)), .d (.int x), .no, .no, .no, .no], rfl, ?_⟩
          have hc : compL (gN 9) cYes (eOp oAdd (eV 9) (eV 6)) [.d (Wd.D many (.wt ws q)), .d (nat many), .d (nat (2 ^ many)), .no, .no, .d (.lst (sumsD p)), .d (.int x), .no, .no, .no, .no] (sumsD p) = .ok ((List.range (2 ^ p.length)).map fun n => D.int (sumN p n + x)) := by
            unfold sumsD
            rw [lc_map (sumD p) (fun n => D.int (sumN p n + x))]
            intro n _
            exact ⟨_, rfl, rfl⟩
          have hz : (sumsD p).length ≤ sizeLine := by rw [sums_len]; omega
          have ha := o_addl (xs := sumsD p) (ys := (List.range (2 ^ p.length)).map fun n => D.int (sumN p n + x)) (by rw [sums_len, List.length_map, List.length_range]; omega)
          simp only [ev_V, ev_Op, ev_Un, ev_C, ev_E, ev_And, ev_Or, ev_Not, ev_If, ev_eAnd, ev_eOr, ev_eNot, ev_Fn, ev_Cons, ev_Nil, ev_Call, ev_CallN, ev_Yes, ev_Fld, sv_Seq, sv_If, sv_Ret, sv_Asg, sv_Nx, sv_For, gv_N, bind_ok, lift_some, nox_ok1, tb_bl, if_true, if_false, Bool.false_eq_true, List.getElem?_cons_succ, List.getElem?_cons_zero, List.set_cons_succ, List.set_cons_zero, Option.some.injEq, Sl.d.injEq, Option.bind_some, runE_rt, runE_nx, Ev_ok, wi_cons, wi_nil, List.replicate, decide_true, decide_false, ev_Lc, iv_Sq, it_lst]
          rw [if_pos hz, hc]
          simp only [ev_V, ev_Op, ev_Un, ev_C, ev_E, ev_And, ev_Or, ev_Not, ev_If, ev_eAnd, ev_eOr, ev_eNot, ev_Fn, ev_Cons, ev_Nil, ev_Call, ev_CallN, ev_Yes, ev_Fld, sv_Seq, sv_If, sv_Ret, sv_Asg, sv_Nx, sv_For, gv_N, bind_ok, lift_some, nox_ok1, tb_bl, if_true, if_false, Bool.false_eq_true, List.getElem?_cons_succ, List.getElem?_cons_zero, List.set_cons_succ, List.set_cons_zero, Option.some.injEq, Sl.d.injEq, Option.bind_some, runE_rt, runE_nx, Ev_ok, wi_cons, wi_nil, List.replicate, decide_true, decide_false, ha]
          exact ⟨_, by rw [sums_step]⟩) ⟨.no, rfl⟩
      obtain ⟨o, e, ρ', rfl, z, rfl⟩ := key.get
      have hc : compL (gN 9) cYes (eOp oGe (eV 9) (eOp oIx (eV 0) (eC (.int 2)))) [.d (Wd.D many (.wt ws q)), .d (nat many), .d (nat (2 ^ many)), .no, .no, .d (.lst (sumsD ws)), z, .no, .no, .no, .no] (sumsD ws) = .ok (bookD (fun n => decide (q ≤ sumN ws n)) (2 ^ many)) := by
        rw [← hl]
        unfold sumsD
        rw [lc_map (sumD ws) (boolD fun n => decide (q ≤ sumN ws n))]
        · rfl
        · intro n _
          refine ⟨_, rfl, ?_⟩
          simp only [ev_V, ev_Op, ev_Un, ev_C, ev_E, ev_And, ev_Or, ev_Not, ev_If, ev_eAnd, ev_eOr, ev_eNot, ev_Fn, ev_Cons, ev_Nil, ev_Call, ev_CallN, ev_Yes, ev_Fld, sv_Seq, sv_If, sv_Ret, sv_Asg, sv_Nx, sv_For, gv_N, bind_ok, lift_some, nox_ok1, tb_bl, if_true, if_false, Bool.false_eq_true, List.getElem?_cons_succ, List.getElem?_cons_zero, List.set_cons_succ, List.set_cons_zero, Option.some.injEq, Sl.d.injEq, Option.bind_some, runE_rt, runE_nx, Ev_ok, wi_cons, wi_nil, List.replicate, decide_true, decide_false, Wd.D, x_tup, at2]
          rfl
      have l1 : ∀ x : DL.D, oLst [x] = some (.lst [x]) := fun x => o_lst (by show 1 ≤ sizeLine; decide)
      have s0 : (.lst (sumsD []) : DL.D) = .lst [.int 0] := rfl
      have hz : (sumsD ws).length ≤ sizeLine := by rw [sums_len, hl]; omega
      rw [s0] at e
      have eD : Wd.D many (.wt ws q) = .tup [.str "weights", tupI ws, .int q] := rfl
      simp only [ev_V, ev_Op, ev_Un, ev_C, ev_E, ev_And, ev_Or, ev_Not, ev_If, ev_eAnd, ev_eOr, ev_eNot, ev_Fn, ev_Cons, ev_Nil, ev_Call, ev_CallN, ev_Yes, ev_Fld, sv_Seq, sv_If, sv_Ret, sv_Asg, sv_Nx, sv_For, gv_N, bind_ok, lift_some, nox_ok1, tb_bl, if_true, if_false, Bool.false_eq_true, List.getElem?_cons_succ, List.getElem?_cons_zero, List.set_cons_succ, List.set_cons_zero, Option.some.injEq, Sl.d.injEq, Option.bind_some, runE_rt, runE_nx, Ev_ok, wi_cons, wi_nil, List.replicate, decide_true, decide_false, shl_many hm, eD, x_tup, at0, at1, at2, q_str, sWW, l1, iv_Sq, it_tup, Nat.reduceSub]
      rw [eD] at e
      rw [e]
      simp only [ev_V, ev_Op, ev_Un, ev_C, ev_E, ev_And, ev_Or, ev_Not, ev_If, ev_eAnd, ev_eOr, ev_eNot, ev_Fn, ev_Cons, ev_Nil, ev_Call, ev_CallN, ev_Yes, ev_Fld, sv_Seq, sv_If, sv_Ret, sv_Asg, sv_Nx, sv_For, gv_N, bind_ok, lift_some, nox_ok1, tb_bl, if_true, if_false, Bool.false_eq_true, List.getElem?_cons_succ, List.getElem?_cons_zero, List.set_cons_succ, List.set_cons_zero, Option.some.injEq, Sl.d.injEq, Option.bind_some, runE_rt, runE_nx, Ev_ok, wi_cons, wi_nil, List.replicate, decide_true, decide_false, ev_Lc, iv_Sq, it_lst]
      rw [eD] at hc
      rw [if_pos hz, hc]
      simp only [ev_V, ev_Op, ev_Un, ev_C, ev_E, ev_And, ev_Or, ev_Not, ev_If, ev_eAnd, ev_eOr, ev_eNot, ev_Fn, ev_Cons, ev_Nil, ev_Call, ev_CallN, ev_Yes, ev_Fld, sv_Seq, sv_If, sv_Ret, sv_Asg, sv_Nx, sv_For, gv_N, bind_ok, lift_some, nox_ok1, tb_bl, if_true, if_false, Bool.false_eq_true, List.getElem?_cons_succ, List.getElem?_cons_zero, List.set_cons_succ, List.set_cons_zero, Option.some.injEq, Sl.d.injEq, Option.bind_some, runE_rt, runE_nx, Ev_ok, wi_cons, wi_nil, List.replicate, decide_true, decide_false]
      rfl
    | lots ms =>
      obtain ⟨h0, h, hl⟩ := ok
      have it : itemsD (lotsD ms many) = some (ms.map fun m => lotD (lotN m many)) := rfl
      have eD : Wd.D many (.lots ms) = .tup [.str "lots", lotsD ms many] := rfl
      have hc : compL (gN 10) cYes (eCallN m__law_number (aCons (eV 10) (aNil))) [.d (Wd.D many (.lots ms)), .d (nat many), .d (nat (2 ^ many)), .no, .no, .no, .no, .no, .no, .no, .no] (ms.map fun m => lotD (lotN m many)) = .ok (ms.map nat) := by
        rw [lc_map (fun m => lotD (lotN m many)) nat]
        intro m hmm
        have e := lnumber_eqT (l := lotN m many) (bits_le hm)
        rw [numN_lotN many m (h m hmm).2] at e
        refine ⟨_, rfl, ?_⟩
        simp only [ev_V, ev_Op, ev_Un, ev_C, ev_E, ev_And, ev_Or, ev_Not, ev_If, ev_eAnd, ev_eOr, ev_eNot, ev_Fn, ev_Cons, ev_Nil, ev_Call, ev_CallN, ev_Yes, ev_Fld, sv_Seq, sv_If, sv_Ret, sv_Asg, sv_Nx, sv_For, gv_N, bind_ok, lift_some, nox_ok1, tb_bl, if_true, if_false, Bool.false_eq_true, List.getElem?_cons_succ, List.getElem?_cons_zero, List.set_cons_succ, List.set_cons_zero, Option.some.injEq, Sl.d.injEq, Option.bind_some, runE_rt, runE_nx, Ev_ok, wi_cons, wi_nil, List.replicate, decide_true, decide_false, e]
      have hc2 : compL (gN 8) cYes (eFn fAny (aCons (eLc (iSq (eV 7)) [9] (gN 9) (cYes) (eOp oEq (eOp oBand (eV 8) (eV 9)) (eV 9))) (aNil))) [.d (Wd.D many (.lots ms)), .d (nat many), .d (nat (2 ^ many)), .no, .no, .no, .no, .d (.lst (ms.map nat)), .no, .no, .no] ((List.range (2 ^ many)).map nat) = .ok (bookD (clos ms) (2 ^ many)) := by
        rw [lc_map nat (boolD (clos ms))]
        · rfl
        · intro k _
          refine ⟨_, rfl, ?_⟩
          have hin : compL (gN 9) cYes (eOp oEq (eOp oBand (eV 8) (eV 9)) (eV 9)) [.d (Wd.D many (.lots ms)), .d (nat many), .d (nat (2 ^ many)), .no, .no, .no, .no, .d (.lst (ms.map nat)), .d (nat k), .no, .no] (ms.map nat) = .ok ((ms.map fun m => decide (m &&& k = m)).map D.bl) := by
            rw [lc_map nat (fun m => D.bl (decide (m &&& k = m))), List.map_map]
            · rfl
            · intro m _
              refine ⟨_, rfl, ?_⟩
              have e2 := o_bandN k m
              simp only [ev_V, ev_Op, ev_Un, ev_C, ev_E, ev_And, ev_Or, ev_Not, ev_If, ev_eAnd, ev_eOr, ev_eNot, ev_Fn, ev_Cons, ev_Nil, ev_Call, ev_CallN, ev_Yes, ev_Fld, sv_Seq, sv_If, sv_Ret, sv_Asg, sv_Nx, sv_For, gv_N, bind_ok, lift_some, nox_ok1, tb_bl, if_true, if_false, Bool.false_eq_true, List.getElem?_cons_succ, List.getElem?_cons_zero, List.set_cons_succ, List.set_cons_zero, Option.some.injEq, Sl.d.injEq, Option.bind_some, runE_rt, runE_nx, Ev_ok, wi_cons, wi_nil, List.replicate, decide_true, decide_false, nat, e2, q_int]
              congr 2
              rw [Nat.and_comm, decide_eq_decide]
              omega
          have hz : ms.length ≤ sizeLine := by omega
          simp only [ev_V, ev_Op, ev_Un, ev_C, ev_E, ev_And, ev_Or, ev_Not, ev_If, ev_eAnd, ev_eOr, ev_eNot, ev_Fn, ev_Cons, ev_Nil, ev_Call, ev_CallN, ev_Yes, ev_Fld, sv_Seq, sv_If, sv_Ret, sv_Asg, sv_Nx, sv_For, gv_N, bind_ok, lift_some, nox_ok1, tb_bl, if_true, if_false, Bool.false_eq_true, List.getElem?_cons_succ, List.getElem?_cons_zero, List.set_cons_succ, List.set_cons_zero, Option.some.injEq, Sl.d.injEq, Option.bind_some, runE_rt, runE_nx, Ev_ok, wi_cons, wi_nil, List.replicate, decide_true, decide_false, ev_Lc, iv_Sq, it_lst, List.length_map]
          rw [if_pos hz, hin]
          simp only [ev_V, ev_Op, ev_Un, ev_C, ev_E, ev_And, ev_Or, ev_Not, ev_If, ev_eAnd, ev_eOr, ev_eNot, ev_Fn, ev_Cons, ev_Nil, ev_Call, ev_CallN, ev_Yes, ev_Fld, sv_Seq, sv_If, sv_Ret, sv_Asg, sv_Nx, sv_For, gv_N, bind_ok, lift_some, nox_ok1, tb_bl, if_true, if_false, Bool.false_eq_true, List.getElem?_cons_succ, List.getElem?_cons_zero, List.set_cons_succ, List.set_cons_zero, Option.some.injEq, Sl.d.injEq, Option.bind_some, runE_rt, runE_nx, Ev_ok, wi_cons, wi_nil, List.replicate, decide_true, decide_false]
          rw [f_any _ (blsD_map _)]
          simp only [ev_V, ev_Op, ev_Un, ev_C, ev_E, ev_And, ev_Or, ev_Not, ev_If, ev_eAnd, ev_eOr, ev_eNot, ev_Fn, ev_Cons, ev_Nil, ev_Call, ev_CallN, ev_Yes, ev_Fld, sv_Seq, sv_If, sv_Ret, sv_Asg, sv_Nx, sv_For, gv_N, bind_ok, lift_some, nox_ok1, tb_bl, if_true, if_false, Bool.false_eq_true, List.getElem?_cons_succ, List.getElem?_cons_zero, List.set_cons_succ, List.set_cons_zero, Option.some.injEq, Sl.d.injEq, Option.bind_some, runE_rt, runE_nx, Ev_ok, wi_cons, wi_nil, List.replicate, decide_true, decide_false]
          unfold boolD clos
          rw [List.any_map]
          rfl
      simp only [ev_V, ev_Op, ev_Un, ev_C, ev_E, ev_And, ev_Or, ev_Not, ev_If, ev_eAnd, ev_eOr, ev_eNot, ev_Fn, ev_Cons, ev_Nil, ev_Call, ev_CallN, ev_Yes, ev_Fld, sv_Seq, sv_If, sv_Ret, sv_Asg, sv_Nx, sv_For, gv_N, bind_ok, lift_some, nox_ok1, tb_bl, if_true, if_false, Bool.false_eq_true, List.getElem?_cons_succ, List.getElem?_cons_zero, List.set_cons_succ, List.set_cons_zero, Option.some.injEq, Sl.d.injEq, Option.bind_some, runE_rt, runE_nx, Ev_ok, wi_cons, wi_nil, List.replicate, decide_true, decide_false, shl_many hm, eD, x_tup, at0, at1, q_str, sLW, sLL, ev_Lc, iv_Sq, it, List.length_map, Nat.reduceSub]
      rw [eD] at hc hc2
      rw [if_pos (show ms.length ≤ sizeLine by omega), hc]
      simp only [ev_V, ev_Op, ev_Un, ev_C, ev_E, ev_And, ev_Or, ev_Not, ev_If, ev_eAnd, ev_eOr, ev_eNot, ev_Fn, ev_Cons, ev_Nil, ev_Call, ev_CallN, ev_Yes, ev_Fld, sv_Seq, sv_If, sv_Ret, sv_Asg, sv_Nx, sv_For, gv_N, bind_ok, lift_some, nox_ok1, tb_bl, if_true, if_false, Bool.false_eq_true, List.getElem?_cons_succ, List.getElem?_cons_zero, List.set_cons_succ, List.set_cons_zero, Option.some.injEq, Sl.d.injEq, Option.bind_some, runE_rt, runE_nx, Ev_ok, wi_cons, wi_nil, List.replicate, decide_true, decide_false, ev_Lc, hR, List.length_map, List.length_range]
      rw [if_pos (show 2 ^ many ≤ sizeLine by omega), hc2]
      simp only [ev_V, ev_Op, ev_Un, ev_C, ev_E, ev_And, ev_Or, ev_Not, ev_If, ev_eAnd, ev_eOr, ev_eNot, ev_Fn, ev_Cons, ev_Nil, ev_Call, ev_CallN, ev_Yes, ev_Fld, sv_Seq, sv_If, sv_Ret, sv_Asg, sv_Nx, sv_For, gv_N, bind_ok, lift_some, nox_ok1, tb_bl, if_true, if_false, Bool.false_eq_true, List.getElem?_cons_succ, List.getElem?_cons_zero, List.set_cons_succ, List.set_cons_zero, Option.some.injEq, Sl.d.injEq, Option.bind_some, runE_rt, runE_nx, Ev_ok, wi_cons, wi_nil, List.replicate, decide_true, decide_false]
      rfl
    | opp a =>
      have ea := ih a (by simp only [Wd.dep] at hd; omega) ok
      have eD : Wd.D many (.opp a) = .tup [.str "opposite", a.D many] := rfl
      have hc : compL (gN 8) cYes (eNot (eOp oIx (eV 3) (eOp oSub (eOp oSub (eV 2) (eC (.int 1))) (eV 8)))) [.d (Wd.D many (.opp a)), .d (nat many), .d (nat (2 ^ many)), .d (.lst (bookD (a.f many) (2 ^ many))), .no, .no, .no, .no, .no, .no, .no] ((List.range (2 ^ many)).map nat) = .ok (bookD (fun n => !a.f many (2 ^ many - 1 - n)) (2 ^ many)) := by
        rw [lc_map nat (boolD fun n => !a.f many (2 ^ many - 1 - n))]
        · rfl
        · intro k hk
          have hk := List.mem_range.mp hk
          have s1 : oSub (nat (2 ^ many)) (.int 1) = some (nat (2 ^ many - 1)) := by
            unfold nat
            rw [o_sub]
            congr 2
            omega
          have s2 : oSub (nat (2 ^ many - 1)) (nat k) = some (nat (2 ^ many - 1 - k)) := by
            unfold nat
            rw [o_sub]
            congr 2
            omega
          have i1 : oIx (.lst (bookD (a.f many) (2 ^ many))) (nat (2 ^ many - 1 - k)) = some (.bl (a.f many (2 ^ many - 1 - k))) := ixL (book_at (by omega))
          refine ⟨_, rfl, ?_⟩
          simp only [ev_V, ev_Op, ev_Un, ev_C, ev_E, ev_And, ev_Or, ev_Not, ev_If, ev_eAnd, ev_eOr, ev_eNot, ev_Fn, ev_Cons, ev_Nil, ev_Call, ev_CallN, ev_Yes, ev_Fld, sv_Seq, sv_If, sv_Ret, sv_Asg, sv_Nx, sv_For, gv_N, bind_ok, lift_some, nox_ok1, tb_bl, if_true, if_false, Bool.false_eq_true, List.getElem?_cons_succ, List.getElem?_cons_zero, List.set_cons_succ, List.set_cons_zero, Option.some.injEq, Sl.d.injEq, Option.bind_some, runE_rt, runE_nx, Ev_ok, wi_cons, wi_nil, List.replicate, decide_true, decide_false, s1, s2, i1]
          rfl
      simp only [ev_V, ev_Op, ev_Un, ev_C, ev_E, ev_And, ev_Or, ev_Not, ev_If, ev_eAnd, ev_eOr, ev_eNot, ev_Fn, ev_Cons, ev_Nil, ev_Call, ev_CallN, ev_Yes, ev_Fld, sv_Seq, sv_If, sv_Ret, sv_Asg, sv_Nx, sv_For, gv_N, bind_ok, lift_some, nox_ok1, tb_bl, if_true, if_false, Bool.false_eq_true, List.getElem?_cons_succ, List.getElem?_cons_zero, List.set_cons_succ, List.set_cons_zero, Option.some.injEq, Sl.d.injEq, Option.bind_some, runE_rt, runE_nx, Ev_ok, wi_cons, wi_nil, List.replicate, decide_true, decide_false, shl_many hm, eD, x_tup, at0, at1, q_str, sOW, sOL, sOO, ea, ev_Lc, hR, List.length_map, List.length_range, Nat.reduceSub]
      rw [eD] at hc
      rw [if_pos (show 2 ^ many ≤ sizeLine by omega), hc]
      simp only [ev_V, ev_Op, ev_Un, ev_C, ev_E, ev_And, ev_Or, ev_Not, ev_If, ev_eAnd, ev_eOr, ev_eNot, ev_Fn, ev_Cons, ev_Nil, ev_Call, ev_CallN, ev_Yes, ev_Fld, sv_Seq, sv_If, sv_Ret, sv_Asg, sv_Nx, sv_For, gv_N, bind_ok, lift_some, nox_ok1, tb_bl, if_true, if_false, Bool.false_eq_true, List.getElem?_cons_succ, List.getElem?_cons_zero, List.set_cons_succ, List.set_cons_zero, Option.some.injEq, Sl.d.injEq, Option.bind_some, runE_rt, runE_nx, Ev_ok, wi_cons, wi_nil, List.replicate, decide_true, decide_false]
      rfl
    | both a b =>
      have ea := ih a (by simp only [Wd.dep] at hd; omega) ok.1
      have eb := ih b (by simp only [Wd.dep] at hd; omega) ok.2
      have eD : Wd.D many (.both a b) = .tup [.str "both", a.D many, b.D many] := rfl
      have hc : compL (gN 8) cYes (eAnd (eOp oIx (eV 3) (eV 8)) (eOp oIx (eV 4) (eV 8))) [.d (Wd.D many (.both a b)), .d (nat many), .d (nat (2 ^ many)), .d (.lst (bookD (a.f many) (2 ^ many))), .d (.lst (bookD (b.f many) (2 ^ many))), .no, .no, .no, .no, .no, .no] ((List.range (2 ^ many)).map nat) = .ok (bookD (fun n => a.f many n && b.f many n) (2 ^ many)) := by
        rw [lc_map nat (boolD fun n => a.f many n && b.f many n)]
        · rfl
        · intro k hk
          have hk := List.mem_range.mp hk
          have i1 : oIx (.lst (bookD (a.f many) (2 ^ many))) (nat k) = some (.bl (a.f many k)) := ixL (book_at hk)
          have i2 : oIx (.lst (bookD (b.f many) (2 ^ many))) (nat k) = some (.bl (b.f many k)) := ixL (book_at hk)
          refine ⟨_, rfl, ?_⟩
          simp only [ev_V, ev_Op, ev_Un, ev_C, ev_E, ev_And, ev_Or, ev_Not, ev_If, ev_eAnd, ev_eOr, ev_eNot, ev_Fn, ev_Cons, ev_Nil, ev_Call, ev_CallN, ev_Yes, ev_Fld, sv_Seq, sv_If, sv_Ret, sv_Asg, sv_Nx, sv_For, gv_N, bind_ok, lift_some, nox_ok1, tb_bl, if_true, if_false, Bool.false_eq_true, List.getElem?_cons_succ, List.getElem?_cons_zero, List.set_cons_succ, List.set_cons_zero, Option.some.injEq, Sl.d.injEq, Option.bind_some, runE_rt, runE_nx, Ev_ok, wi_cons, wi_nil, List.replicate, decide_true, decide_false, i1, i2]
          show _ = Res.ok (D.bl (a.f many k && b.f many k))
          cases a.f many k <;> simp
      simp only [ev_V, ev_Op, ev_Un, ev_C, ev_E, ev_And, ev_Or, ev_Not, ev_If, ev_eAnd, ev_eOr, ev_eNot, ev_Fn, ev_Cons, ev_Nil, ev_Call, ev_CallN, ev_Yes, ev_Fld, sv_Seq, sv_If, sv_Ret, sv_Asg, sv_Nx, sv_For, gv_N, bind_ok, lift_some, nox_ok1, tb_bl, if_true, if_false, Bool.false_eq_true, List.getElem?_cons_succ, List.getElem?_cons_zero, List.set_cons_succ, List.set_cons_zero, Option.some.injEq, Sl.d.injEq, Option.bind_some, runE_rt, runE_nx, Ev_ok, wi_cons, wi_nil, List.replicate, decide_true, decide_false, shl_many hm, eD, x_tup, at0, at1, at2, q_str, sBW, sBL, sBO, sBB, ea, eb, ev_Lc, hR, List.length_map, List.length_range, Nat.reduceSub]
      rw [eD] at hc
      rw [if_pos (show 2 ^ many ≤ sizeLine by omega), hc]
      simp only [ev_V, ev_Op, ev_Un, ev_C, ev_E, ev_And, ev_Or, ev_Not, ev_If, ev_eAnd, ev_eOr, ev_eNot, ev_Fn, ev_Cons, ev_Nil, ev_Call, ev_CallN, ev_Yes, ev_Fld, sv_Seq, sv_If, sv_Ret, sv_Asg, sv_Nx, sv_For, gv_N, bind_ok, lift_some, nox_ok1, tb_bl, if_true, if_false, Bool.false_eq_true, List.getElem?_cons_succ, List.getElem?_cons_zero, List.set_cons_succ, List.set_cons_zero, Option.some.injEq, Sl.d.injEq, Option.bind_some, runE_rt, runE_nx, Ev_ok, wi_cons, wi_nil, List.replicate, decide_true, decide_false]
      rfl
    | either a b =>
      have ea := ih a (by simp only [Wd.dep] at hd; omega) ok.1
      have eb := ih b (by simp only [Wd.dep] at hd; omega) ok.2
      have eD : Wd.D many (.either a b) = .tup [.str "either", a.D many, b.D many] := rfl
      have hc : compL (gN 8) cYes (eOr (eOp oIx (eV 3) (eV 8)) (eOp oIx (eV 4) (eV 8))) [.d (Wd.D many (.either a b)), .d (nat many), .d (nat (2 ^ many)), .d (.lst (bookD (a.f many) (2 ^ many))), .d (.lst (bookD (b.f many) (2 ^ many))), .no, .no, .no, .no, .no, .no] ((List.range (2 ^ many)).map nat) = .ok (bookD (fun n => a.f many n || b.f many n) (2 ^ many)) := by
        rw [lc_map nat (boolD fun n => a.f many n || b.f many n)]
        · rfl
        · intro k hk
          have hk := List.mem_range.mp hk
          have i1 : oIx (.lst (bookD (a.f many) (2 ^ many))) (nat k) = some (.bl (a.f many k)) := ixL (book_at hk)
          have i2 : oIx (.lst (bookD (b.f many) (2 ^ many))) (nat k) = some (.bl (b.f many k)) := ixL (book_at hk)
          refine ⟨_, rfl, ?_⟩
          simp only [ev_V, ev_Op, ev_Un, ev_C, ev_E, ev_And, ev_Or, ev_Not, ev_If, ev_eAnd, ev_eOr, ev_eNot, ev_Fn, ev_Cons, ev_Nil, ev_Call, ev_CallN, ev_Yes, ev_Fld, sv_Seq, sv_If, sv_Ret, sv_Asg, sv_Nx, sv_For, gv_N, bind_ok, lift_some, nox_ok1, tb_bl, if_true, if_false, Bool.false_eq_true, List.getElem?_cons_succ, List.getElem?_cons_zero, List.set_cons_succ, List.set_cons_zero, Option.some.injEq, Sl.d.injEq, Option.bind_some, runE_rt, runE_nx, Ev_ok, wi_cons, wi_nil, List.replicate, decide_true, decide_false, i1, i2]
          show _ = Res.ok (D.bl (a.f many k || b.f many k))
          cases a.f many k <;> simp
      simp only [ev_V, ev_Op, ev_Un, ev_C, ev_E, ev_And, ev_Or, ev_Not, ev_If, ev_eAnd, ev_eOr, ev_eNot, ev_Fn, ev_Cons, ev_Nil, ev_Call, ev_CallN, ev_Yes, ev_Fld, sv_Seq, sv_If, sv_Ret, sv_Asg, sv_Nx, sv_For, gv_N, bind_ok, lift_some, nox_ok1, tb_bl, if_true, if_false, Bool.false_eq_true, List.getElem?_cons_succ, List.getElem?_cons_zero, List.set_cons_succ, List.set_cons_zero, Option.some.injEq, Sl.d.injEq, Option.bind_some, runE_rt, runE_nx, Ev_ok, wi_cons, wi_nil, List.replicate, decide_true, decide_false, shl_many hm, eD, x_tup, at0, at1, at2, q_str, sEW, sEL, sEO, sEB, ea, eb, ev_Lc, hR, List.length_map, List.length_range, Nat.reduceSub]
      rw [eD] at hc
      rw [if_pos (show 2 ^ many ≤ sizeLine by omega), hc]
      simp only [ev_V, ev_Op, ev_Un, ev_C, ev_E, ev_And, ev_Or, ev_Not, ev_If, ev_eAnd, ev_eOr, ev_eNot, ev_Fn, ev_Cons, ev_Nil, ev_Call, ev_CallN, ev_Yes, ev_Fld, sv_Seq, sv_If, sv_Ret, sv_Asg, sv_Nx, sv_For, gv_N, bind_ok, lift_some, nox_ok1, tb_bl, if_true, if_false, Bool.false_eq_true, List.getElem?_cons_succ, List.getElem?_cons_zero, List.set_cons_succ, List.set_cons_zero, Option.some.injEq, Sl.d.injEq, Option.bind_some, runE_rt, runE_nx, Ev_ok, wi_cons, wi_nil, List.replicate, decide_true, decide_false]
      rfl
theorem lrule_eq : ∀ (n : Nat) (w : Wd), w.dep < n → w.Ok many → ∃ d, mr__law_rule n [w.D many, nat many] = .ok d ∧ IsRule d many (w.f many) := by
  have sb := size_big
  have p9 := pow9 hm
  intro n
  induction n with
  | zero => intro w h; exact absurd h (Nat.not_lt_zero _)
  | succ n ih =>
    intro w hd ok
    show ∃ d, r__law_rule (mr__law_rule n) _ = .ok d ∧ _
    unfold r__law_rule
    rw [run2]
    cases w with
    | wt ws q =>
      obtain ⟨hl, h0, h1, h2⟩ := ok
      obtain ⟨d, e, R⟩ := weighted_eq (ws := ws) (q := q) (by omega) h0 h1 h2
      rw [hl] at R
      refine ⟨d, ?_, R⟩
      have eD : Wd.D many (.wt ws q) = .tup [.str "weights", tupI ws, .int q] := rfl
      simp only [ev_V, ev_Op, ev_Un, ev_C, ev_E, ev_And, ev_Or, ev_Not, ev_If, ev_eAnd, ev_eOr, ev_eNot, ev_Fn, ev_Cons, ev_Nil, ev_Call, ev_CallN, ev_Yes, ev_Fld, sv_Seq, sv_If, sv_Ret, sv_Asg, sv_Nx, sv_For, gv_N, bind_ok, lift_some, nox_ok1, tb_bl, if_true, if_false, Bool.false_eq_true, List.getElem?_cons_succ, List.getElem?_cons_zero, List.set_cons_succ, List.set_cons_zero, Option.some.injEq, Sl.d.injEq, Option.bind_some, runE_rt, runE_nx, Ev_ok, wi_cons, wi_nil, List.replicate, decide_true, decide_false, eD, x_tup, at0, at1, at2, q_str, sWW, e]
    | lots ms =>
      obtain ⟨h0, h, hl⟩ := ok
      obtain ⟨d, e, R⟩ := rule_eq hm h0 h (by omega)
      refine ⟨d, ?_, R⟩
      have eD : Wd.D many (.lots ms) = .tup [.str "lots", lotsD ms many] := rfl
      simp only [ev_V, ev_Op, ev_Un, ev_C, ev_E, ev_And, ev_Or, ev_Not, ev_If, ev_eAnd, ev_eOr, ev_eNot, ev_Fn, ev_Cons, ev_Nil, ev_Call, ev_CallN, ev_Yes, ev_Fld, sv_Seq, sv_If, sv_Ret, sv_Asg, sv_Nx, sv_For, gv_N, bind_ok, lift_some, nox_ok1, tb_bl, if_true, if_false, Bool.false_eq_true, List.getElem?_cons_succ, List.getElem?_cons_zero, List.set_cons_succ, List.set_cons_zero, Option.some.injEq, Sl.d.injEq, Option.bind_some, runE_rt, runE_nx, Ev_ok, wi_cons, wi_nil, List.replicate, decide_true, decide_false, eD, x_tup, at0, at1, q_str, sLW, sLL, e]
    | opp a =>
      obtain ⟨d1, e1, R1⟩ := ih a (by simp only [Wd.dep] at hd; omega) ok
      obtain ⟨d, e, R⟩ := inv_eq hm R1
      obtain ⟨fs, ho⟩ := R1.obj
      refine ⟨d, ?_, R⟩
      have eD : Wd.D many (.opp a) = .tup [.str "opposite", a.D many] := rfl
      simp only [ev_V, ev_Op, ev_Un, ev_C, ev_E, ev_And, ev_Or, ev_Not, ev_If, ev_eAnd, ev_eOr, ev_eNot, ev_Fn, ev_Cons, ev_Nil, ev_Call, ev_CallN, ev_Yes, ev_Fld, sv_Seq, sv_If, sv_Ret, sv_Asg, sv_Nx, sv_For, gv_N, bind_ok, lift_some, nox_ok1, tb_bl, if_true, if_false, Bool.false_eq_true, List.getElem?_cons_succ, List.getElem?_cons_zero, List.set_cons_succ, List.set_cons_zero, Option.some.injEq, Sl.d.injEq, Option.bind_some, runE_rt, runE_nx, Ev_ok, wi_cons, wi_nil, List.replicate, decide_true, decide_false, eD, x_tup, at0, at1, q_str, sOW, sOL, sOO, e1, own1 ho e]
    | both a b =>
      obtain ⟨d1, e1, R1⟩ := ih a (by simp only [Wd.dep] at hd; omega) ok.1
      obtain ⟨d2, e2, R2⟩ := ih b (by simp only [Wd.dep] at hd; omega) ok.2
      obtain ⟨d, e, R⟩ := and_eq hm R1 R2
      obtain ⟨fs, ho⟩ := R1.obj
      obtain ⟨fs2, ho2⟩ := R2.obj
      refine ⟨d, ?_, R⟩
      have eD : Wd.D many (.both a b) = .tup [.str "both", a.D many, b.D many] := rfl
      simp only [ev_V, ev_Op, ev_Un, ev_C, ev_E, ev_And, ev_Or, ev_Not, ev_If, ev_eAnd, ev_eOr, ev_eNot, ev_Fn, ev_Cons, ev_Nil, ev_Call, ev_CallN, ev_Yes, ev_Fld, sv_Seq, sv_If, sv_Ret, sv_Asg, sv_Nx, sv_For, gv_N, bind_ok, lift_some, nox_ok1, tb_bl, if_true, if_false, Bool.false_eq_true, List.getElem?_cons_succ, List.getElem?_cons_zero, List.set_cons_succ, List.set_cons_zero, Option.some.injEq, Sl.d.injEq, Option.bind_some, runE_rt, runE_nx, Ev_ok, wi_cons, wi_nil, List.replicate, decide_true, decide_false, eD, x_tup, at0, at1, at2, q_str, sBW, sBL, sBO, sBB, e1, e2, own2 ho ho2 e]
    | either a b =>
      obtain ⟨d1, e1, R1⟩ := ih a (by simp only [Wd.dep] at hd; omega) ok.1
      obtain ⟨d2, e2, R2⟩ := ih b (by simp only [Wd.dep] at hd; omega) ok.2
      obtain ⟨d, e, R⟩ := or_eq hm R1 R2
      obtain ⟨fs, ho⟩ := R1.obj
      obtain ⟨fs2, ho2⟩ := R2.obj
      refine ⟨d, ?_, R⟩
      have eD : Wd.D many (.either a b) = .tup [.str "either", a.D many, b.D many] := rfl
      simp only [ev_V, ev_Op, ev_Un, ev_C, ev_E, ev_And, ev_Or, ev_Not, ev_If, ev_eAnd, ev_eOr, ev_eNot, ev_Fn, ev_Cons, ev_Nil, ev_Call, ev_CallN, ev_Yes, ev_Fld, sv_Seq, sv_If, sv_Ret, sv_Asg, sv_Nx, sv_For, gv_N, bind_ok, lift_some, nox_ok1, tb_bl, if_true, if_false, Bool.false_eq_true, List.getElem?_cons_succ, List.getElem?_cons_zero, List.set_cons_succ, List.set_cons_zero, Option.some.injEq, Sl.d.injEq, Option.bind_some, runE_rt, runE_nx, Ev_ok, wi_cons, wi_nil, List.replicate, decide_true, decide_false, eD, x_tup, at0, at1, at2, q_str, sEW, sEL, sEO, sEB, e1, e2, own2 ho ho2 e]
end
end L2.DL.MM
/-! the laws' draws: words of rules -/
namespace L2.DL.MM
open PySem PyProof.Rows PySem.Spec
theorem Fit.at : ∀ {rs ss : List Int} {i : Nat} {s : Int}, Fit rs ss → ss[i]? = some s → ∃ r, rs[i]? = some r ∧ 0 ≤ r ∧ r < s
  | [], [], i, s, _, h => by simp at h
  | r :: rs, s :: ss, 0, t, h, e => by
    simp at e
    subst e
    exact ⟨r, rfl, h.1, h.2.1⟩
  | r :: rs, s :: ss, i + 1, t, h, e => by
    rw [List.getElem?_cons_succ] at e
    obtain ⟨x, a, b⟩ := Fit.at h.2.2 e
    exact ⟨x, by rw [List.getElem?_cons_succ]; exact a, b⟩
  | [], _ :: _, _, _, h, _ => h.elim
  | _ :: _, [], _, _, h, _ => h.elim
theorem ixR {rs : List Int} {i : Nat} {r : Int} (h : rs[i]? = some r) : oIx (lstI rs) (nat i) = some (.int r) := ixL (by rw [List.getElem?_map, h]; rfl)
/-- a part of a list from its beginning -/
theorem cut_take {xs : List D} {k : Nat} (h : k ≤ xs.length) : cutL xs none (some (k : Int)) = xs.take k := by
  unfold cutL
  rw [HT.sIx_nat]
  show ((xs.drop 0).take (min k xs.length - 0)) = _
  rw [List.drop_zero, Nat.sub_zero, Nat.min_eq_left h]
theorem rep_len (n : Nat) (x : Int) : (List.replicate n x).length = n := List.length_replicate
theorem rep_sum (n : Nat) : (List.replicate n (1 : Int)).sum = n := by
  induction n with
  | zero => rfl
  | succ n ih => rw [List.replicate_succ, List.sum_cons, ih]; omega
theorem const_map (many : Nat) : ((List.range many).map fun _ => D.int 1) = (List.replicate many (1 : Int)).map D.int := by
  rw [List.map_replicate]
  apply List.ext_getElem
  · simp
  · intro i h1 h2
    simp
def wordSizes : List Int := [12, 1000, 31, 31, 31, 31, 31, 31, 31, 31, 31, 512, 512, 512]
theorem wordSizes_eq : (.lst ([.int 12, .int 1000] ++ [.int 31, .int 31, .int 31, .int 31, .int 31, .int 31, .int 31, .int 31, .int 31] ++ [.int 512, .int 512, .int 512]) : D) = lstI wordSizes := rfl
theorem nat_add (a b : Nat) : oAdd (nat a) (nat b) = some (nat (a + b)) := by
  unfold nat
  rw [o_add]
  congr 2
theorem two_add (k : Nat) : oAdd (.int 2) (nat k) = some (nat (2 + k)) := nat_add 2 k
theorem el_add (k : Nat) : oAdd (.int 11) (nat k) = some (nat (11 + k)) := nat_add 11 k
theorem one_add (k : Nat) : oAdd (.int 1) (nat k) = some (nat (1 + k)) := nat_add 1 k
def sel (r : Int) : Int := [31, 4, 2, 6].getD (r.fmod 4).toNat 31
theorem sel_pos (r : Int) : 0 < sel r := by
  have f := fmod_in r (k := 4) (by decide)
  unfold sel
  rcases (show (r.fmod 4).toNat = 0 ∨ (r.fmod 4).toNat = 1 ∨ (r.fmod 4).toNat = 2 ∨ (r.fmod 4).toNat = 3 by omega) with e | e | e | e <;> rw [e] <;> decide
theorem sel_at (r : Int) : oIx (.lst [.int 31, .int 4, .int 2, .int 6]) (.int (r.fmod 4)) = some (.int (sel r)) := by
  have f := fmod_in r (k := 4) (by decide)
  refine ixLI f.1 ?_
  unfold sel
  rcases (show (r.fmod 4).toNat = 0 ∨ (r.fmod 4).toNat = 1 ∨ (r.fmod 4).toNat = 2 ∨ (r.fmod 4).toNat = 3 by omega) with e | e | e | e <;> rw [e] <;> rfl
/-- the draw of a lot -/
def lotOf (many : Nat) (r : Int) : Nat := 1 + ((r.fmod 511).fmod ((2 ^ many - 1 : Nat) : Int)).toNat
theorem lotOf_ok {many : Nat} (h : 1 ≤ many) (r : Int) : 1 ≤ lotOf many r ∧ lotOf many r < 2 ^ many := by
  have p : 2 ≤ 2 ^ many := Nat.le_trans (by decide) (Nat.pow_le_pow_right (by decide) h)
  have f := fmod_in (r.fmod 511) (k := ((2 ^ many - 1 : Nat) : Int)) (by omega)
  unfold lotOf
  omega
theorem all_ge {ws : List Int} {x : Int} (h : ws = List.replicate ws.length x) (hx : 0 ≤ x) : ∀ w ∈ ws, 0 ≤ w := fun w hw => by
  rw [h] at hw
  have := List.eq_of_mem_replicate hw
  omega
theorem sum_pos : ∀ {ws : List Int}, (∀ w ∈ ws, 0 ≤ w) → 0 ≤ ws.sum
  | [], _ => Int.le_refl _
  | w :: ws, h => by
    have a := h w (by simp)
    have b := sum_pos (ws := ws) fun x hx => h x (by simp [hx])
    rw [List.sum_cons]
    omega
section
variable {many : Nat} (hm : many ≤ 9) (h1 : 1 ≤ many)
include hm h1
def alikeW (many : Nat) : List Int := List.replicate many 1
omit hm in
theorem alike_ok {q : Int} (a : 1 ≤ q) (b : q ≤ many) : (Wd.wt (alikeW many) q).Ok many := by
  refine ⟨rep_len _ _, all_ge (x := 1) (by rw [alikeW, rep_len]) (by decide), a, ?_⟩
  unfold alikeW
  rw [rep_sum]
  exact b
theorem words_eq {row : List Int} (ft : Fit row wordSizes) : ∃ w : Wd, m__law_words [lstI row, nat many] = .ok (w.D many) ∧ w.Ok many ∧ w.dep ≤ 1 := by
  have sb := size_big
  obtain ⟨r0, e0, a0, b0⟩ := Fit.at (i := 0) ft rfl
  obtain ⟨r1, e1, a1, b1⟩ := Fit.at (i := 1) ft rfl
  have at0' : oIx (lstI row) (.int 0) = some (.int r0) := ixR (i := 0) e0
  have at1' : oIx (lstI row) (.int 1) = some (.int r1) := ixR (i := 1) e1
  have wsAt : ∀ k, k < many → ∃ r, row[2 + k]? = some r ∧ 0 ≤ r := fun k hk => by
    have : wordSizes[2 + k]? = some 31 := by
      rcases (show k = 0 ∨ k = 1 ∨ k = 2 ∨ k = 3 ∨ k = 4 ∨ k = 5 ∨ k = 6 ∨ k = 7 ∨ k = 8 by omega) with h | h | h | h | h | h | h | h | h <;> subst h <;> rfl
    obtain ⟨r, h1, h2, _⟩ := Fit.at ft this
    exact ⟨r, h1, h2⟩
  have ltAt : ∀ k, k < 3 → ∃ r, row[11 + k]? = some r ∧ 0 ≤ r := fun k hk => by
    have : wordSizes[11 + k]? = some 512 := by
      rcases (show k = 0 ∨ k = 1 ∨ k = 2 by omega) with h | h | h <;> subst h <;> rfl
    obtain ⟨r, h1, h2, _⟩ := Fit.at ft this
    exact ⟨r, h1, h2⟩
  have md4 : oMod (.int r1) (.int 4) = some (.int (r1.fmod 4)) := o_mod (by decide)
  obtain ⟨w0, hw0⟩ : ∃ w0 : List Int, w0 = (List.range many).map fun k => (row.getD (2 + k) 0).fmod (sel r1) := ⟨_, rfl⟩
  have w0len : w0.length = many := by rw [hw0]; simp
  have w0pos : ∀ w ∈ w0, 0 ≤ w := fun w hw => by
    rw [hw0] at hw
    obtain ⟨k, _, rfl⟩ := List.mem_map.mp hw
    exact (fmod_in _ (sel_pos r1)).1
  have l4 : oLst [.int 31, .int 4, .int 2, .int 6] = some (.lst [.int 31, .int 4, .int 2, .int 6]) := o_lst (by show 4 ≤ sizeLine; decide)
  suffices main : Ev (m__law_words [lstI row, nat many]) (fun d => ∃ w : Wd, d = w.D many ∧ w.Ok many ∧ w.dep ≤ 1) from by
    obtain ⟨d, e, w, ed, ok, dp⟩ := main.get
    exact ⟨w, by rw [e, ed], ok, dp⟩
  unfold m__law_words
  rw [run2]
  -- alike
  refine step1 (ρ' := [.d (lstI row), .d (nat many), .d (tupI (alikeW many)), .no, .no, .no, .no, .no, .no, .no]) ?_ ?_
  · have hr : ∀ ρ : List Sl, ρ[1]? = some (.d (nat many)) → iR1 (aCons (eV 1) (aNil)) ρ = .ok ((List.range many).map nat) := fun ρ h => rg1 (by omega) (by rw [ev_Cons, ev_V 1 h]; rfl)
    have hc : compL (gN 9) cYes (eC (.int 1)) [.d (lstI row), .d (nat many), .no, .no, .no, .no, .no, .no, .no, .no] ((List.range many).map nat) = .ok ((alikeW many).map D.int) := by
      rw [lc_map nat (fun _ => D.int 1), const_map]
      · rfl
      · intro k _; exact ⟨_, rfl, rfl⟩
    simp only [ev_V, ev_Op, ev_Un, ev_C, ev_E, ev_And, ev_Or, ev_Not, ev_If, ev_eAnd, ev_eOr, ev_eNot, ev_Fn, ev_Cons, ev_Nil, ev_Call, ev_CallN, ev_Yes, ev_Fld, sv_Seq, sv_If, sv_Ret, sv_Asg, sv_Nx, sv_For, gv_N, bind_ok, lift_some, nox_ok1, tb_bl, if_true, if_false, Bool.false_eq_true, List.getElem?_cons_succ, List.getElem?_cons_zero, List.set_cons_succ, List.set_cons_zero, Option.some.injEq, Sl.d.injEq, Option.bind_some, runE_rt, runE_nx, Ev_ok, wi_cons, wi_nil, List.replicate, decide_true, decide_false, ev_Lc, hr, List.length_map, List.length_range, Nat.reduceSub]
    rw [if_pos (show many ≤ sizeLine by omega), hc]
    simp only [ev_V, ev_Op, ev_Un, ev_C, ev_E, ev_And, ev_Or, ev_Not, ev_If, ev_eAnd, ev_eOr, ev_eNot, ev_Fn, ev_Cons, ev_Nil, ev_Call, ev_CallN, ev_Yes, ev_Fld, sv_Seq, sv_If, sv_Ret, sv_Asg, sv_Nx, sv_For, gv_N, bind_ok, lift_some, nox_ok1, tb_bl, if_true, if_false, Bool.false_eq_true, List.getElem?_cons_succ, List.getElem?_cons_zero, List.set_cons_succ, List.set_cons_zero, Option.some.injEq, Sl.d.injEq, Option.bind_some, runE_rt, runE_nx, Ev_ok, wi_cons, wi_nil, List.replicate, decide_true, decide_false, f_tupL]
  -- weights
  refine step1 (ρ' := [.d (lstI row), .d (nat many), .d (tupI (alikeW many)), .d (tupI w0), .no, .no, .no, .no, .no, .no]) ?_ ?_
  · have hr : ∀ ρ : List Sl, ρ[1]? = some (.d (nat many)) → iR1 (aCons (eV 1) (aNil)) ρ = .ok ((List.range many).map nat) := fun ρ h => rg1 (by omega) (by rw [ev_Cons, ev_V 1 h]; rfl)
    have hc : compL (gN 9) cYes (eOp oMod (eFn fInt (aCons (eOp oIx (eV 0) (eOp oAdd (eC (.int 2)) (eV 9))) (aNil))) (eOp oIx (eFn oLst (aCons (eC (.int 31)) (aCons (eC (.int 4)) (aCons (eC (.int 2)) (aCons (eC (.int 6)) (aNil)))))) (eOp oMod (eFn fInt (aCons (eOp oIx (eV 0) (eC (.int 1))) (aNil))) (eC (.int 4))))) [.d (lstI row), .d (nat many), .d (tupI (alikeW many)), .no, .no, .no, .no, .no, .no, .no] ((List.range many).map nat) = .ok (w0.map D.int) := by
      rw [lc_map nat (fun k => D.int ((row.getD (2 + k) 0).fmod (sel r1))), hw0, List.map_map]
      · rfl
      · intro k hk
        obtain ⟨r, hr, _⟩ := wsAt k (List.mem_range.mp hk)
        have ix := ixR hr
        have gd : row.getD (2 + k) 0 = r := by rw [List.getD_eq_getElem?_getD, hr]; rfl
        have md : oMod (.int r) (.int (sel r1)) = some (.int (r.fmod (sel r1))) := o_mod (by have := sel_pos r1; omega)
        refine ⟨_, rfl, ?_⟩
        rw [gd]
        simp only [ev_V, ev_Op, ev_Un, ev_C, ev_E, ev_And, ev_Or, ev_Not, ev_If, ev_eAnd, ev_eOr, ev_eNot, ev_Fn, ev_Cons, ev_Nil, ev_Call, ev_CallN, ev_Yes, ev_Fld, sv_Seq, sv_If, sv_Ret, sv_Asg, sv_Nx, sv_For, gv_N, bind_ok, lift_some, nox_ok1, tb_bl, if_true, if_false, Bool.false_eq_true, List.getElem?_cons_succ, List.getElem?_cons_zero, List.set_cons_succ, List.set_cons_zero, Option.some.injEq, Sl.d.injEq, Option.bind_some, runE_rt, runE_nx, Ev_ok, wi_cons, wi_nil, List.replicate, decide_true, decide_false, two_add, ix, f_intI, l4, at1', md4, sel_at, md]
    simp only [ev_V, ev_Op, ev_Un, ev_C, ev_E, ev_And, ev_Or, ev_Not, ev_If, ev_eAnd, ev_eOr, ev_eNot, ev_Fn, ev_Cons, ev_Nil, ev_Call, ev_CallN, ev_Yes, ev_Fld, sv_Seq, sv_If, sv_Ret, sv_Asg, sv_Nx, sv_For, gv_N, bind_ok, lift_some, nox_ok1, tb_bl, if_true, if_false, Bool.false_eq_true, List.getElem?_cons_succ, List.getElem?_cons_zero, List.set_cons_succ, List.set_cons_zero, Option.some.injEq, Sl.d.injEq, Option.bind_some, runE_rt, runE_nx, Ev_ok, wi_cons, wi_nil, List.replicate, decide_true, decide_false, ev_Lc, hr, List.length_map, List.length_range, Nat.reduceSub]
    rw [if_pos (show many ≤ sizeLine by omega), hc]
    simp only [ev_V, ev_Op, ev_Un, ev_C, ev_E, ev_And, ev_Or, ev_Not, ev_If, ev_eAnd, ev_eOr, ev_eNot, ev_Fn, ev_Cons, ev_Nil, ev_Call, ev_CallN, ev_Yes, ev_Fld, sv_Seq, sv_If, sv_Ret, sv_Asg, sv_Nx, sv_For, gv_N, bind_ok, lift_some, nox_ok1, tb_bl, if_true, if_false, Bool.false_eq_true, List.getElem?_cons_succ, List.getElem?_cons_zero, List.set_cons_succ, List.set_cons_zero, Option.some.injEq, Sl.d.injEq, Option.bind_some, runE_rt, runE_nx, Ev_ok, wi_cons, wi_nil, List.replicate, decide_true, decide_false, f_tupL]
  -- not all zero
  have key : ∃ ws : List Int, ws.length = many ∧ (∀ w ∈ ws, 0 ≤ w) ∧ 1 ≤ ws.sum ∧ sIf (cE (eOp oEq (eFn fSum (aCons (eV 3) (aNil))) (eC (.int 0)))) (sAsg (eV 2) (gN 3)) (sNx) [.d (lstI row), .d (nat many), .d (tupI (alikeW many)), .d (tupI w0), .no, .no, .no, .no, .no, .no] = .ok (.nx [.d (lstI row), .d (nat many), .d (tupI (alikeW many)), .d (tupI ws), .no, .no, .no, .no, .no, .no]) := by
    by_cases hz : w0.sum = 0
    · refine ⟨alikeW many, rep_len _ _, all_ge (x := 1) (by rw [alikeW, rep_len]) (by decide), by rw [alikeW, rep_sum]; omega, ?_⟩
      simp only [ev_V, ev_Op, ev_Un, ev_C, ev_E, ev_And, ev_Or, ev_Not, ev_If, ev_eAnd, ev_eOr, ev_eNot, ev_Fn, ev_Cons, ev_Nil, ev_Call, ev_CallN, ev_Yes, ev_Fld, sv_Seq, sv_If, sv_Ret, sv_Asg, sv_Nx, sv_For, gv_N, bind_ok, lift_some, nox_ok1, tb_bl, if_true, if_false, Bool.false_eq_true, List.getElem?_cons_succ, List.getElem?_cons_zero, List.set_cons_succ, List.set_cons_zero, Option.some.injEq, Sl.d.injEq, Option.bind_some, runE_rt, runE_nx, Ev_ok, wi_cons, wi_nil, List.replicate, decide_true, decide_false, f_sumT, q_int, hz]
    · refine ⟨w0, w0len, w0pos, by have := sum_pos w0pos; omega, ?_⟩
      simp only [ev_V, ev_Op, ev_Un, ev_C, ev_E, ev_And, ev_Or, ev_Not, ev_If, ev_eAnd, ev_eOr, ev_eNot, ev_Fn, ev_Cons, ev_Nil, ev_Call, ev_CallN, ev_Yes, ev_Fld, sv_Seq, sv_If, sv_Ret, sv_Asg, sv_Nx, sv_For, gv_N, bind_ok, lift_some, nox_ok1, tb_bl, if_true, if_false, Bool.false_eq_true, List.getElem?_cons_succ, List.getElem?_cons_zero, List.set_cons_succ, List.set_cons_zero, Option.some.injEq, Sl.d.injEq, Option.bind_some, runE_rt, runE_nx, Ev_ok, wi_cons, wi_nil, List.replicate, decide_true, decide_false, f_sumT, q_int, hz]
  obtain ⟨ws, wl, wp, wsum, hif⟩ := key
  refine step1 hif ?_
  clear hif
  -- told, more, half
  have md : oMod (.int r1) (.int ws.sum) = some (.int (r1.fmod ws.sum)) := o_mod (by omega)
  have fm := fmod_in r1 (k := ws.sum) (by omega)
  have t3 : ∀ x y z : DL.D, oTup [x, y, z] = some (.tup [x, y, z]) := fun x y z => o_tup (by show 3 ≤ sizeLine; decide)
  have t2 : ∀ x y : DL.D, oTup [x, y] = some (.tup [x, y]) := fun x y => o_tup (by show 2 ≤ sizeLine; decide)
  have dv2 : oFdiv (.int ws.sum) (.int 2) = some (.int (ws.sum.fdiv 2)) := o_fdiv (by decide) (by decide)
  have dvm : oFdiv (nat many) (.int 2) = some (.int ((many : Int).fdiv 2)) := o_fdiv (by decide) (by decide)
  obtain ⟨told, htold⟩ : ∃ w, w = Wd.wt ws (1 + r1.fmod ws.sum) := ⟨_, rfl⟩
  obtain ⟨more, hmore⟩ : ∃ w, w = Wd.wt ws (ws.sum.fdiv 2 + 1) := ⟨_, rfl⟩
  obtain ⟨half, hhalf⟩ : ∃ w, w = Wd.wt (alikeW many) ((many : Int).fdiv 2 + 1) := ⟨_, rfl⟩
  have ok1 : told.Ok many := by rw [htold]; exact ⟨wl, wp, by omega, by omega⟩
  have ok2 : more.Ok many := by
    rw [hmore]
    refine ⟨wl, wp, ?_, ?_⟩ <;> · rw [Int.fdiv_eq_ediv_of_nonneg _ (by decide)]; omega
  have ok3 : half.Ok many := by
    rw [hhalf]
    refine alike_ok h1 ?_ ?_ <;> · rw [Int.fdiv_eq_ediv_of_nonneg _ (by decide)]; omega
  refine step1 (ρ' := [.d (lstI row), .d (nat many), .d (tupI (alikeW many)), .d (tupI ws), .d (told.D many), .no, .no, .no, .no, .no]) ?_ ?_
  · simp only [ev_V, ev_Op, ev_Un, ev_C, ev_E, ev_And, ev_Or, ev_Not, ev_If, ev_eAnd, ev_eOr, ev_eNot, ev_Fn, ev_Cons, ev_Nil, ev_Call, ev_CallN, ev_Yes, ev_Fld, sv_Seq, sv_If, sv_Ret, sv_Asg, sv_Nx, sv_For, gv_N, bind_ok, lift_some, nox_ok1, tb_bl, if_true, if_false, Bool.false_eq_true, List.getElem?_cons_succ, List.getElem?_cons_zero, List.set_cons_succ, List.set_cons_zero, Option.some.injEq, Sl.d.injEq, Option.bind_some, runE_rt, runE_nx, Ev_ok, wi_cons, wi_nil, List.replicate, decide_true, decide_false, at1', f_intI, f_sumT, md, o_add, t3]
    rw [htold]
    rfl
  refine step1 (ρ' := [.d (lstI row), .d (nat many), .d (tupI (alikeW many)), .d (tupI ws), .d (told.D many), .d (more.D many), .no, .no, .no, .no]) ?_ ?_
  · simp only [ev_V, ev_Op, ev_Un, ev_C, ev_E, ev_And, ev_Or, ev_Not, ev_If, ev_eAnd, ev_eOr, ev_eNot, ev_Fn, ev_Cons, ev_Nil, ev_Call, ev_CallN, ev_Yes, ev_Fld, sv_Seq, sv_If, sv_Ret, sv_Asg, sv_Nx, sv_For, gv_N, bind_ok, lift_some, nox_ok1, tb_bl, if_true, if_false, Bool.false_eq_true, List.getElem?_cons_succ, List.getElem?_cons_zero, List.set_cons_succ, List.set_cons_zero, Option.some.injEq, Sl.d.injEq, Option.bind_some, runE_rt, runE_nx, Ev_ok, wi_cons, wi_nil, List.replicate, decide_true, decide_false, f_sumT, dv2, o_add, t3]
    rw [hmore]
    rfl
  refine step1 (ρ' := [.d (lstI row), .d (nat many), .d (tupI (alikeW many)), .d (tupI ws), .d (told.D many), .d (more.D many), .d (half.D many), .no, .no, .no]) ?_ ?_
  · simp only [ev_V, ev_Op, ev_Un, ev_C, ev_E, ev_And, ev_Or, ev_Not, ev_If, ev_eAnd, ev_eOr, ev_eNot, ev_Fn, ev_Cons, ev_Nil, ev_Call, ev_CallN, ev_Yes, ev_Fld, sv_Seq, sv_If, sv_Ret, sv_Asg, sv_Nx, sv_For, gv_N, bind_ok, lift_some, nox_ok1, tb_bl, if_true, if_false, Bool.false_eq_true, List.getElem?_cons_succ, List.getElem?_cons_zero, List.set_cons_succ, List.set_cons_zero, Option.some.injEq, Sl.d.injEq, Option.bind_some, runE_rt, runE_nx, Ev_ok, wi_cons, wi_nil, List.replicate, decide_true, decide_false, dvm, o_add, t3]
    rw [hhalf]
    rfl
  -- lots
  obtain ⟨ls, hls⟩ : ∃ ls : List Nat, ls = (List.range 3).map fun k => lotOf many (row.getD (11 + k) 0) := ⟨_, rfl⟩
  have lsl : ls.length = 3 := by rw [hls]; simp
  have lsok : ∀ m ∈ ls, 1 ≤ m ∧ m < 2 ^ many := fun m hmm => by
    rw [hls] at hmm
    obtain ⟨k, _, rfl⟩ := List.mem_map.mp hmm
    exact lotOf_ok h1 _
  have pw : oPowD (.int 2) (.int 9) = some (.int 512) := rfl
  have p2 : 2 ≤ 2 ^ many := Nat.le_trans (by decide) (Nat.pow_le_pow_right (by decide) h1)
  refine step1 (ρ' := [.d (lstI row), .d (nat many), .d (tupI (alikeW many)), .d (tupI ws), .d (told.D many), .d (more.D many), .d (half.D many), .d (lotsD ls many), .no, .no]) ?_ ?_
  · have hr : ∀ ρ : List Sl, iR1 (aCons (eC (.int 3)) (aNil)) ρ = .ok ((List.range 3).map nat) := fun ρ => rg1 (n := 3) (by decide) rfl
    have hc : compL (gN 9) cYes (eCallN m__law_voters (aCons (eOp oAdd (eC (.int 1)) (eOp oMod (eOp oMod (eFn fInt (aCons (eOp oIx (eV 0) (eOp oAdd (eC (.int 11)) (eV 9))) (aNil))) (eOp oSub (eOp oPowD (eC (.int 2)) (eC (.int 9))) (eC (.int 1)))) (eOp oSub (eOp oShl (eC (.int 1)) (eV 1)) (eC (.int 1))))) (aCons (eV 1) (aNil)))) [.d (lstI row), .d (nat many), .d (tupI (alikeW many)), .d (tupI ws), .d (told.D many), .d (more.D many), .d (half.D many), .no, .no, .no] ((List.range 3).map nat) = .ok (ls.map fun m => lotD (lotN m many)) := by
      rw [lc_map nat (fun k => lotD (lotN (lotOf many (row.getD (11 + k) 0)) many)), hls, List.map_map]
      · rfl
      · intro k hk
        obtain ⟨r, hr, _⟩ := ltAt k (List.mem_range.mp hk)
        have ix := ixR hr
        have gd : row.getD (11 + k) 0 = r := by rw [List.getD_eq_getElem?_getD, hr]; rfl
        have m1 : oMod (.int r) (.int (512 - 1)) = some (.int (r.fmod 511)) := o_mod (by decide)
        have s1 : oSub (nat (2 ^ many)) (.int 1) = some (nat (2 ^ many - 1)) := by
          unfold nat
          rw [o_sub]
          congr 2
          omega
        have m2 : oMod (.int (r.fmod 511)) (nat (2 ^ many - 1)) = some (.int ((r.fmod 511).fmod ((2 ^ many - 1 : Nat) : Int))) := o_mod (by omega)
        have f2 := fmod_in (r.fmod 511) (k := ((2 ^ many - 1 : Nat) : Int)) (by omega)
        have a1' : oAdd (.int 1) (.int ((r.fmod 511).fmod ((2 ^ many - 1 : Nat) : Int))) = some (nat (lotOf many r)) := by
          rw [o_add]
          unfold nat lotOf
          congr 2
          omega
        refine ⟨_, rfl, ?_⟩
        rw [gd]
        simp only [ev_V, ev_Op, ev_Un, ev_C, ev_E, ev_And, ev_Or, ev_Not, ev_If, ev_eAnd, ev_eOr, ev_eNot, ev_Fn, ev_Cons, ev_Nil, ev_Call, ev_CallN, ev_Yes, ev_Fld, sv_Seq, sv_If, sv_Ret, sv_Asg, sv_Nx, sv_For, gv_N, bind_ok, lift_some, nox_ok1, tb_bl, if_true, if_false, Bool.false_eq_true, List.getElem?_cons_succ, List.getElem?_cons_zero, List.set_cons_succ, List.set_cons_zero, Option.some.injEq, Sl.d.injEq, Option.bind_some, runE_rt, runE_nx, Ev_ok, wi_cons, wi_nil, List.replicate, decide_true, decide_false, el_add, ix, f_intI, pw, o_sub, m1, shl_many hm, s1, m2, a1', voters_eq (n := lotOf many r) (many := many) (by omega)]
    simp only [ev_V, ev_Op, ev_Un, ev_C, ev_E, ev_And, ev_Or, ev_Not, ev_If, ev_eAnd, ev_eOr, ev_eNot, ev_Fn, ev_Cons, ev_Nil, ev_Call, ev_CallN, ev_Yes, ev_Fld, sv_Seq, sv_If, sv_Ret, sv_Asg, sv_Nx, sv_For, gv_N, bind_ok, lift_some, nox_ok1, tb_bl, if_true, if_false, Bool.false_eq_true, List.getElem?_cons_succ, List.getElem?_cons_zero, List.set_cons_succ, List.set_cons_zero, Option.some.injEq, Sl.d.injEq, Option.bind_some, runE_rt, runE_nx, Ev_ok, wi_cons, wi_nil, List.replicate, decide_true, decide_false, ev_Lc, hr, List.length_map, List.length_range]
    rw [if_pos (show 3 ≤ sizeLine by decide), hc]
    simp only [ev_V, ev_Op, ev_Un, ev_C, ev_E, ev_And, ev_Or, ev_Not, ev_If, ev_eAnd, ev_eOr, ev_eNot, ev_Fn, ev_Cons, ev_Nil, ev_Call, ev_CallN, ev_Yes, ev_Fld, sv_Seq, sv_If, sv_Ret, sv_Asg, sv_Nx, sv_For, gv_N, bind_ok, lift_some, nox_ok1, tb_bl, if_true, if_false, Bool.false_eq_true, List.getElem?_cons_succ, List.getElem?_cons_zero, List.set_cons_succ, List.set_cons_zero, Option.some.injEq, Sl.d.injEq, Option.bind_some, runE_rt, runE_nx, Ev_ok, wi_cons, wi_nil, List.replicate, decide_true, decide_false, f_tupL]
    rfl
  -- the menu
  have take_ok : ∀ k : Nat, 1 ≤ k → k ≤ 3 → (Wd.lots (ls.take k)).Ok many ∧ oCut (lotsD ls many) none (some (k : Int)) = some (lotsD (ls.take k) many) := fun k hk hk3 => by
    refine ⟨⟨fun e => ?_, fun m hmm => lsok m (List.mem_of_mem_take hmm), by rw [List.length_take]; omega⟩, ?_⟩
    · have e2 : (ls.take k).length = 0 := by rw [e]; rfl
      rw [List.length_take, lsl] at e2
      omega
    · unfold lotsD
      show some (D.tup (cutL _ none (some (k : Int)))) = _
      rw [cut_take (by rw [List.length_map]; omega), List.map_take]
  obtain ⟨k1, hk1⟩ : ∃ k : Nat, k = 1 + (r1.fmod 3).toNat := ⟨_, rfl⟩
  have f3 := fmod_in r1 (k := 3) (by decide)
  have md3 : oMod (.int r1) (.int 3) = some (.int (r1.fmod 3)) := o_mod (by decide)
  have ek1 : (1 + r1.fmod 3 : Int) = (k1 : Int) := by omega
  have fmm := fmod_in r1 (k := (many : Int)) (by omega)
  have mdm : oMod (.int r1) (nat many) = some (.int (r1.fmod many)) := o_mod (by omega)
  obtain ⟨okA, cutA⟩ := take_ok k1 (by omega) (by omega)
  obtain ⟨okB, cutB⟩ := take_ok 1 (by decide) (by decide)
  obtain ⟨okC, cutC⟩ := take_ok 2 (by decide) (by decide)
  have ok4 : (Wd.wt (alikeW many) (1 + r1.fmod many)).Ok many := alike_ok h1 (by omega) (by omega)
  have l6 : ∀ a b c d e f : DL.D, oLst [a, b, c, d, e, f] = some (.lst [a, b, c, d, e, f]) := fun a b c d e f => o_lst (by show 6 ≤ sizeLine; decide)
  have l3 : ∀ a b c : DL.D, oLst [a, b, c] = some (.lst [a, b, c]) := fun a b c => o_lst (by show 3 ≤ sizeLine; decide)
  have l2 : ∀ a b : DL.D, oLst [a, b] = some (.lst [a, b]) := fun a b => o_lst (by show 2 ≤ sizeLine; decide)
  have l1 : ∀ a : DL.D, oLst [a] = some (.lst [a]) := fun a => o_lst (by show 1 ≤ sizeLine; decide)
  obtain ⟨M1, hM1⟩ : ∃ l : List Wd, l = [half, half, half, Wd.wt (alikeW many) (1 + r1.fmod many), told, more] := ⟨_, rfl⟩
  refine step1 (ρ' := [.d (lstI row), .d (nat many), .d (tupI (alikeW many)), .d (tupI ws), .d (told.D many), .d (more.D many), .d (half.D many), .d (lotsD ls many), .d (.lst (M1.map (Wd.D many))), .no]) ?_ ?_
  · simp only [ev_V, ev_Op, ev_Un, ev_C, ev_E, ev_And, ev_Or, ev_Not, ev_If, ev_eAnd, ev_eOr, ev_eNot, ev_Fn, ev_Cons, ev_Nil, ev_Call, ev_CallN, ev_Yes, ev_Fld, sv_Seq, sv_If, sv_Ret, sv_Asg, sv_Nx, sv_For, gv_N, bind_ok, lift_some, nox_ok1, tb_bl, if_true, if_false, Bool.false_eq_true, List.getElem?_cons_succ, List.getElem?_cons_zero, List.set_cons_succ, List.set_cons_zero, Option.some.injEq, Sl.d.injEq, Option.bind_some, runE_rt, runE_nx, Ev_ok, wi_cons, wi_nil, List.replicate, decide_true, decide_false, at1', f_intI, mdm, o_add, t3, l6]
    rw [hM1]
    rfl
  have cutA' : oCut (lotsD ls many) none (some (1 + r1.fmod 3)) = some (lotsD (ls.take k1) many) := by rw [ek1]; exact cutA
  have cutB' : oCut (lotsD ls many) none (some 1) = some (lotsD (ls.take 1) many) := cutB
  have cutC' : oCut (lotsD ls many) none (some 2) = some (lotsD (ls.take 2) many) := cutC
  obtain ⟨M2, hM2⟩ : ∃ l : List Wd, l = [Wd.lots (ls.take k1), Wd.both half (Wd.lots (ls.take 1))] := ⟨_, rfl⟩
  obtain ⟨M3, hM3⟩ : ∃ l : List Wd, l = [Wd.either half (Wd.lots (ls.take 2)), Wd.opp told, Wd.both more (Wd.lots (ls.take 2))] := ⟨_, rfl⟩
  refine step1 (ρ' := [.d (lstI row), .d (nat many), .d (tupI (alikeW many)), .d (tupI ws), .d (told.D many), .d (more.D many), .d (half.D many), .d (lotsD ls many), .d (.lst ((M1 ++ M2).map (Wd.D many))), .no]) ?_ ?_
  · have ha := o_addl (xs := M1.map (Wd.D many)) (ys := M2.map (Wd.D many)) (by rw [hM1, hM2]; show 6 + 2 ≤ sizeLine; decide)
    have e2 : M2.map (Wd.D many) = [.tup [.str "lots", lotsD (ls.take k1) many], .tup [.str "both", half.D many, .tup [.str "lots", lotsD (ls.take 1) many]]] := by rw [hM2]; rfl
    rw [← List.map_append] at ha
    rw [e2] at ha
    simp only [ev_V, ev_Op, ev_Un, ev_C, ev_E, ev_And, ev_Or, ev_Not, ev_If, ev_eAnd, ev_eOr, ev_eNot, ev_Fn, ev_Cons, ev_Nil, ev_Call, ev_CallN, ev_Yes, ev_Fld, sv_Seq, sv_If, sv_Ret, sv_Asg, sv_Nx, sv_For, gv_N, bind_ok, lift_some, nox_ok1, tb_bl, if_true, if_false, Bool.false_eq_true, List.getElem?_cons_succ, List.getElem?_cons_zero, List.set_cons_succ, List.set_cons_zero, Option.some.injEq, Sl.d.injEq, Option.bind_some, runE_rt, runE_nx, Ev_ok, wi_cons, wi_nil, List.replicate, decide_true, decide_false, ev_Cut, ev_pNo, ev_pE, at1', f_intI, md3, o_add, cutA', cutB', t2, t3, l2, ha]
  refine step1 (ρ' := [.d (lstI row), .d (nat many), .d (tupI (alikeW many)), .d (tupI ws), .d (told.D many), .d (more.D many), .d (half.D many), .d (lotsD ls many), .d (.lst ((M1 ++ M2 ++ M3).map (Wd.D many))), .no]) ?_ ?_
  · have ha := o_addl (xs := (M1 ++ M2).map (Wd.D many)) (ys := M3.map (Wd.D many)) (by rw [hM1, hM2, hM3]; show 8 + 3 ≤ sizeLine; decide)
    have e2 : M3.map (Wd.D many) = [.tup [.str "either", half.D many, .tup [.str "lots", lotsD (ls.take 2) many]], .tup [.str "opposite", told.D many], .tup [.str "both", more.D many, .tup [.str "lots", lotsD (ls.take 2) many]]] := by rw [hM3]; rfl
    rw [← List.map_append] at ha
    rw [e2] at ha
    simp only [ev_V, ev_Op, ev_Un, ev_C, ev_E, ev_And, ev_Or, ev_Not, ev_If, ev_eAnd, ev_eOr, ev_eNot, ev_Fn, ev_Cons, ev_Nil, ev_Call, ev_CallN, ev_Yes, ev_Fld, sv_Seq, sv_If, sv_Ret, sv_Asg, sv_Nx, sv_For, gv_N, bind_ok, lift_some, nox_ok1, tb_bl, if_true, if_false, Bool.false_eq_true, List.getElem?_cons_succ, List.getElem?_cons_zero, List.set_cons_succ, List.set_cons_zero, Option.some.injEq, Sl.d.injEq, Option.bind_some, runE_rt, runE_nx, Ev_ok, wi_cons, wi_nil, List.replicate, decide_true, decide_false, ev_Cut, ev_pNo, ev_pE, cutC', t2, t3, l3, ha]
  obtain ⟨q, hq⟩ : ∃ q : Int, q = if ((2 * (many : Int) + 2).fdiv 3) > 1 then (2 * (many : Int) + 2).fdiv 3 else 1 := ⟨_, rfl⟩
  have ok5 : (Wd.wt (alikeW many) q).Ok many := by
    have e : (2 * (many : Int) + 2).fdiv 3 = (2 * (many : Int) + 2) / 3 := Int.fdiv_eq_ediv_of_nonneg _ (by decide)
    rw [e] at hq
    refine alike_ok h1 ?_ ?_ <;> · rw [hq]; split <;> omega
  obtain ⟨M4, hM4⟩ : ∃ l : List Wd, l = [Wd.wt (alikeW many) q] := ⟨_, rfl⟩
  refine step1 (ρ' := [.d (lstI row), .d (nat many), .d (tupI (alikeW many)), .d (tupI ws), .d (told.D many), .d (more.D many), .d (half.D many), .d (lotsD ls many), .d (.lst ((M1 ++ M2 ++ M3 ++ M4).map (Wd.D many))), .no]) ?_ ?_
  · have ha := o_addl (xs := (M1 ++ M2 ++ M3).map (Wd.D many)) (ys := M4.map (Wd.D many)) (by rw [hM1, hM2, hM3, hM4]; show 11 + 1 ≤ sizeLine; decide)
    have e2 : M4.map (Wd.D many) = [.tup [.str "weights", tupI (alikeW many), .int q]] := by rw [hM4]; rfl
    have m2 : oMul (.int 2) (nat many) = some (.int (2 * (many : Int))) := o_mul (sm.mu (sml (by decide)) (sml (by omega)))
    have d3 : oFdiv (.int (2 * (many : Int) + 2)) (.int 3) = some (.int ((2 * (many : Int) + 2).fdiv 3)) := o_fdiv (by decide) (by decide)
    have mx : fMax [.int 1, .int ((2 * (many : Int) + 2).fdiv 3)] = some (.int q) := by rw [hq]; rfl
    rw [← List.map_append] at ha
    rw [e2] at ha
    simp only [ev_V, ev_Op, ev_Un, ev_C, ev_E, ev_And, ev_Or, ev_Not, ev_If, ev_eAnd, ev_eOr, ev_eNot, ev_Fn, ev_Cons, ev_Nil, ev_Call, ev_CallN, ev_Yes, ev_Fld, sv_Seq, sv_If, sv_Ret, sv_Asg, sv_Nx, sv_For, gv_N, bind_ok, lift_some, nox_ok1, tb_bl, if_true, if_false, Bool.false_eq_true, List.getElem?_cons_succ, List.getElem?_cons_zero, List.set_cons_succ, List.set_cons_zero, Option.some.injEq, Sl.d.injEq, Option.bind_some, runE_rt, runE_nx, Ev_ok, wi_cons, wi_nil, List.replicate, decide_true, decide_false, m2, o_add, d3, mx, t3, l1, ha]
  have okAll : ∀ w ∈ M1 ++ M2 ++ M3 ++ M4, w.Ok many ∧ w.dep ≤ 1 := fun w hw => by
    rw [hM1, hM2, hM3, hM4] at hw
    have d1 : told.dep = 0 := by rw [htold]; rfl
    have d2 : more.dep = 0 := by rw [hmore]; rfl
    have d3 : half.dep = 0 := by rw [hhalf]; rfl
    simp only [List.cons_append, List.nil_append, List.mem_cons, List.not_mem_nil, or_false] at hw
    rcases hw with rfl | rfl | rfl | rfl | rfl | rfl | rfl | rfl | rfl | rfl | rfl | rfl
    · exact ⟨ok3, by omega⟩
    · exact ⟨ok3, by omega⟩
    · exact ⟨ok3, by omega⟩
    · exact ⟨ok4, by simp only [Wd.dep]; omega⟩
    · exact ⟨ok1, by omega⟩
    · exact ⟨ok2, by omega⟩
    · exact ⟨okA, by simp only [Wd.dep]; omega⟩
    · exact ⟨⟨ok3, okB⟩, by simp only [Wd.dep, d3]; omega⟩
    · exact ⟨⟨ok3, okC⟩, by simp only [Wd.dep, d3]; omega⟩
    · exact ⟨ok1, by simp only [Wd.dep, d1]; omega⟩
    · exact ⟨⟨ok2, okC⟩, by simp only [Wd.dep, d2]; omega⟩
    · exact ⟨ok5, by simp only [Wd.dep]; omega⟩
  have len : (M1 ++ M2 ++ M3 ++ M4).length = 12 := by rw [hM1, hM2, hM3, hM4]; rfl
  obtain ⟨w, hw⟩ : ∃ w, (M1 ++ M2 ++ M3 ++ M4)[r0.toNat]? = some w := ⟨_, List.getElem?_eq_getElem (by rw [len]; omega)⟩
  have ix : oIx (.lst ((M1 ++ M2 ++ M3 ++ M4).map (Wd.D many))) (.int r0) = some (w.D many) := ixLI a0 (by rw [List.getElem?_map, hw]; rfl)
  refine last_rt (d := w.D many) ?_ ⟨w, rfl, okAll w (List.mem_of_getElem? hw)⟩
  simp only [ev_V, ev_Op, ev_Un, ev_C, ev_E, ev_And, ev_Or, ev_Not, ev_If, ev_eAnd, ev_eOr, ev_eNot, ev_Fn, ev_Cons, ev_Nil, ev_Call, ev_CallN, ev_Yes, ev_Fld, sv_Seq, sv_If, sv_Ret, sv_Asg, sv_Nx, sv_For, gv_N, bind_ok, lift_some, nox_ok1, tb_bl, if_true, if_false, Bool.false_eq_true, List.getElem?_cons_succ, List.getElem?_cons_zero, List.set_cons_succ, List.set_cons_zero, Option.some.injEq, Sl.d.injEq, Option.bind_some, runE_rt, runE_nx, Ev_ok, wi_cons, wi_nil, List.replicate, decide_true, decide_false, at0', ix]
end
end L2.DL.MM
/-! homes, councils -/
namespace L2.DL.MM
open PySem PyProof.Rows PySem.Spec
theorem nat_mul {a b : Nat} (ha : a ≤ 1000000) (hb : b ≤ 1000000) : oMul (nat a) (nat b) = some (nat (a * b)) := by
  unfold nat
  rw [o_mul (sm.mu (sml (by omega)) (sml (by omega)))]
  congr 2
def homesD (hs : List (List Int)) : D := .tup (hs.map tupI)
/-- homes with these numbers of coordinates, within the bound -/
structure Hs (hs : List (List Int)) (many size : Nat) (b : Int) : Prop where
  len : hs.length = many
  each : ∀ h ∈ hs, h.length = size ∧ ∀ x ∈ h, -b ≤ x ∧ x ≤ b
theorem ints_map (g : Nat → Int) (n : Nat) : ((List.range n).map fun j => D.int (g j)) = ((List.range n).map g).map D.int := by rw [List.map_map]; rfl
theorem tup_map {α : Type} (g : α → List Int) (l : List α) : (l.map fun k => tupI (g k)) = (l.map g).map tupI := by rw [List.map_map]; rfl
theorem fdiv_in {x b : Int} {k : Int} (hk : 0 < k) (h1 : -(b * k) ≤ x) (h2 : x ≤ b * k) : -b ≤ x.fdiv k ∧ x.fdiv k ≤ b := by
  rw [Int.fdiv_eq_ediv_of_nonneg _ (by omega)]
  constructor
  · rw [Int.le_ediv_iff_mul_le hk, Int.neg_mul]
    exact h1
  · have : x / k < b + 1 := by
      rw [Int.ediv_lt_iff_lt_mul hk, Int.add_mul]
      omega
    omega
section
variable {many size : Nat} {row : List Int} {span : Int} (hm : many ≤ 9) (h1 : 1 ≤ many) (hs : size ≤ 3) (hs1 : 1 ≤ size) (hsp : 0 ≤ span) (hsp2 : span ≤ 60) (hl : size * many + 1 ≤ row.length)
include hm h1 hs hs1 hsp hsp2 hl
theorem homes_eq (r0 : Int) (e0 : row[0]? = some r0) : ∃ hs : List (List Int), m__law_homes [lstI row, nat many, nat size, .int span] = .ok (homesD hs) ∧ Hs hs many size 60 := by
  have sb := size_big
  obtain ⟨wide, hw⟩ : ∃ w, w = 2 * span + 1 := ⟨_, rfl⟩
  have at0' : oIx (lstI row) (.int 0) = some (.int r0) := ixR (i := 0) e0
  have smw : oMul (.int 2) (.int span) = some (.int (2 * span)) := o_mul (sm.mu (sml (by decide)) (sml (by omega)))
  have adw : oAdd (.int (2 * span)) (.int 1) = some (.int wide) := by rw [o_add, hw]
  have mu : ∀ k, k < many → oMul (nat size) (nat k) = some (nat (size * k)) := fun k hk => nat_mul (by omega) (by omega)
  have inr : ∀ k j, k < many → j < size → 1 + size * k + j < row.length := fun k j hk hj => by
    have : size * k + size ≤ size * many := by
      have := Nat.mul_le_mul_left size (show k + 1 ≤ many by omega)
      (rw [Nat.mul_add, Nat.mul_one] at this)
      exact this
    omega
  have ixk : ∀ i, i < row.length → oIx (lstI row) (nat i) = some (.int (row.getD i 0)) := fun i hi => ixR (by rw [List.getD_eq_getElem?_getD, List.getElem?_eq_getElem hi]; rfl)
  have mdw : ∀ x : Int, oMod (.int x) (.int wide) = some (.int (x.fmod wide)) := fun x => o_mod (by omega)
  obtain ⟨e, he⟩ : ∃ e : Nat → Nat → Int, e = fun k j => (row.getD (1 + size * k + j) 0).fmod wide - span := ⟨_, rfl⟩
  have ein : ∀ k j, -span ≤ e k j ∧ e k j ≤ span := fun k j => by
    have f := fmod_in (row.getD (1 + size * k + j) 0) (k := wide) (by omega)
    rw [he]
    show -span ≤ (row.getD (1 + size * k + j) 0).fmod wide - span ∧ (row.getD (1 + size * k + j) 0).fmod wide - span ≤ span
    omega
  obtain ⟨F, hF⟩ : ∃ F : List (List Int), F = (List.range many).map fun k => (List.range size).map fun j => e k j := ⟨_, rfl⟩
  have FH : Hs F many size span := by
    refine ⟨by rw [hF]; simp, fun h hh => ?_⟩
    rw [hF] at hh
    obtain ⟨k, _, rfl⟩ := List.mem_map.mp hh
    refine ⟨by simp, fun x hx => ?_⟩
    obtain ⟨j, _, rfl⟩ := List.mem_map.mp hx
    exact ein k j
  have Hw : ∀ {hs : List (List Int)} {b : Int}, b ≤ 60 → Hs hs many size b → Hs hs many size 60 := fun {hs b} hb H => ⟨H.len, fun h hh => ⟨(H.each h hh).1, fun x hx => by have := (H.each h hh).2 x hx; omega⟩⟩
  have ixF : ∀ k, k < many → oIx (.lst (F.map tupI)) (nat k) = some (tupI ((List.range size).map fun j => e k j)) := fun k hk => ixL (by
    rw [hF, List.getElem?_map, List.getElem?_map, List.getElem?_range hk]
    rfl)
  have ixE : ∀ (g : Nat → Int) j, j < size → oIx (tupI ((List.range size).map g)) (nat j) = some (.int (g j)) := fun g j hj => ixT (by
    rw [List.getElem?_map, List.getElem?_map, List.getElem?_range hj]
    rfl)
  have hrm : ∀ ρ : List Sl, ρ[1]? = some (.d (nat many)) → iR1 (aCons (eV 1) (aNil)) ρ = .ok ((List.range many).map nat) := fun ρ h => rg1 (by omega) (by rw [ev_Cons, ev_V 1 h]; rfl)
  have hrs : ∀ ρ : List Sl, ρ[2]? = some (.d (nat size)) → iR1 (aCons (eV 2) (aNil)) ρ = .ok ((List.range size).map nat) := fun ρ h => rg1 (by omega) (by rw [ev_Cons, ev_V 2 h]; rfl)
  have lm : many ≤ sizeLine := by omega
  have ls : size ≤ sizeLine := by omega
  suffices main : Ev (m__law_homes [lstI row, nat many, nat size, .int span]) (fun d => ∃ hs : List (List Int), d = homesD hs ∧ Hs hs many size 60) from by
    obtain ⟨d, e, hs, ed, H⟩ := main.get
    exact ⟨hs, by rw [e, ed], H⟩
  unfold m__law_homes
  rw [run4]
  refine step1 (ρ' := [.d (lstI row), .d (nat many), .d (nat size), .d (.int span), .d (.int wide), .no, .no, .no, .no, .no, .no, .no, .no, .no]) ?_ ?_
  · simp only [ev_V, ev_Op, ev_Un, ev_C, ev_E, ev_And, ev_Or, ev_Not, ev_If, ev_eAnd, ev_eOr, ev_eNot, ev_Fn, ev_Cons, ev_Nil, ev_Call, ev_CallN, ev_Yes, ev_Fld, sv_Seq, sv_If, sv_Ret, sv_Asg, sv_Nx, sv_For, gv_N, bind_ok, lift_some, nox_ok1, tb_bl, if_true, if_false, Bool.false_eq_true, List.getElem?_cons_succ, List.getElem?_cons_zero, List.set_cons_succ, List.set_cons_zero, Option.some.injEq, Sl.d.injEq, Option.bind_some, runE_rt, runE_nx, Ev_ok, wi_cons, wi_nil, List.replicate, decide_true, decide_false, smw, adw, Nat.reduceSub]
  refine step1 (ρ' := [.d (lstI row), .d (nat many), .d (nat size), .d (.int span), .d (.int wide), .d (.lst (F.map tupI)), .no, .no, .no, .no, .no, .no, .no, .no]) ?_ ?_
  · have hc : compL (gN 9) cYes (eFn fTup (aCons (eLc (iR1 (aCons (eV 2) (aNil))) [12] (gN 12) (cYes) (eOp oSub (eOp oMod (eFn fInt (aCons (eOp oIx (eV 0) (eOp oAdd (eOp oAdd (eC (.int 1)) (eOp oMul (eV 2) (eV 9))) (eV 12))) (aNil))) (eV 4)) (eV 3))) (aNil))) [.d (lstI row), .d (nat many), .d (nat size), .d (.int span), .d (.int wide), .no, .no, .no, .no, .no, .no, .no, .no, .no] ((List.range many).map nat) = .ok (F.map tupI) := by
      rw [lc_map nat (fun k => tupI ((List.range size).map fun j => e k j)), tup_map, hF]
      intro k hk
      have hk := List.mem_range.mp hk
      refine ⟨_, rfl, ?_⟩
      have hc2 : compL (gN 12) cYes (eOp oSub (eOp oMod (eFn fInt (aCons (eOp oIx (eV 0) (eOp oAdd (eOp oAdd (eC (.int 1)) (eOp oMul (eV 2) (eV 9))) (eV 12))) (aNil))) (eV 4)) (eV 3)) [.d (lstI row), .d (nat many), .d (nat size), .d (.int span), .d (.int wide), .no, .no, .no, .no, .d (nat k), .no, .no, .no, .no] ((List.range size).map nat) = .ok (((List.range size).map fun j => e k j).map D.int) := by
        rw [lc_map nat (fun j => D.int (e k j)), ints_map]
        intro j hj
        have hj := List.mem_range.mp hj
        refine ⟨_, rfl, ?_⟩
        simp only [ev_V, ev_Op, ev_Un, ev_C, ev_E, ev_And, ev_Or, ev_Not, ev_If, ev_eAnd, ev_eOr, ev_eNot, ev_Fn, ev_Cons, ev_Nil, ev_Call, ev_CallN, ev_Yes, ev_Fld, sv_Seq, sv_If, sv_Ret, sv_Asg, sv_Nx, sv_For, gv_N, bind_ok, lift_some, nox_ok1, tb_bl, if_true, if_false, Bool.false_eq_true, List.getElem?_cons_succ, List.getElem?_cons_zero, List.set_cons_succ, List.set_cons_zero, Option.some.injEq, Sl.d.injEq, Option.bind_some, runE_rt, runE_nx, Ev_ok, wi_cons, wi_nil, List.replicate, decide_true, decide_false, mu k hk, one_add, nat_add, ixk _ (inr k j hk hj), f_intI, mdw, o_sub]
        rw [he]
      simp only [ev_V, ev_Op, ev_Un, ev_C, ev_E, ev_And, ev_Or, ev_Not, ev_If, ev_eAnd, ev_eOr, ev_eNot, ev_Fn, ev_Cons, ev_Nil, ev_Call, ev_CallN, ev_Yes, ev_Fld, sv_Seq, sv_If, sv_Ret, sv_Asg, sv_Nx, sv_For, gv_N, bind_ok, lift_some, nox_ok1, tb_bl, if_true, if_false, Bool.false_eq_true, List.getElem?_cons_succ, List.getElem?_cons_zero, List.set_cons_succ, List.set_cons_zero, Option.some.injEq, Sl.d.injEq, Option.bind_some, runE_rt, runE_nx, Ev_ok, wi_cons, wi_nil, List.replicate, decide_true, decide_false, ev_Lc, hrs, List.length_map, List.length_range]
      rw [if_pos ls, hc2]
      simp only [ev_V, ev_Op, ev_Un, ev_C, ev_E, ev_And, ev_Or, ev_Not, ev_If, ev_eAnd, ev_eOr, ev_eNot, ev_Fn, ev_Cons, ev_Nil, ev_Call, ev_CallN, ev_Yes, ev_Fld, sv_Seq, sv_If, sv_Ret, sv_Asg, sv_Nx, sv_For, gv_N, bind_ok, lift_some, nox_ok1, tb_bl, if_true, if_false, Bool.false_eq_true, List.getElem?_cons_succ, List.getElem?_cons_zero, List.set_cons_succ, List.set_cons_zero, Option.some.injEq, Sl.d.injEq, Option.bind_some, runE_rt, runE_nx, Ev_ok, wi_cons, wi_nil, List.replicate, decide_true, decide_false, f_tupL]
    simp only [ev_V, ev_Op, ev_Un, ev_C, ev_E, ev_And, ev_Or, ev_Not, ev_If, ev_eAnd, ev_eOr, ev_eNot, ev_Fn, ev_Cons, ev_Nil, ev_Call, ev_CallN, ev_Yes, ev_Fld, sv_Seq, sv_If, sv_Ret, sv_Asg, sv_Nx, sv_For, gv_N, bind_ok, lift_some, nox_ok1, tb_bl, if_true, if_false, Bool.false_eq_true, List.getElem?_cons_succ, List.getElem?_cons_zero, List.set_cons_succ, List.set_cons_zero, Option.some.injEq, Sl.d.injEq, Option.bind_some, runE_rt, runE_nx, Ev_ok, wi_cons, wi_nil, List.replicate, decide_true, decide_false, ev_Lc, hrm, List.length_map, List.length_range]
    rw [if_pos lm, hc]
    simp only [ev_V, ev_Op, ev_Un, ev_C, ev_E, ev_And, ev_Or, ev_Not, ev_If, ev_eAnd, ev_eOr, ev_eNot, ev_Fn, ev_Cons, ev_Nil, ev_Call, ev_CallN, ev_Yes, ev_Fld, sv_Seq, sv_If, sv_Ret, sv_Asg, sv_Nx, sv_For, gv_N, bind_ok, lift_some, nox_ok1, tb_bl, if_true, if_false, Bool.false_eq_true, List.getElem?_cons_succ, List.getElem?_cons_zero, List.set_cons_succ, List.set_cons_zero, Option.some.injEq, Sl.d.injEq, Option.bind_some, runE_rt, runE_nx, Ev_ok, wi_cons, wi_nil, List.replicate, decide_true, decide_false]
  refine step1 (ρ' := [.d (lstI row), .d (nat many), .d (nat size), .d (.int span), .d (.int wide), .d (.lst (F.map tupI)), .d (.int r0), .no, .no, .no, .no, .no, .no, .no]) ?_ ?_
  · simp only [ev_V, ev_Op, ev_Un, ev_C, ev_E, ev_And, ev_Or, ev_Not, ev_If, ev_eAnd, ev_eOr, ev_eNot, ev_Fn, ev_Cons, ev_Nil, ev_Call, ev_CallN, ev_Yes, ev_Fld, sv_Seq, sv_If, sv_Ret, sv_Asg, sv_Nx, sv_For, gv_N, bind_ok, lift_some, nox_ok1, tb_bl, if_true, if_false, Bool.false_eq_true, List.getElem?_cons_succ, List.getElem?_cons_zero, List.set_cons_succ, List.set_cons_zero, Option.some.injEq, Sl.d.injEq, Option.bind_some, runE_rt, runE_nx, Ev_ok, wi_cons, wi_nil, List.replicate, decide_true, decide_false, at0']
  -- plan 5
  refine stepI (x := decide (r0 = 5)) (by simp only [ev_V, ev_Op, ev_Un, ev_C, ev_E, ev_And, ev_Or, ev_Not, ev_If, ev_eAnd, ev_eOr, ev_eNot, ev_Fn, ev_Cons, ev_Nil, ev_Call, ev_CallN, ev_Yes, ev_Fld, sv_Seq, sv_If, sv_Ret, sv_Asg, sv_Nx, sv_For, gv_N, bind_ok, lift_some, nox_ok1, tb_bl, if_true, if_false, Bool.false_eq_true, List.getElem?_cons_succ, List.getElem?_cons_zero, List.set_cons_succ, List.set_cons_zero, Option.some.injEq, Sl.d.injEq, Option.bind_some, runE_rt, runE_nx, Ev_ok, wi_cons, wi_nil, List.replicate, decide_true, decide_false, q_int]) (fun _ => ?_) fun _ => step_nx ?_
  · refine step_rt (d := homesD ((List.range many).map fun k => (List.range size).map fun j => e (k * 2 / 3) j)) ?_ ⟨_, rfl, Hw hsp2 ⟨by simp, fun h hh => ?_⟩⟩
    · have hc : compL (gN 9) cYes (eOp oIx (eV 5) (eOp oFdiv (eFn fInt (aCons (eOp oMul (eV 9) (eC (.int 2))) (aNil))) (eC (.int 3)))) [.d (lstI row), .d (nat many), .d (nat size), .d (.int span), .d (.int wide), .d (.lst (F.map tupI)), .d (.int r0), .no, .no, .no, .no, .no, .no, .no] ((List.range many).map nat) = .ok (((List.range many).map fun k => (List.range size).map fun j => e (k * 2 / 3) j).map tupI) := by
        rw [lc_map nat (fun k => tupI ((List.range size).map fun j => e (k * 2 / 3) j)), tup_map]
        intro k hk
        have hk := List.mem_range.mp hk
        have m2 : oMul (nat k) (.int 2) = some (nat (k * 2)) := nat_mul (b := 2) (by omega) (by decide)
        have d3 : oFdiv (nat (k * 2)) (.int 3) = some (nat (k * 2 / 3)) := by
          unfold nat
          rw [o_fdiv (by decide) (by decide), Int.fdiv_eq_ediv_of_nonneg _ (by decide)]
          rfl
        refine ⟨_, rfl, ?_⟩
        have fi : fInt [nat (k * 2)] = some (nat (k * 2)) := rfl
        simp only [ev_V, ev_Op, ev_Un, ev_C, ev_E, ev_And, ev_Or, ev_Not, ev_If, ev_eAnd, ev_eOr, ev_eNot, ev_Fn, ev_Cons, ev_Nil, ev_Call, ev_CallN, ev_Yes, ev_Fld, sv_Seq, sv_If, sv_Ret, sv_Asg, sv_Nx, sv_For, gv_N, bind_ok, lift_some, nox_ok1, tb_bl, if_true, if_false, Bool.false_eq_true, List.getElem?_cons_succ, List.getElem?_cons_zero, List.set_cons_succ, List.set_cons_zero, Option.some.injEq, Sl.d.injEq, Option.bind_some, runE_rt, runE_nx, Ev_ok, wi_cons, wi_nil, List.replicate, decide_true, decide_false, m2, fi, d3, ixF (k * 2 / 3) (by omega)]
      simp only [ev_V, ev_Op, ev_Un, ev_C, ev_E, ev_And, ev_Or, ev_Not, ev_If, ev_eAnd, ev_eOr, ev_eNot, ev_Fn, ev_Cons, ev_Nil, ev_Call, ev_CallN, ev_Yes, ev_Fld, sv_Seq, sv_If, sv_Ret, sv_Asg, sv_Nx, sv_For, gv_N, bind_ok, lift_some, nox_ok1, tb_bl, if_true, if_false, Bool.false_eq_true, List.getElem?_cons_succ, List.getElem?_cons_zero, List.set_cons_succ, List.set_cons_zero, Option.some.injEq, Sl.d.injEq, Option.bind_some, runE_rt, runE_nx, Ev_ok, wi_cons, wi_nil, List.replicate, decide_true, decide_false, ev_Lc, hrm, List.length_map, List.length_range]
      rw [if_pos lm, hc]
      simp only [ev_V, ev_Op, ev_Un, ev_C, ev_E, ev_And, ev_Or, ev_Not, ev_If, ev_eAnd, ev_eOr, ev_eNot, ev_Fn, ev_Cons, ev_Nil, ev_Call, ev_CallN, ev_Yes, ev_Fld, sv_Seq, sv_If, sv_Ret, sv_Asg, sv_Nx, sv_For, gv_N, bind_ok, lift_some, nox_ok1, tb_bl, if_true, if_false, Bool.false_eq_true, List.getElem?_cons_succ, List.getElem?_cons_zero, List.set_cons_succ, List.set_cons_zero, Option.some.injEq, Sl.d.injEq, Option.bind_some, runE_rt, runE_nx, Ev_ok, wi_cons, wi_nil, List.replicate, decide_true, decide_false, f_tupL]
      rfl
    · obtain ⟨k, _, rfl⟩ := List.mem_map.mp hh
      refine ⟨by simp, fun x hx => ?_⟩
      obtain ⟨j, _, rfl⟩ := List.mem_map.mp hx
      exact ein _ j
  -- plan 6
  refine stepI (x := decide (r0 = 6) && decide (1 < (size : Int))) (by
    simp only [ev_V, ev_Op, ev_Un, ev_C, ev_E, ev_And, ev_Or, ev_Not, ev_If, ev_eAnd, ev_eOr, ev_eNot, ev_Fn, ev_Cons, ev_Nil, ev_Call, ev_CallN, ev_Yes, ev_Fld, sv_Seq, sv_If, sv_Ret, sv_Asg, sv_Nx, sv_For, gv_N, bind_ok, lift_some, nox_ok1, tb_bl, if_true, if_false, Bool.false_eq_true, List.getElem?_cons_succ, List.getElem?_cons_zero, List.set_cons_succ, List.set_cons_zero, Option.some.injEq, Sl.d.injEq, Option.bind_some, runE_rt, runE_nx, Ev_ok, wi_cons, wi_nil, List.replicate, decide_true, decide_false, q_int]
    cases decide (r0 = 6) <;> simp only [ev_V, ev_Op, ev_Un, ev_C, ev_E, ev_And, ev_Or, ev_Not, ev_If, ev_eAnd, ev_eOr, ev_eNot, ev_Fn, ev_Cons, ev_Nil, ev_Call, ev_CallN, ev_Yes, ev_Fld, sv_Seq, sv_If, sv_Ret, sv_Asg, sv_Nx, sv_For, gv_N, bind_ok, lift_some, nox_ok1, tb_bl, if_true, if_false, Bool.false_eq_true, List.getElem?_cons_succ, List.getElem?_cons_zero, List.set_cons_succ, List.set_cons_zero, Option.some.injEq, Sl.d.injEq, Option.bind_some, runE_rt, runE_nx, Ev_ok, wi_cons, wi_nil, List.replicate, decide_true, decide_false, nat, o_gt, Bool.false_and, Bool.true_and]) (fun _ => ?_) fun _ => step_nx ?_
  · refine step_asc (step1 (ρ' := [.d (lstI row), .d (nat many), .d (nat size), .d (.int span), .d (.int wide), .d (.lst (F.map tupI)), .d (.int r0), .d (tupI ((List.range size).map fun j => (e 0 j).fdiv 6)), .no, .no, .no, .no, .no, .no]) ?_ ?_)
    · have hc : compL (gN 12) cYes (eOp oFdiv (eOp oIx (eOp oIx (eV 5) (eC (.int 0))) (eV 12)) (eC (.int 6))) [.d (lstI row), .d (nat many), .d (nat size), .d (.int span), .d (.int wide), .d (.lst (F.map tupI)), .d (.int r0), .no, .no, .no, .no, .no, .no, .no] ((List.range size).map nat) = .ok (((List.range size).map fun j => (e 0 j).fdiv 6).map D.int) := by
        rw [lc_map nat (fun j => D.int ((e 0 j).fdiv 6)), ints_map]
        intro j hj
        have hj := List.mem_range.mp hj
        have d6 : oFdiv (.int (e 0 j)) (.int 6) = some (.int ((e 0 j).fdiv 6)) := o_fdiv (by decide) (by decide)
        have i0 : oIx (.lst (F.map tupI)) (.int 0) = some (tupI ((List.range size).map fun j => e 0 j)) := ixF 0 (by omega)
        refine ⟨_, rfl, ?_⟩
        simp only [ev_V, ev_Op, ev_Un, ev_C, ev_E, ev_And, ev_Or, ev_Not, ev_If, ev_eAnd, ev_eOr, ev_eNot, ev_Fn, ev_Cons, ev_Nil, ev_Call, ev_CallN, ev_Yes, ev_Fld, sv_Seq, sv_If, sv_Ret, sv_Asg, sv_Nx, sv_For, gv_N, bind_ok, lift_some, nox_ok1, tb_bl, if_true, if_false, Bool.false_eq_true, List.getElem?_cons_succ, List.getElem?_cons_zero, List.set_cons_succ, List.set_cons_zero, Option.some.injEq, Sl.d.injEq, Option.bind_some, runE_rt, runE_nx, Ev_ok, wi_cons, wi_nil, List.replicate, decide_true, decide_false, i0, ixE _ j hj, d6]
      simp only [ev_V, ev_Op, ev_Un, ev_C, ev_E, ev_And, ev_Or, ev_Not, ev_If, ev_eAnd, ev_eOr, ev_eNot, ev_Fn, ev_Cons, ev_Nil, ev_Call, ev_CallN, ev_Yes, ev_Fld, sv_Seq, sv_If, sv_Ret, sv_Asg, sv_Nx, sv_For, gv_N, bind_ok, lift_some, nox_ok1, tb_bl, if_true, if_false, Bool.false_eq_true, List.getElem?_cons_succ, List.getElem?_cons_zero, List.set_cons_succ, List.set_cons_zero, Option.some.injEq, Sl.d.injEq, Option.bind_some, runE_rt, runE_nx, Ev_ok, wi_cons, wi_nil, List.replicate, decide_true, decide_false, ev_Lc, hrs, List.length_map, List.length_range]
      rw [if_pos ls, hc]
      simp only [ev_V, ev_Op, ev_Un, ev_C, ev_E, ev_And, ev_Or, ev_Not, ev_If, ev_eAnd, ev_eOr, ev_eNot, ev_Fn, ev_Cons, ev_Nil, ev_Call, ev_CallN, ev_Yes, ev_Fld, sv_Seq, sv_If, sv_Ret, sv_Asg, sv_Nx, sv_For, gv_N, bind_ok, lift_some, nox_ok1, tb_bl, if_true, if_false, Bool.false_eq_true, List.getElem?_cons_succ, List.getElem?_cons_zero, List.set_cons_succ, List.set_cons_zero, Option.some.injEq, Sl.d.injEq, Option.bind_some, runE_rt, runE_nx, Ev_ok, wi_cons, wi_nil, List.replicate, decide_true, decide_false, f_tupL]
    · refine step_rt (d := homesD ((List.range many).map fun k => (List.range size).map fun j => (e 0 j).fdiv 6 * ((row.getD (1 + size * k) 0).fmod 9 - 4))) ?_ ⟨_, rfl, ⟨by simp, fun h hh => ?_⟩⟩
      · have hc : compL (gN 9) cYes (eFn fTup (aCons (eLc (iR1 (aCons (eV 2) (aNil))) [12] (gN 12) (cYes) (eOp oMul (eOp oIx (eV 7) (eV 12)) (eOp oSub (eOp oMod (eFn fInt (aCons (eOp oIx (eV 0) (eOp oAdd (eC (.int 1)) (eOp oMul (eV 2) (eV 9)))) (aNil))) (eC (.int 9))) (eC (.int 4))))) (aNil))) [.d (lstI row), .d (nat many), .d (nat size), .d (.int span), .d (.int wide), .d (.lst (F.map tupI)), .d (.int r0), .d (tupI ((List.range size).map fun j => (e 0 j).fdiv 6)), .no, .no, .no, .no, .no, .no] ((List.range many).map nat) = .ok (((List.range many).map fun k => (List.range size).map fun j => (e 0 j).fdiv 6 * ((row.getD (1 + size * k) 0).fmod 9 - 4)).map tupI) := by
          rw [lc_map nat (fun k => tupI ((List.range size).map fun j => (e 0 j).fdiv 6 * ((row.getD (1 + size * k) 0).fmod 9 - 4))), tup_map]
          intro k hk
          have hk := List.mem_range.mp hk
          refine ⟨_, rfl, ?_⟩
          have hc2 : compL (gN 12) cYes (eOp oMul (eOp oIx (eV 7) (eV 12)) (eOp oSub (eOp oMod (eFn fInt (aCons (eOp oIx (eV 0) (eOp oAdd (eC (.int 1)) (eOp oMul (eV 2) (eV 9)))) (aNil))) (eC (.int 9))) (eC (.int 4)))) [.d (lstI row), .d (nat many), .d (nat size), .d (.int span), .d (.int wide), .d (.lst (F.map tupI)), .d (.int r0), .d (tupI ((List.range size).map fun j => (e 0 j).fdiv 6)), .no, .d (nat k), .no, .no, .no, .no] ((List.range size).map nat) = .ok (((List.range size).map fun j => (e 0 j).fdiv 6 * ((row.getD (1 + size * k) 0).fmod 9 - 4)).map D.int) := by
            rw [lc_map nat (fun j => D.int ((e 0 j).fdiv 6 * ((row.getD (1 + size * k) 0).fmod 9 - 4))), ints_map]
            intro j hj
            have hj := List.mem_range.mp hj
            have m9 : oMod (.int (row.getD (1 + size * k) 0)) (.int 9) = some (.int ((row.getD (1 + size * k) 0).fmod 9)) := o_mod (by decide)
            have f9 := fmod_in (row.getD (1 + size * k) 0) (k := 9) (by decide)
            have ei := ein 0 j
            have fd := fdiv_in (x := e 0 j) (b := 10) (k := 6) (by decide) (by omega) (by omega)
            have mm : oMul (.int ((e 0 j).fdiv 6)) (.int ((row.getD (1 + size * k) 0).fmod 9 - 4)) = some (.int ((e 0 j).fdiv 6 * ((row.getD (1 + size * k) 0).fmod 9 - 4))) := o_mul (sm.mu (sml (by omega)) (sml (by omega)))
            refine ⟨_, rfl, ?_⟩
            have i1 := ixk (1 + size * k) (by have := inr k 0 hk (by omega); omega)
            simp only [ev_V, ev_Op, ev_Un, ev_C, ev_E, ev_And, ev_Or, ev_Not, ev_If, ev_eAnd, ev_eOr, ev_eNot, ev_Fn, ev_Cons, ev_Nil, ev_Call, ev_CallN, ev_Yes, ev_Fld, sv_Seq, sv_If, sv_Ret, sv_Asg, sv_Nx, sv_For, gv_N, bind_ok, lift_some, nox_ok1, tb_bl, if_true, if_false, Bool.false_eq_true, List.getElem?_cons_succ, List.getElem?_cons_zero, List.set_cons_succ, List.set_cons_zero, Option.some.injEq, Sl.d.injEq, Option.bind_some, runE_rt, runE_nx, Ev_ok, wi_cons, wi_nil, List.replicate, decide_true, decide_false, ixE _ j hj, mu k hk, one_add, i1, f_intI, m9, o_sub, mm]
          simp only [ev_V, ev_Op, ev_Un, ev_C, ev_E, ev_And, ev_Or, ev_Not, ev_If, ev_eAnd, ev_eOr, ev_eNot, ev_Fn, ev_Cons, ev_Nil, ev_Call, ev_CallN, ev_Yes, ev_Fld, sv_Seq, sv_If, sv_Ret, sv_Asg, sv_Nx, sv_For, gv_N, bind_ok, lift_some, nox_ok1, tb_bl, if_true, if_false, Bool.false_eq_true, List.getElem?_cons_succ, List.getElem?_cons_zero, List.set_cons_succ, List.set_cons_zero, Option.some.injEq, Sl.d.injEq, Option.bind_some, runE_rt, runE_nx, Ev_ok, wi_cons, wi_nil, List.replicate, decide_true, decide_false, ev_Lc, hrs, List.length_map, List.length_range]
          rw [if_pos ls, hc2]
          simp only [ev_V, ev_Op, ev_Un, ev_C, ev_E, ev_And, ev_Or, ev_Not, ev_If, ev_eAnd, ev_eOr, ev_eNot, ev_Fn, ev_Cons, ev_Nil, ev_Call, ev_CallN, ev_Yes, ev_Fld, sv_Seq, sv_If, sv_Ret, sv_Asg, sv_Nx, sv_For, gv_N, bind_ok, lift_some, nox_ok1, tb_bl, if_true, if_false, Bool.false_eq_true, List.getElem?_cons_succ, List.getElem?_cons_zero, List.set_cons_succ, List.set_cons_zero, Option.some.injEq, Sl.d.injEq, Option.bind_some, runE_rt, runE_nx, Ev_ok, wi_cons, wi_nil, List.replicate, decide_true, decide_false, f_tupL]
        simp only [ev_V, ev_Op, ev_Un, ev_C, ev_E, ev_And, ev_Or, ev_Not, ev_If, ev_eAnd, ev_eOr, ev_eNot, ev_Fn, ev_Cons, ev_Nil, ev_Call, ev_CallN, ev_Yes, ev_Fld, sv_Seq, sv_If, sv_Ret, sv_Asg, sv_Nx, sv_For, gv_N, bind_ok, lift_some, nox_ok1, tb_bl, if_true, if_false, Bool.false_eq_true, List.getElem?_cons_succ, List.getElem?_cons_zero, List.set_cons_succ, List.set_cons_zero, Option.some.injEq, Sl.d.injEq, Option.bind_some, runE_rt, runE_nx, Ev_ok, wi_cons, wi_nil, List.replicate, decide_true, decide_false, ev_Lc, hrm, List.length_map, List.length_range]
        rw [if_pos lm, hc]
        simp only [ev_V, ev_Op, ev_Un, ev_C, ev_E, ev_And, ev_Or, ev_Not, ev_If, ev_eAnd, ev_eOr, ev_eNot, ev_Fn, ev_Cons, ev_Nil, ev_Call, ev_CallN, ev_Yes, ev_Fld, sv_Seq, sv_If, sv_Ret, sv_Asg, sv_Nx, sv_For, gv_N, bind_ok, lift_some, nox_ok1, tb_bl, if_true, if_false, Bool.false_eq_true, List.getElem?_cons_succ, List.getElem?_cons_zero, List.set_cons_succ, List.set_cons_zero, Option.some.injEq, Sl.d.injEq, Option.bind_some, runE_rt, runE_nx, Ev_ok, wi_cons, wi_nil, List.replicate, decide_true, decide_false, f_tupL]
        rfl
      · obtain ⟨k, _, rfl⟩ := List.mem_map.mp hh
        refine ⟨by simp, fun x hx => ?_⟩
        obtain ⟨j, _, rfl⟩ := List.mem_map.mp hx
        have f9 := fmod_in (row.getD (1 + size * k) 0) (k := 9) (by decide)
        have ei := ein 0 j
        have fd := fdiv_in (x := e 0 j) (b := 10) (k := 6) (by decide) (by omega) (by omega)
        revert f9 fd
        generalize (row.getD (1 + size * k) 0).fmod 9 = y
        generalize (e 0 j).fdiv 6 = z
        intro f9 fd
        rcases (show y = 0 ∨ y = 1 ∨ y = 2 ∨ y = 3 ∨ y = 4 ∨ y = 5 ∨ y = 6 ∨ y = 7 ∨ y = 8 by omega) with h | h | h | h | h | h | h | h | h <;> subst h <;> omega
  -- plans 4 and 7
  refine stepI (x := decide (r0 = 4) || decide (r0 = 7)) (by
    simp only [ev_V, ev_Op, ev_Un, ev_C, ev_E, ev_And, ev_Or, ev_Not, ev_If, ev_eAnd, ev_eOr, ev_eNot, ev_Fn, ev_Cons, ev_Nil, ev_Call, ev_CallN, ev_Yes, ev_Fld, sv_Seq, sv_If, sv_Ret, sv_Asg, sv_Nx, sv_For, gv_N, bind_ok, lift_some, nox_ok1, tb_bl, if_true, if_false, Bool.false_eq_true, List.getElem?_cons_succ, List.getElem?_cons_zero, List.set_cons_succ, List.set_cons_zero, Option.some.injEq, Sl.d.injEq, Option.bind_some, runE_rt, runE_nx, Ev_ok, wi_cons, wi_nil, List.replicate, decide_true, decide_false, q_int]
    cases decide (r0 = 4) <;> simp only [ev_V, ev_Op, ev_Un, ev_C, ev_E, ev_And, ev_Or, ev_Not, ev_If, ev_eAnd, ev_eOr, ev_eNot, ev_Fn, ev_Cons, ev_Nil, ev_Call, ev_CallN, ev_Yes, ev_Fld, sv_Seq, sv_If, sv_Ret, sv_Asg, sv_Nx, sv_For, gv_N, bind_ok, lift_some, nox_ok1, tb_bl, if_true, if_false, Bool.false_eq_true, List.getElem?_cons_succ, List.getElem?_cons_zero, List.set_cons_succ, List.set_cons_zero, Option.some.injEq, Sl.d.injEq, Option.bind_some, runE_rt, runE_nx, Ev_ok, wi_cons, wi_nil, List.replicate, decide_true, decide_false, Bool.false_or, Bool.true_or, Bool.true_eq_false]) (fun _ => ?_) fun _ => step_nx ?_
  · obtain ⟨T0, hT0⟩ : ∃ T0 : List Int, T0 = (List.range size).map fun j => (e 0 j).fdiv 4 := ⟨_, rfl⟩
    have T0in : T0.length = size ∧ ∀ x ∈ T0, -15 ≤ x ∧ x ≤ 15 := by
      rw [hT0]
      refine ⟨by simp, fun x hx => ?_⟩
      obtain ⟨j, _, rfl⟩ := List.mem_map.mp hx
      have ei := ein 0 j
      exact fdiv_in (x := e 0 j) (b := 15) (k := 4) (by decide) (by omega) (by omega)
    refine step_asc (step1 (ρ' := [.d (lstI row), .d (nat many), .d (nat size), .d (.int span), .d (.int wide), .d (.lst (F.map tupI)), .d (.int r0), .no, .bl [tupI T0], .no, .no, .no, .no, .no]) ?_ ?_)
    · have i0 : oIx (.lst (F.map tupI)) (.int 0) = some (tupI ((List.range size).map fun j => e 0 j)) := ixF 0 (by omega)
      have hc : compL (gN 13) cYes (eOp oFdiv (eV 13) (eC (.int 4))) [.d (lstI row), .d (nat many), .d (nat size), .d (.int span), .d (.int wide), .d (.lst (F.map tupI)), .d (.int r0), .no, .no, .no, .no, .no, .no, .no] (((List.range size).map fun j => e 0 j).map D.int) = .ok (T0.map D.int) := by
        rw [lc_map D.int (fun x => D.int (x.fdiv 4)), hT0, List.map_map, List.map_map]
        · rfl
        · intro x _
          have d4 : oFdiv (.int x) (.int 4) = some (.int (x.fdiv 4)) := o_fdiv (by decide) (by decide)
          refine ⟨_, rfl, ?_⟩
          simp only [ev_V, ev_Op, ev_Un, ev_C, ev_E, ev_And, ev_Or, ev_Not, ev_If, ev_eAnd, ev_eOr, ev_eNot, ev_Fn, ev_Cons, ev_Nil, ev_Call, ev_CallN, ev_Yes, ev_Fld, sv_Seq, sv_If, sv_Ret, sv_Asg, sv_Nx, sv_For, gv_N, bind_ok, lift_some, nox_ok1, tb_bl, if_true, if_false, Bool.false_eq_true, List.getElem?_cons_succ, List.getElem?_cons_zero, List.set_cons_succ, List.set_cons_zero, Option.some.injEq, Sl.d.injEq, Option.bind_some, runE_rt, runE_nx, Ev_ok, wi_cons, wi_nil, List.replicate, decide_true, decide_false, d4]
      simp only [sv_NewL, ev_V, ev_Op, ev_Un, ev_C, ev_E, ev_And, ev_Or, ev_Not, ev_If, ev_eAnd, ev_eOr, ev_eNot, ev_Fn, ev_Cons, ev_Nil, ev_Call, ev_CallN, ev_Yes, ev_Fld, sv_Seq, sv_If, sv_Ret, sv_Asg, sv_Nx, sv_For, gv_N, bind_ok, lift_some, nox_ok1, tb_bl, if_true, if_false, Bool.false_eq_true, List.getElem?_cons_succ, List.getElem?_cons_zero, List.set_cons_succ, List.set_cons_zero, Option.some.injEq, Sl.d.injEq, Option.bind_some, runE_rt, runE_nx, Ev_ok, wi_cons, wi_nil, List.replicate, decide_true, decide_false, ev_Lc, iv_Sq, i0, it_tup, List.length_map, List.length_range, List.length_cons, List.length_nil]
      rw [if_pos ls, hc]
      simp only [ev_V, ev_Op, ev_Un, ev_C, ev_E, ev_And, ev_Or, ev_Not, ev_If, ev_eAnd, ev_eOr, ev_eNot, ev_Fn, ev_Cons, ev_Nil, ev_Call, ev_CallN, ev_Yes, ev_Fld, sv_Seq, sv_If, sv_Ret, sv_Asg, sv_Nx, sv_For, gv_N, bind_ok, lift_some, nox_ok1, tb_bl, if_true, if_false, Bool.false_eq_true, List.getElem?_cons_succ, List.getElem?_cons_zero, List.set_cons_succ, List.set_cons_zero, Option.some.injEq, Sl.d.injEq, Option.bind_some, runE_rt, runE_nx, Ev_ok, wi_cons, wi_nil, List.replicate, decide_true, decide_false, f_tupL]
      rw [if_pos ⟨by decide, by show 1 ≤ sizeLine; decide⟩]
    · refine step_asc (stepE (P := fun ρ => ∃ (rest : List (List Int)) (z9 z10 z11 : Sl), ρ = [.d (lstI row), .d (nat many), .d (nat size), .d (.int span), .d (.int wide), .d (.lst (F.map tupI)), .d (.int r0), .no, .bl ((T0 :: rest).map tupI), z9, z10, z11, .no, .no] ∧ rest.length + 1 = many ∧ ∀ h ∈ rest, h.length = size ∧ ∀ x ∈ h, -45 ≤ x ∧ x ≤ 45) ?_ ?_)
      · have hr : iR2 (aCons (eC (.int 1)) (aCons (eV 1) (aNil))) [.d (lstI row), .d (nat many), .d (nat size), .d (.int span), .d (.int wide), .d (.lst (F.map tupI)), .d (.int r0), .no, .bl [tupI T0], .no, .no, .no, .no, .no] = .ok ((List.range' 1 (many - 1)).map nat) := rg2 (a := 1) (by decide) (by omega) rfl
        rw [sv_For, hr, bind_ok]
        refine (ev_for nat (List.range' 1 (many - 1)) (fun p ρ => ∃ (rest : List (List Int)) (z9 z10 z11 : Sl), ρ = [.d (lstI row), .d (nat many), .d (nat size), .d (.int span), .d (.int wide), .d (.lst (F.map tupI)), .d (.int r0), .no, .bl ((T0 :: rest).map tupI), z9, z10, z11, .no, .no] ∧ rest.length = p.length ∧ ∀ h ∈ rest, h.length = size ∧ ∀ x ∈ h, -45 ≤ x ∧ x ≤ 45) ?_ ⟨[], .no, .no, .no, rfl, rfl, by simp⟩).imp fun o ⟨ρ', eo, rest, z9, z10, z11, eρ, hl, hh⟩ => ⟨ρ', eo, rest, z9, z10, z11, eρ, by rw [hl, List.length_range']; omega, hh⟩
        rintro p k q ρ ep ⟨rest, z9, z10, z11, rfl, hrl, hrest⟩
        have hk : 1 ≤ k ∧ k < many := by
          have : k ∈ List.range' 1 (many - 1) := by rw [ep]; simp
          rw [List.mem_range'_1] at this
          omega
        refine ⟨[.d (lstI row), .d (nat many), .d (nat size), .d (.int span), .d (.int wide), .d (.lst (F.map tupI)), .d (.int r0), .no, .bl ((T0 :: rest).map tupI), .d (nat k), z10, z11, .no, .no], rfl, ?_⟩
        have ad1 : oAdd (nat k) (.int 1) = some (nat (k + 1)) := nat_add k 1
        have d2 : oFdiv (nat (k + 1)) (.int 2) = some (nat ((k + 1) / 2)) := by
          unfold nat
          rw [o_fdiv (by decide) (by decide), Int.fdiv_eq_ediv_of_nonneg _ (by decide)]
          rfl
        have ixp := ixF ((k + 1) / 2) (by omega)
        have mk2 : oMod (nat k) (.int 2) = some (nat (k % 2)) := by
          unfold nat
          rw [o_mod (by decide)]
          congr 2
          exact fmod_nat k 2
        have l2 : ∀ x y : D, oLst [x, y] = some (.lst [x, y]) := fun x y => o_lst (by show 2 ≤ sizeLine; decide)
        obtain ⟨sg2, hsg, hsgv⟩ : ∃ s : Int, oIx (.lst [.int 1, .int (-1)]) (nat (k % 2)) = some (.int s) ∧ (s = 1 ∨ s = -1) := by
          rcases (show k % 2 = 0 ∨ k % 2 = 1 by omega) with h | h <;> rw [h]
          · exact ⟨1, ixL rfl, .inl rfl⟩
          · exact ⟨-1, ixL rfl, .inr rfl⟩
        have mr2 : oMod (.int (row.getD (1 + size * k) 0)) (.int 2) = some (.int ((row.getD (1 + size * k) 0).fmod 2)) := o_mod (by decide)
        have f2 := fmod_in (row.getD (1 + size * k) 0) (k := 2) (by decide)
        obtain ⟨t, ht⟩ : ∃ t, t = (row.getD (1 + size * k) 0).fmod 2 := ⟨_, rfl⟩
        rw [← ht] at mr2 f2
        have mmf : oMul (.int sg2) (.int (1 + t)) = some (.int (sg2 * (1 + t))) := o_mul (sm.mu (sml (by omega)) (sml (by omega)))
        have fv : sg2 * (1 + t) = 1 ∨ sg2 * (1 + t) = 2 ∨ sg2 * (1 + t) = -1 ∨ sg2 * (1 + t) = -2 := by
          rcases hsgv with h | h <;> rcases (show t = 0 ∨ t = 1 by omega) with h' | h' <;> subst h h' <;> decide
        obtain ⟨fc, hfc⟩ : ∃ f, f = sg2 * (1 + t) := ⟨_, rfl⟩
        rw [← hfc] at mmf fv
        have i1 := ixk (1 + size * k) (by have := inr k 0 hk.2 (by omega); omega)
        have fi : fInt [nat k] = some (nat k) := rfl
        have ixB : ∀ ρ : List Sl, ρ[8]? = some (.bl ((T0 :: rest).map tupI)) → eIxB 8 (eC (.int 0)) ρ = .ok (tupI T0) := fun ρ h => by
          unfold eIxB
          rw [h]
          show lift (oIx (.lst ((T0 :: rest).map tupI)) (.int 0)) = _
          rw [List.map_cons, x_lst, at0]
          rfl
        have hc : compL (gN 12) cYes (eOp oAdd (eOp oIx (eIxB 8 (eC (.int 0))) (eV 12)) (eOp oMul (eV 11) (eOp oFdiv (eOp oIx (eV 10) (eV 12)) (eC (.int 4))))) [.d (lstI row), .d (nat many), .d (nat size), .d (.int span), .d (.int wide), .d (.lst (F.map tupI)), .d (.int r0), .no, .bl ((T0 :: rest).map tupI), .d (nat k), .d (tupI ((List.range size).map fun j => e ((k + 1) / 2) j)), .d (.int fc), .no, .no] ((List.range size).map nat) = .ok (((List.range size).map fun j => T0.getD j 0 + fc * (e ((k + 1) / 2) j).fdiv 4).map D.int) := by
          rw [lc_map nat (fun j => D.int (T0.getD j 0 + fc * (e ((k + 1) / 2) j).fdiv 4)), ints_map]
          intro j hj
          have hj := List.mem_range.mp hj
          have d4 : oFdiv (.int (e ((k + 1) / 2) j)) (.int 4) = some (.int ((e ((k + 1) / 2) j).fdiv 4)) := o_fdiv (by decide) (by decide)
          have ei := ein ((k + 1) / 2) j
          have fd := fdiv_in (x := e ((k + 1) / 2) j) (b := 15) (k := 4) (by decide) (by omega) (by omega)
          have mm : oMul (.int fc) (.int ((e ((k + 1) / 2) j).fdiv 4)) = some (.int (fc * (e ((k + 1) / 2) j).fdiv 4)) := o_mul (sm.mu (sml (by omega)) (sml (by omega)))
          have it0 : oIx (tupI T0) (nat j) = some (.int (T0.getD j 0)) := ixT (by
            rw [List.getElem?_map, List.getD_eq_getElem?_getD, List.getElem?_eq_getElem (by rw [T0in.1]; exact hj)]
            rfl)
          refine ⟨_, rfl, ?_⟩
          rw [ev_Op, ev_Op, ixB _ rfl]
          simp only [ev_V, ev_Op, ev_Un, ev_C, ev_E, ev_And, ev_Or, ev_Not, ev_If, ev_eAnd, ev_eOr, ev_eNot, ev_Fn, ev_Cons, ev_Nil, ev_Call, ev_CallN, ev_Yes, ev_Fld, sv_Seq, sv_If, sv_Ret, sv_Asg, sv_Nx, sv_For, gv_N, bind_ok, lift_some, nox_ok1, tb_bl, if_true, if_false, Bool.false_eq_true, List.getElem?_cons_succ, List.getElem?_cons_zero, List.set_cons_succ, List.set_cons_zero, Option.some.injEq, Sl.d.injEq, Option.bind_some, runE_rt, runE_nx, Ev_ok, wi_cons, wi_nil, List.replicate, decide_true, decide_false, it0, ixE _ j hj, d4, mm, o_add]
        simp only [ev_V, ev_Op, ev_Un, ev_C, ev_E, ev_And, ev_Or, ev_Not, ev_If, ev_eAnd, ev_eOr, ev_eNot, ev_Fn, ev_Cons, ev_Nil, ev_Call, ev_CallN, ev_Yes, ev_Fld, sv_Seq, sv_If, sv_Ret, sv_Asg, sv_Nx, sv_For, gv_N, bind_ok, lift_some, nox_ok1, tb_bl, if_true, if_false, Bool.false_eq_true, List.getElem?_cons_succ, List.getElem?_cons_zero, List.set_cons_succ, List.set_cons_zero, Option.some.injEq, Sl.d.injEq, Option.bind_some, runE_rt, runE_nx, Ev_ok, wi_cons, wi_nil, List.replicate, decide_true, decide_false, ad1, d2, ixp, l2, oNeg, fi, mk2, hsg, mu k hk.2, one_add, i1, f_intI, mr2, o_add, mmf]
        rw [sv_App 8 (xs := (T0 :: rest).map tupI) rfl]
        simp only [ev_V, ev_Op, ev_Un, ev_C, ev_E, ev_And, ev_Or, ev_Not, ev_If, ev_eAnd, ev_eOr, ev_eNot, ev_Fn, ev_Cons, ev_Nil, ev_Call, ev_CallN, ev_Yes, ev_Fld, sv_Seq, sv_If, sv_Ret, sv_Asg, sv_Nx, sv_For, gv_N, bind_ok, lift_some, nox_ok1, tb_bl, if_true, if_false, Bool.false_eq_true, List.getElem?_cons_succ, List.getElem?_cons_zero, List.set_cons_succ, List.set_cons_zero, Option.some.injEq, Sl.d.injEq, Option.bind_some, runE_rt, runE_nx, Ev_ok, wi_cons, wi_nil, List.replicate, decide_true, decide_false, ev_Lc, hrs, List.length_map, List.length_range]
        rw [if_pos ls, hc]
        simp only [ev_V, ev_Op, ev_Un, ev_C, ev_E, ev_And, ev_Or, ev_Not, ev_If, ev_eAnd, ev_eOr, ev_eNot, ev_Fn, ev_Cons, ev_Nil, ev_Call, ev_CallN, ev_Yes, ev_Fld, sv_Seq, sv_If, sv_Ret, sv_Asg, sv_Nx, sv_For, gv_N, bind_ok, lift_some, nox_ok1, tb_bl, if_true, if_false, Bool.false_eq_true, List.getElem?_cons_succ, List.getElem?_cons_zero, List.set_cons_succ, List.set_cons_zero, Option.some.injEq, Sl.d.injEq, Option.bind_some, runE_rt, runE_nx, Ev_ok, wi_cons, wi_nil, List.replicate, decide_true, decide_false, f_tupL]
        have hz : (T0 :: rest).length < sizeLine := by
          have : p.length < many := by
            have := congrArg List.length ep
            simp at this
            omega
          simp only [List.length_cons]
          omega
        rw [if_pos hz, Ev_ok]
        refine ⟨rest ++ [(List.range size).map fun j => T0.getD j 0 + fc * (e ((k + 1) / 2) j).fdiv 4], _, _, _, by rw [List.map_cons, List.map_cons, List.map_append]; rfl, by simp [hrl], fun h hh => ?_⟩
        rcases List.mem_append.mp hh with hh | hh
        · exact hrest h hh
        · have := List.mem_singleton.mp hh
          subst this
          refine ⟨by simp, fun x hx => ?_⟩
          obtain ⟨j, hj, rfl⟩ := List.mem_map.mp hx
          have hj := List.mem_range.mp hj
          have ei := ein ((k + 1) / 2) j
          have fd := fdiv_in (x := e ((k + 1) / 2) j) (b := 15) (k := 4) (by decide) (by omega) (by omega)
          have t0 := T0in.2 (T0.getD j 0) (by rw [List.getD_eq_getElem?_getD, List.getElem?_eq_getElem (by rw [T0in.1]; exact hj)]; exact List.getElem_mem _)
          revert fd t0
          generalize (e ((k + 1) / 2) j).fdiv 4 = y
          generalize T0.getD j 0 = x
          intro fd t0
          rcases fv with h | h | h | h <;> rw [h] <;> omega
      · rintro ρ ⟨rest, z9, z10, z11, rfl, hrl, hrest⟩
        have all : Hs (T0 :: rest) many size 45 := ⟨by rw [List.length_cons]; exact hrl, fun h hh => by
          rcases List.mem_cons.mp hh with rfl | hh
          · exact ⟨T0in.1, fun x hx => by have := T0in.2 x hx; omega⟩
          · exact hrest h hh⟩
        generalize hL : T0 :: rest = L at all
        have key : ∃ L' : List (List Int), Hs L' many size 60 ∧ sIf (cE (eOp oEq (eV 6) (eC (.int 7)))) (sSetI 8 (eOp oSub (eV 1) (eC (.int 1))) (eOp oAdd (eFn fTup (aCons (eFn oLst (aCons (eOp oAdd (eOp oIx (eIxB 8 (eOp oSub (eV 1) (eC (.int 1)))) (eC (.int 0))) (eC (.int 1))) (aNil))) (aNil))) (eCut (eIxB 8 (eOp oSub (eV 1) (eC (.int 1)))) (pE (eC (.int 1))) (pNo)))) (sNx) [.d (lstI row), .d (nat many), .d (nat size), .d (.int span), .d (.int wide), .d (.lst (F.map tupI)), .d (.int r0), .no, .bl (L.map tupI), z9, z10, z11, .no, .no] = .ok (.nx [.d (lstI row), .d (nat many), .d (nat size), .d (.int span), .d (.int wide), .d (.lst (F.map tupI)), .d (.int r0), .no, .bl (L'.map tupI), z9, z10, z11, .no, .no]) := by
          by_cases h7 : r0 = 7
          · obtain ⟨T, hT⟩ : ∃ T, L[many - 1]? = some T := ⟨_, List.getElem?_eq_getElem (by rw [all.len]; omega)⟩
            obtain ⟨Tl, Tb⟩ := all.each T (List.mem_of_getElem? hT)
            cases hTT : T with
            | nil => rw [hTT] at Tl; simp at Tl; omega
            | cons a r =>
              refine ⟨L.set (many - 1) ((a + 1) :: r), ⟨by rw [List.length_set]; exact all.len, fun h hh => ?_⟩, ?_⟩
              · rcases List.mem_or_eq_of_mem_set hh with hh | rfl
                · obtain ⟨x1, x2⟩ := all.each h hh
                  exact ⟨x1, fun x hx => by have := x2 x hx; omega⟩
                · rw [hTT] at Tl Tb
                  refine ⟨by simpa using Tl, fun x hx => ?_⟩
                  (rcases List.mem_cons.mp hx with rfl | hx)
                  · have := Tb a (by simp); omega
                  · have := Tb x (by simp [hx]); omega
              · have sub1 : oSub (nat many) (.int 1) = some (nat (many - 1)) := by
                  unfold nat
                  rw [o_sub]
                  congr 2
                  omega
                have ixB : ∀ ρ : List Sl, ρ[8]? = some (.bl (L.map tupI)) → ρ[1]? = some (.d (nat many)) → eIxB 8 (eOp oSub (eV 1) (eC (.int 1))) ρ = .ok (tupI T) := fun ρ h h' => by
                  unfold eIxB
                  rw [h, ev_Op, ev_V 1 h']
                  simp only [ev_V, ev_Op, ev_Un, ev_C, ev_E, ev_And, ev_Or, ev_Not, ev_If, ev_eAnd, ev_eOr, ev_eNot, ev_Fn, ev_Cons, ev_Nil, ev_Call, ev_CallN, ev_Yes, ev_Fld, sv_Seq, sv_If, sv_Ret, sv_Asg, sv_Nx, sv_For, gv_N, bind_ok, lift_some, nox_ok1, tb_bl, if_true, if_false, Bool.false_eq_true, List.getElem?_cons_succ, List.getElem?_cons_zero, List.set_cons_succ, List.set_cons_zero, Option.some.injEq, Sl.d.injEq, Option.bind_some, runE_rt, runE_nx, Ev_ok, wi_cons, wi_nil, List.replicate, decide_true, decide_false, sub1]
                  have q : oIx (.lst (L.map tupI)) (nat (many - 1)) = some (tupI T) := ixL (by rw [List.getElem?_map, hT]; rfl)
                  rw [q]
                  rfl
                have i0 : oIx (tupI T) (.int 0) = some (.int a) := by
                  rw [hTT]
                  show oIx (.tup (D.int a :: r.map D.int)) (.int 0) = _
                  rw [x_tup, at0]
                have cut : oCut (tupI T) (some 1) none = some (tupI r) := by
                  rw [hTT]
                  show some (D.tup (cutL _ (some ((1 : Nat) : Int)) none)) = _
                  congr 2
                  unfold cutL
                  rw [HT.sIx_nat]
                  show ((((a :: r).map D.int).drop (min 1 ((a :: r).map D.int).length)).take (((a :: r).map D.int).length - min 1 ((a :: r).map D.int).length)) = _
                  simp
                  (exact List.take_of_length_le (by simp))
                have l1 : ∀ x : D, oLst [x] = some (.lst [x]) := fun x => o_lst (by show 1 ≤ sizeLine; decide)
                have rl : r.length ≤ 2 := by rw [hTT] at Tl; simp at Tl; omega
                have cat : oAdd (.tup [.int (a + 1)]) (tupI r) = some (tupI ((a + 1) :: r)) := by
                  rw [o_addt (by simp only [List.length_cons, List.length_nil, List.length_map]; omega)]
                  rfl
                rw [sv_If, ev_E, ev_Op]
                simp only [ev_V, ev_Op, ev_Un, ev_C, ev_E, ev_And, ev_Or, ev_Not, ev_If, ev_eAnd, ev_eOr, ev_eNot, ev_Fn, ev_Cons, ev_Nil, ev_Call, ev_CallN, ev_Yes, ev_Fld, sv_Seq, sv_If, sv_Ret, sv_Asg, sv_Nx, sv_For, gv_N, bind_ok, lift_some, nox_ok1, tb_bl, if_true, if_false, Bool.false_eq_true, List.getElem?_cons_succ, List.getElem?_cons_zero, List.set_cons_succ, List.set_cons_zero, Option.some.injEq, Sl.d.injEq, Option.bind_some, runE_rt, runE_nx, Ev_ok, wi_cons, wi_nil, List.replicate, decide_true, decide_false, q_int, h7]
                have ixB' := ixB [.d (lstI row), .d (nat many), .d (nat size), .d (.int span), .d (.int wide), .d (.lst (F.map tupI)), .d (.int 7), .no, .bl (L.map tupI), z9, z10, z11, .no, .no] rfl rfl
                show sSetI 8 _ _ [.d (lstI row), .d (nat many), .d (nat size), .d (.int span), .d (.int wide), .d (.lst (F.map tupI)), .d (.int 7), .no, .bl (L.map tupI), z9, z10, z11, .no, .no] = _
                unfold sSetI
                simp only [List.getElem?_cons_succ, List.getElem?_cons_zero]
                rw [ev_Op, ev_Cut, ixB']
                simp only [ev_V, ev_Op, ev_Un, ev_C, ev_E, ev_And, ev_Or, ev_Not, ev_If, ev_eAnd, ev_eOr, ev_eNot, ev_Fn, ev_Cons, ev_Nil, ev_Call, ev_CallN, ev_Yes, ev_Fld, sv_Seq, sv_If, sv_Ret, sv_Asg, sv_Nx, sv_For, gv_N, bind_ok, lift_some, nox_ok1, tb_bl, if_true, if_false, Bool.false_eq_true, List.getElem?_cons_succ, List.getElem?_cons_zero, List.set_cons_succ, List.set_cons_zero, Option.some.injEq, Sl.d.injEq, Option.bind_some, runE_rt, runE_nx, Ev_ok, wi_cons, wi_nil, List.replicate, decide_true, decide_false, ixB', i0, o_add, l1, f_tupL, ev_pNo, ev_pE, cut, cat, sub1]
                have st : setD (L.map tupI) (nat (many - 1)) (tupI ((a + 1) :: r)) = some ((L.set (many - 1) ((a + 1) :: r)).map tupI) := by
                  show (ixN _ _).map _ = _
                  have : ixN (L.map tupI).length ((many - 1 : Nat) : Int) = some (many - 1) := by
                    unfold ixN
                    rw [List.length_map, all.len, if_pos (by omega), if_pos (by omega)]
                    rfl
                  rw [this]
                  show some ((L.map tupI).set (many - 1) (tupI ((a + 1) :: r))) = _
                  rw [List.map_set]
                simp only [ev_V, ev_Op, ev_Un, ev_C, ev_E, ev_And, ev_Or, ev_Not, ev_If, ev_eAnd, ev_eOr, ev_eNot, ev_Fn, ev_Cons, ev_Nil, ev_Call, ev_CallN, ev_Yes, ev_Fld, sv_Seq, sv_If, sv_Ret, sv_Asg, sv_Nx, sv_For, gv_N, bind_ok, lift_some, nox_ok1, tb_bl, if_true, if_false, Bool.false_eq_true, List.getElem?_cons_succ, List.getElem?_cons_zero, List.set_cons_succ, List.set_cons_zero, Option.some.injEq, Sl.d.injEq, Option.bind_some, runE_rt, runE_nx, Ev_ok, wi_cons, wi_nil, List.replicate, decide_true, decide_false, st]
          · refine ⟨L, ⟨all.len, fun h hh => ⟨(all.each h hh).1, fun x hx => by have := (all.each h hh).2 x hx; omega⟩⟩, ?_⟩
            rw [sv_If, ev_E, ev_Op]
            simp only [ev_V, ev_Op, ev_Un, ev_C, ev_E, ev_And, ev_Or, ev_Not, ev_If, ev_eAnd, ev_eOr, ev_eNot, ev_Fn, ev_Cons, ev_Nil, ev_Call, ev_CallN, ev_Yes, ev_Fld, sv_Seq, sv_If, sv_Ret, sv_Asg, sv_Nx, sv_For, gv_N, bind_ok, lift_some, nox_ok1, tb_bl, if_true, if_false, Bool.false_eq_true, List.getElem?_cons_succ, List.getElem?_cons_zero, List.set_cons_succ, List.set_cons_zero, Option.some.injEq, Sl.d.injEq, Option.bind_some, runE_rt, runE_nx, Ev_ok, wi_cons, wi_nil, List.replicate, decide_true, decide_false, q_int, h7]
        obtain ⟨L', H', eif⟩ := key
        refine step_asc (step1 eif ?_)
        rw [sv_Seq]
        rw [sv_FrzL 8 (xs := L'.map tupI) rfl]
        simp only [ev_V, ev_Op, ev_Un, ev_C, ev_E, ev_And, ev_Or, ev_Not, ev_If, ev_eAnd, ev_eOr, ev_eNot, ev_Fn, ev_Cons, ev_Nil, ev_Call, ev_CallN, ev_Yes, ev_Fld, sv_Seq, sv_If, sv_Ret, sv_Asg, sv_Nx, sv_For, gv_N, bind_ok, lift_some, nox_ok1, tb_bl, if_true, if_false, Bool.false_eq_true, List.getElem?_cons_succ, List.getElem?_cons_zero, List.set_cons_succ, List.set_cons_zero, Option.some.injEq, Sl.d.injEq, Option.bind_some, runE_rt, runE_nx, Ev_ok, wi_cons, wi_nil, List.replicate, decide_true, decide_false, f_tupL]
        exact ⟨L', rfl, H'⟩
  · refine last_rt (d := homesD F) ?_ ⟨F, rfl, Hw hsp2 FH⟩
    simp only [ev_V, ev_Op, ev_Un, ev_C, ev_E, ev_And, ev_Or, ev_Not, ev_If, ev_eAnd, ev_eOr, ev_eNot, ev_Fn, ev_Cons, ev_Nil, ev_Call, ev_CallN, ev_Yes, ev_Fld, sv_Seq, sv_If, sv_Ret, sv_Asg, sv_Nx, sv_For, gv_N, bind_ok, lift_some, nox_ok1, tb_bl, if_true, if_false, Bool.false_eq_true, List.getElem?_cons_succ, List.getElem?_cons_zero, List.set_cons_succ, List.set_cons_zero, Option.some.injEq, Sl.d.injEq, Option.bind_some, runE_rt, runE_nx, Ev_ok, wi_cons, wi_nil, List.replicate, decide_true, decide_false, f_tupL]
    rfl
end
end L2.DL.MM
/-! words along an arrow: plain facts -/
namespace L2.DL.MM
open PySem PyProof.Rows PySem.Spec
/-- one voter more -/
theorem more_bit : ∀ (v n : Nat), n.testBit v = false → ∀ i, (n + 2 ^ v).testBit i = (n.testBit i || decide (i = v))
  | 0, n, h, i => by
    have ho : n % 2 = 0 := by
      have : ¬ n % 2 = 1 := by simpa [Nat.testBit_zero] using h
      omega
    cases i with
    | zero =>
      simp only [Nat.pow_zero, Nat.testBit_zero, decide_true, Bool.or_true, decide_eq_true_eq]
      omega
    | succ i =>
      rw [Nat.pow_zero, Nat.testBit_succ, Nat.testBit_succ, show (n + 1) / 2 = n / 2 by omega]
      simp
  | v + 1, n, h, i => by
    rw [Nat.testBit_succ] at h
    have e : 2 ^ (v + 1) = 2 * 2 ^ v := by rw [Nat.pow_succ, Nat.mul_comm]
    cases i with
    | zero =>
      rw [Nat.testBit_zero, Nat.testBit_zero, e, show (n + 2 * 2 ^ v) % 2 = n % 2 by omega]
      simp
    | succ i =>
      rw [Nat.testBit_succ, Nat.testBit_succ, e, show (n + 2 * 2 ^ v) / 2 = n / 2 + 2 ^ v by omega, more_bit v (n / 2) h i]
      simp
/-- a list of voters, each once -/
theorem num_bits : ∀ (l : List Nat), l.Nodup → ∀ i, (numN l).testBit i = decide (i ∈ l)
  | [], _, i => by simp [numN]
  | v :: l, h, i => by
    (obtain ⟨h1, h2⟩ := List.nodup_cons.mp h)
    have ih := num_bits l h2
    have e : numN (v :: l) = numN l + 2 ^ v := by
      unfold numN
      rw [List.map_cons, List.sum_cons, Nat.add_comm]
    rw [e, more_bit v _ (by rw [ih]; exact decide_eq_false h1), ih]
    by_cases a : i = v
    · subst a; simp
    · simp [a]
theorem lt_of_bits {n many : Nat} (h : ∀ i, n.testBit i = true → i < many) : n < 2 ^ many := Nat.lt_pow_two_of_testBit n fun i hi => by
  cases q : n.testBit i with
  | false => rfl
  | true => have := h i q; omega
/-- the voters with p -/
def votP (p : Nat → Bool) (many : Nat) : List Nat := (List.range many).filter p
def numP (p : Nat → Bool) (many : Nat) : Nat := numN (votP p many)
theorem votP_mem {p : Nat → Bool} {many v : Nat} : v ∈ votP p many ↔ v < many ∧ p v = true := by
  unfold votP
  rw [List.mem_filter, List.mem_range]
theorem votP_nodup (p : Nat → Bool) (many : Nat) : (votP p many).Nodup := List.Pairwise.filter _ List.nodup_range
theorem numP_bit {p : Nat → Bool} {many i : Nat} : (numP p many).testBit i = true ↔ i < many ∧ p i = true := by
  unfold numP
  rw [num_bits _ (votP_nodup p many), decide_eq_true_eq, votP_mem]
theorem numP_lt (p : Nat → Bool) (many : Nat) : numP p many < 2 ^ many := lt_of_bits fun i hi => (numP_bit.mp hi).1
theorem numP_sub {p q : Nat → Bool} {many : Nat} (h : ∀ v, v < many → p v = true → q v = true) : Sub2 (numP p many) (numP q many) := fun i hi => by
  obtain ⟨a, b⟩ := numP_bit.mp hi
  exact numP_bit.mpr ⟨a, h i a b⟩
theorem numP_congr {p q : Nat → Bool} {many : Nat} (h : ∀ v, v < many → p v = q v) : numP p many = numP q many := by
  unfold numP votP
  congr 1
  apply List.filter_congr
  intro v hv
  exact h v (List.mem_range.mp hv)
/-- upward closed -/
def Up (P : Int → Bool) : Prop := ∀ x y, x ≤ y → P x = true → P y = true
/-- V is the word of the numbers ws -/
def IsWord (f : Nat → Bool) (many : Nat) (ws : Nat → Int) (V : Int) : Prop := ∀ P, Up P → f (numP (fun k => P (ws k)) many) = P V
def geP (t x : Int) : Bool := decide (t ≤ x)
theorem up_ge (t : Int) : Up (geP t) := fun x y h hx => decide_eq_true (by have := of_decide_eq_true hx; omega)
theorem IsWord.uniq {f : Nat → Bool} {many : Nat} {ws : Nat → Int} {V W : Int} (h : IsWord f many ws V) (k : IsWord f many ws W) : V = W := by
  have a : geP V W = true := by rw [← k _ (up_ge V), h _ (up_ge V)]; exact decide_eq_true (by omega)
  have b : geP W V = true := by rw [← h _ (up_ge W), k _ (up_ge W)]; exact decide_eq_true (by omega)
  have a := of_decide_eq_true a
  have b := of_decide_eq_true b
  omega
theorem least_at {ws : Nat → Int} {p : Nat → Bool} : ∀ n, (∃ k, k < n ∧ p k = true) → ∃ k, k < n ∧ p k = true ∧ ∀ j, j < n → p j = true → ws k ≤ ws j
  | 0, ⟨k, h, _⟩ => absurd h (Nat.not_lt_zero _)
  | n + 1, ⟨k, h, hp⟩ => by
    by_cases e : ∃ k, k < n ∧ p k = true
    · obtain ⟨m, h1, h2, h3⟩ := least_at (ws := ws) n e
      by_cases c : p n = true ∧ ws n < ws m
      · refine ⟨n, by omega, c.1, fun j hj pj => ?_⟩
        by_cases ej : j = n
        · rw [ej]; exact Int.le_refl _
        · have := h3 j (by omega) pj
          omega
      · refine ⟨m, by omega, h2, fun j hj pj => ?_⟩
        by_cases ej : j = n
        · rw [ej] at pj ⊢
          by_cases d : ws n < ws m
          · exact absurd ⟨pj, d⟩ c
          · omega
        · exact h3 j (by omega) pj
    · have : k = n := by
        by_cases d : k < n
        · exact absurd ⟨k, d, hp⟩ e
        · omega
      subst this
      refine ⟨k, h, hp, fun j hj pj => ?_⟩
      by_cases ej : j = k
      · rw [ej]; exact Int.le_refl _
      · exact absurd ⟨j, by omega, pj⟩ e
section
variable {f : Nat → Bool} {many : Nat} (B : Book many f)
include B
theorem word_law {ws : Nat → Int} {V : Int} (h1 : f (numP (fun k => geP V (ws k)) many) = true) (h2 : ∀ k, k < many → V < ws k → f (numP (fun j => geP (ws k) (ws j)) many) = false) : IsWord f many ws V := by
  intro P hP
  cases q : P V with
  | true =>
    refine B.mono _ _ (numP_lt _ _) (numP_lt _ _) (numP_sub fun v _ hv => ?_) h1
    exact hP V _ (of_decide_eq_true hv) q
  | false =>
    cases r : f (numP (fun k => P (ws k)) many) with
    | false => rfl
    | true =>
      exfalso
      have ne : ∃ k, k < many ∧ P (ws k) = true := by
        refine Classical.byContradiction fun e => ?_
        have : numP (fun k => P (ws k)) many = 0 := Nat.eq_of_testBit_eq fun i => by
          rw [Nat.zero_testBit]
          cases s : (numP (fun k => P (ws k)) many).testBit i with
          | false => rfl
          | true => exact absurd ⟨i, numP_bit.mp s⟩ e
        rw [this, B.none] at r
        cases r
      obtain ⟨k, hk, pk, least⟩ := least_at (ws := ws) (p := fun k => P (ws k)) many ne
      have lt : V < ws k := by
        refine Classical.byContradiction fun e => ?_
        rw [hP (ws k) V (by omega) pk] at q
        cases q
      have := B.mono _ _ (numP_lt _ _) (numP_lt _ _) (numP_sub (q := fun j => geP (ws k) (ws j)) fun v hv pv => decide_eq_true (least v hv pv)) r
      rw [h2 k hk lt] at this
      cases this
theorem word_prog {ws : Nat → Int} {pre post : List Nat} {k n n' : Nat} (all : ∀ v, v < many → v ∈ pre ∨ v = k ∨ v ∈ post) (hb : ∀ v ∈ pre, v < many) (hk : k < many) (hs : ∀ v ∈ pre, ws k ≤ ws v) (hs2 : ∀ v ∈ post, ws v ≤ ws k)
    (b' : ∀ i, n'.testBit i = decide (i ∈ pre)) (b : ∀ i, n.testBit i = decide (i ∈ pre ∨ i = k)) (f' : f n' = false) (fn : f n = true) : IsWord f many ws (ws k) := by
  intro P hP
  have l' : n' < 2 ^ many := lt_of_bits fun i hi => by rw [b'] at hi; exact hb i (of_decide_eq_true hi)
  have l : n < 2 ^ many := lt_of_bits fun i hi => by
    rw [b] at hi
    rcases of_decide_eq_true hi with h | h
    · exact hb i h
    · rw [h]; exact hk
  cases q : P (ws k) with
  | true =>
    refine B.mono _ _ l (numP_lt _ _) (fun i hi => ?_) fn
    rw [b] at hi
    rcases of_decide_eq_true hi with h | h
    · exact numP_bit.mpr ⟨hb i h, hP _ _ (hs i h) q⟩
    · rw [h]; exact numP_bit.mpr ⟨hk, q⟩
  | false =>
    cases r : f (numP (fun k => P (ws k)) many) with
    | false => rfl
    | true =>
      exfalso
      have := B.mono _ _ (numP_lt _ _) l' (fun i hi => by
        obtain ⟨hi, pi⟩ := numP_bit.mp hi
        rw [b']
        apply decide_eq_true
        rcases all i hi with h | h | h
        · exact h
        · rw [h] at pi; rw [pi] at q; cases q
        · rw [hP _ _ (hs2 i h) pi] at q; cases q) r
      rw [f'] at this
      cases this
end
/-! ### voters in order -/
def ordL (ws : Nat → Int) (i j : Nat) : Bool := decide (-ws i < -ws j) || (decide (-ws i = -ws j) && decide (i ≤ j))
theorem ordL_iff {ws : Nat → Int} {i j : Nat} : ordL ws i j = true ↔ ws j < ws i ∨ (ws i = ws j ∧ i ≤ j) := by
  unfold ordL
  rw [Bool.or_eq_true, Bool.and_eq_true, decide_eq_true_eq, decide_eq_true_eq, decide_eq_true_eq]
  omega
theorem ord_sorted (ws : Nat → Int) (l : List Nat) : (l.mergeSort (ordL ws)).Pairwise fun i j => ordL ws i j = true := by
  apply List.pairwise_mergeSort
  · intro a b c h1 h2
    rw [ordL_iff] at h1 h2 ⊢
    omega
  · intro a b
    rw [Bool.or_eq_true, ordL_iff, ordL_iff]
    omega
def rankD (ws : Nat → Int) (k : Nat) : D := .tup [.int (-ws k), nat k]
theorem rank_py (ws : Nat → Int) (k : Nat) : (rankD ws k).py 29 = .tuple [.int (-ws k), .int (k : Int)] := rfl
theorem lt_pair (a b c d : Int) : PySem.W.dataLt (.tuple [.int a, .int b]) (.tuple [.int c, .int d]) = (decide (a < c) || (decide (a = c) && decide (b < d))) := by
  have ii : ∀ x y : Int, PySem.W.dataLt (.int x) (.int y) = decide (x < y) := PySem.W.dataLt_int
  unfold PySem.W.dataLt at ii ⊢
  have h1 : ∀ x y : Int, PyProof.Rows.itemLt (.inl x) (.inl y) = decide (x < y) := fun x y => rfl
  simp only [PySem.W.keyToks, PySem.W.keyToksAll, List.append_nil, List.cons_append, List.nil_append, PyProof.Rows.lexLt, h1]
  rcases Int.lt_trichotomy a c with h | h | h
  · simp [h, show ¬ c < a by omega]
  · subst h
    by_cases h2 : b < d
    · simp [h2]
    · simp [h2]
  · simp [h, show ¬ a < c by omega, show ¬ a = c by omega]
theorem le_rank (ws : Nat → Int) (i j : Nat) : leD (rankD ws i) (rankD ws j) = ordL ws i j := by
  unfold leD
  rw [rank_py, rank_py, lt_pair]
  unfold ordL
  rw [Bool.eq_iff_iff]
  simp only [Bool.or_eq_true, Bool.and_eq_true, Bool.not_eq_true', Bool.or_eq_false_iff, Bool.and_eq_false_iff, decide_eq_true_eq, decide_eq_false_iff_not]
  omega
theorem sort_ranks (ws : Nat → Int) (l : List Nat) : fSort [.lst (l.map (rankD ws))] = some (.lst ((l.mergeSort (ordL ws)).map (rankD ws))) := by
  have hb : sortB (l.map (rankD ws)) = true := sortB_of (rankD ws) l (fun _ _ => ⟨rfl, rfl⟩) fun x _ y _ => rfl
  show (if sortB (l.map (rankD ws)) = true then some (D.lst ((l.map (rankD ws)).mergeSort leD)) else none) = _
  rw [if_pos hb, List.map_mergeSort fun a _ b _ => (le_rank ws a b).symm]
end L2.DL.MM
/-! councils and words along an arrow -/
namespace L2.DL.MM
open PySem PyProof.Rows PySem.Spec
theorem is_home_eq {h : List Int} {size : Nat} (hl : h.length = size) (hb : ∀ x ∈ h, (-60 : Int) ≤ x ∧ x ≤ 60) : m_is_home [tupI h, nat size] = .ok (.bl true) := by
  have key := ev_for (g := gN 2) (body := sIf (cOr (cE (eOp oLt (eV 2) (eUn oNeg (eC (.int 60))))) (cE (eOp oGt (eV 2) (eC (.int 60))))) (sRet (eC (.bl false))) (sNx)) (ρ := [.d (tupI h), .d (nat size), .no])
    D.int h (fun p ρ => ∃ z, ρ = [.d (tupI h), .d (nat size), z]) (by
      rintro p x q ρ e ⟨z, rfl⟩
      have hx := hb x (by rw [e]; simp)
      refine ⟨[.d (tupI h), .d (nat size), .d (.int x)], rfl, ?_⟩
      have e1 : decide (x < -60) = false := decide_eq_false (by omega)
      have e2 : decide (60 < x) = false := decide_eq_false (by omega)
      simp only [ev_V, ev_Op, ev_Un, ev_C, ev_E, ev_And, ev_Or, ev_Not, ev_If, ev_eAnd, ev_eOr, ev_eNot, ev_Fn, ev_Cons, ev_Nil, ev_Call, ev_CallN, ev_Yes, ev_Fld, sv_Seq, sv_If, sv_Ret, sv_Asg, sv_Nx, sv_For, gv_N, bind_ok, lift_some, nox_ok1, tb_bl, if_true, if_false, Bool.false_eq_true, List.getElem?_cons_succ, List.getElem?_cons_zero, List.set_cons_succ, List.set_cons_zero, Option.some.injEq, Sl.d.injEq, Option.bind_some, runE_rt, runE_nx, Ev_ok, wi_cons, wi_nil, List.replicate, decide_true, decide_false, o_neg, o_lt, o_gt, e1, e2]
      exact ⟨_, rfl⟩) ⟨.no, rfl⟩
  obtain ⟨o, e, ρ', rfl, z, rfl⟩ := key.get
  have fl : fLen [tupI h] = some (nat size) := by
    show some (D.int _) = _
    rw [List.length_map, hl]
    rfl
  have it : itemsD (tupI h) = some (h.map D.int) := rfl
  unfold m_is_home
  rw [run2]
  simp only [ev_V, ev_Op, ev_Un, ev_C, ev_E, ev_And, ev_Or, ev_Not, ev_If, ev_eAnd, ev_eOr, ev_eNot, ev_Fn, ev_Cons, ev_Nil, ev_Call, ev_CallN, ev_Yes, ev_Fld, sv_Seq, sv_If, sv_Ret, sv_Asg, sv_Nx, sv_For, gv_N, bind_ok, lift_some, nox_ok1, tb_bl, if_true, if_false, Bool.false_eq_true, List.getElem?_cons_succ, List.getElem?_cons_zero, List.set_cons_succ, List.set_cons_zero, Option.some.injEq, Sl.d.injEq, Option.bind_some, runE_rt, runE_nx, Ev_ok, wi_cons, wi_nil, List.replicate, decide_true, decide_false, fl, ne_self, iv_Sq, it, Nat.reduceSub, e]
def councilD (hs : List (List Int)) (r : D) (many size : Nat) : D := .obj 41 [("homes", homesD hs), ("rule", r), ("dimension", nat size), ("many", nat many)]
theorem mem_homes : (41, ("homes" : Str)) ∈ tb_homes := by decide
theorem mem_rule : (41, ("rule" : Str)) ∈ tb_rule := by decide
theorem mem_dim : (41, ("dimension" : Str)) ∈ tb_dimension := by decide
theorem mem_many1 : (41, ("many" : Str)) ∈ tb_many := by decide
section
variable {hs : List (List Int)} {r : D} {many size : Nat}
theorem cfld_homes : oFld tb_homes "homes" (councilD hs r many size) = some (homesD hs) := by
  unfold councilD
  rw [o_fld mem_homes]
  rfl
theorem cfld_rule : oFld tb_rule "rule" (councilD hs r many size) = some r := by
  unfold councilD
  rw [o_fld mem_rule]
  rfl
theorem cfld_dim : oFld tb_dimension "dimension" (councilD hs r many size) = some (nat size) := by
  unfold councilD
  rw [o_fld mem_dim]
  rfl
theorem cfld_many : oFld tb_many "many" (councilD hs r many size) = some (nat many) := by
  unfold councilD
  rw [o_fld mem_many1]
  rfl
theorem council_eq {f : Nat → Bool} (H : Hs hs many size 60) (h1 : 1 ≤ many) (hm : many ≤ 9) (hs1 : 1 ≤ size) (hs3 : size ≤ 3) (R : IsRule r many f) : i_Council [homesD hs, r] = .ok (councilD hs r many size) := by
  have sb := size_big
  have flh : fLen [homesD hs] = some (nat many) := by
    show some (D.int _) = _
    rw [List.length_map, H.len]
    rfl
  have frm : oFld tb_many "many" r = some (nat many) := by
    obtain ⟨_, ms, rfl, _⟩ := R
    exact fld_many _ _ _
  obtain ⟨h0, hh0⟩ : ∃ h, hs[0]? = some h := ⟨_, List.getElem?_eq_getElem (by rw [H.len]; omega)⟩
  have l0 := (H.each h0 (List.mem_of_getElem? hh0)).1
  have at0' : oIx (homesD hs) (.int 0) = some (tupI h0) := ixT (k := 0) (by rw [List.getElem?_map, hh0]; rfl)
  have fl0 : fLen [tupI h0] = some (nat size) := by
    show some (D.int _) = _
    rw [List.length_map, l0]
    rfl
  have rg : iR1 (aCons (eFn fLen (aCons (eV 1) (aNil))) (aNil)) [.bo 41 [], .d (homesD hs), .d r, .d (nat size), .no] = .ok ((List.range many).map nat) := rg1 (by omega) (by simp only [ev_V, ev_Op, ev_Un, ev_C, ev_E, ev_And, ev_Or, ev_Not, ev_If, ev_eAnd, ev_eOr, ev_eNot, ev_Fn, ev_Cons, ev_Nil, ev_Call, ev_CallN, ev_Yes, ev_Fld, sv_Seq, sv_If, sv_Ret, sv_Asg, sv_Nx, sv_For, gv_N, bind_ok, lift_some, nox_ok1, tb_bl, if_true, if_false, Bool.false_eq_true, List.getElem?_cons_succ, List.getElem?_cons_zero, List.set_cons_succ, List.set_cons_zero, Option.some.injEq, Sl.d.injEq, Option.bind_some, runE_rt, runE_nx, Ev_ok, wi_cons, wi_nil, List.replicate, decide_true, decide_false, flh]; rfl)
  have key := ev_for (g := gN 4) (body := sIf (cOr (cE (eOp oLt (eV 3) (eC (.int 1)))) (cOr (cE (eOp oGt (eV 3) (eC (.int 3)))) (cNot (cE (eCallN m_is_home (aCons (eOp oIx (eV 1) (eV 4)) (aCons (eV 3) (aNil)))))))) (sNever) (sNx)) (ρ := [.bo 41 [], .d (homesD hs), .d r, .d (nat size), .no])
    nat (List.range many) (fun p ρ => ∃ z, ρ = [.bo 41 [], .d (homesD hs), .d r, .d (nat size), z]) (by
      rintro p x q ρ e ⟨z, rfl⟩
      have hx : x < many := List.mem_range.mp (by rw [e]; simp)
      refine ⟨[.bo 41 [], .d (homesD hs), .d r, .d (nat size), .d (nat x)], rfl, ?_⟩
      obtain ⟨h, hh⟩ : ∃ h, hs[x]? = some h := ⟨_, List.getElem?_eq_getElem (by rw [H.len]; omega)⟩
      obtain ⟨a, b⟩ := H.each h (List.mem_of_getElem? hh)
      have ih := is_home_eq a b
      have ax : oIx (homesD hs) (nat x) = some (tupI h) := ixT (by rw [List.getElem?_map, hh]; rfl)
      have e1 : oLt (nat size) (.int 1) = some (.bl false) := by
        show some (D.bl _) = _
        (rw [decide_eq_false (by omega)])
      have e2 : oGt (nat size) (.int 3) = some (.bl false) := by
        show some (D.bl _) = _
        (rw [decide_eq_false (by omega)])
      simp only [ev_V, ev_Op, ev_Un, ev_C, ev_E, ev_And, ev_Or, ev_Not, ev_If, ev_eAnd, ev_eOr, ev_eNot, ev_Fn, ev_Cons, ev_Nil, ev_Call, ev_CallN, ev_Yes, ev_Fld, sv_Seq, sv_If, sv_Ret, sv_Asg, sv_Nx, sv_For, gv_N, bind_ok, lift_some, nox_ok1, tb_bl, if_true, if_false, Bool.false_eq_true, List.getElem?_cons_succ, List.getElem?_cons_zero, List.set_cons_succ, List.set_cons_zero, Option.some.injEq, Sl.d.injEq, Option.bind_some, runE_rt, runE_nx, Ev_ok, wi_cons, wi_nil, List.replicate, decide_true, decide_false, e1, e2, ax, ih, Bool.not_true]
      exact ⟨_, rfl⟩) ⟨.no, rfl⟩
  obtain ⟨o, e, ρ', rfl, z, rfl⟩ := key.get
  have p1 : putD "homes" (homesD hs) [] = [(("homes" : Str), homesD hs)] := rfl
  have p2 : ∀ x y : D, putD "rule" y [(("homes" : Str), x)] = [(("homes" : Str), x), (("rule" : Str), y)] := fun x y => by
    have e1 : ¬ (("homes" : Str) = "rule") := by decide
    simp [putD, e1]
  have p3 : ∀ x y w : D, putD "dimension" w [(("homes" : Str), x), (("rule" : Str), y)] = [(("homes" : Str), x), (("rule" : Str), y), (("dimension" : Str), w)] := fun x y w => by
    have e1 : ¬ (("homes" : Str) = "dimension") := by decide
    have e2 : ¬ (("rule" : Str) = "dimension") := by decide
    simp [putD, e1, e2]
  have p4 : ∀ x y w u : D, putD "many" u [(("homes" : Str), x), (("rule" : Str), y), (("dimension" : Str), w)] = [(("homes" : Str), x), (("rule" : Str), y), (("dimension" : Str), w), (("many" : Str), u)] := fun x y w u => by
    have e1 : ¬ (("homes" : Str) = "many") := by decide
    have e2 : ¬ (("rule" : Str) = "many") := by decide
    have e3 : ¬ (("dimension" : Str) = "many") := by decide
    simp [putD, e1, e2, e3]
  unfold i_Council runI
  rw [if_pos (show [homesD hs, r].length = 2 from rfl)]
  simp only [List.map_cons, List.map_nil, List.cons_append, List.nil_append, Nat.reduceAdd, Nat.reduceSub, ev_V, ev_Op, ev_Un, ev_C, ev_E, ev_And, ev_Or, ev_Not, ev_If, ev_eAnd, ev_eOr, ev_eNot, ev_Fn, ev_Cons, ev_Nil, ev_Call, ev_CallN, ev_Yes, ev_Fld, sv_Seq, sv_If, sv_Ret, sv_Asg, sv_Nx, sv_For, gv_N, bind_ok, lift_some, nox_ok1, tb_bl, if_true, if_false, Bool.false_eq_true, List.getElem?_cons_succ, List.getElem?_cons_zero, List.set_cons_succ, List.set_cons_zero, Option.some.injEq, Sl.d.injEq, Option.bind_some, runE_rt, runE_nx, Ev_ok, wi_cons, wi_nil, List.replicate, decide_true, decide_false, flh, frm, ne_self, at0', fl0, rg, e]
  rw [sv_SetF 0 rfl]
  simp only [ev_V, ev_Op, ev_Un, ev_C, ev_E, ev_And, ev_Or, ev_Not, ev_If, ev_eAnd, ev_eOr, ev_eNot, ev_Fn, ev_Cons, ev_Nil, ev_Call, ev_CallN, ev_Yes, ev_Fld, sv_Seq, sv_If, sv_Ret, sv_Asg, sv_Nx, sv_For, gv_N, bind_ok, lift_some, nox_ok1, tb_bl, if_true, if_false, Bool.false_eq_true, List.getElem?_cons_succ, List.getElem?_cons_zero, List.set_cons_succ, List.set_cons_zero, Option.some.injEq, Sl.d.injEq, Option.bind_some, runE_rt, runE_nx, Ev_ok, wi_cons, wi_nil, List.replicate, decide_true, decide_false]
  rw [if_pos ⟨mem_homes, by simp⟩]
  simp only [ev_V, ev_Op, ev_Un, ev_C, ev_E, ev_And, ev_Or, ev_Not, ev_If, ev_eAnd, ev_eOr, ev_eNot, ev_Fn, ev_Cons, ev_Nil, ev_Call, ev_CallN, ev_Yes, ev_Fld, sv_Seq, sv_If, sv_Ret, sv_Asg, sv_Nx, sv_For, gv_N, bind_ok, lift_some, nox_ok1, tb_bl, if_true, if_false, Bool.false_eq_true, List.getElem?_cons_succ, List.getElem?_cons_zero, List.set_cons_succ, List.set_cons_zero, Option.some.injEq, Sl.d.injEq, Option.bind_some, runE_rt, runE_nx, Ev_ok, wi_cons, wi_nil, List.replicate, decide_true, decide_false, p1]
  rw [sv_SetF 0 rfl]
  simp only [ev_V, ev_Op, ev_Un, ev_C, ev_E, ev_And, ev_Or, ev_Not, ev_If, ev_eAnd, ev_eOr, ev_eNot, ev_Fn, ev_Cons, ev_Nil, ev_Call, ev_CallN, ev_Yes, ev_Fld, sv_Seq, sv_If, sv_Ret, sv_Asg, sv_Nx, sv_For, gv_N, bind_ok, lift_some, nox_ok1, tb_bl, if_true, if_false, Bool.false_eq_true, List.getElem?_cons_succ, List.getElem?_cons_zero, List.set_cons_succ, List.set_cons_zero, Option.some.injEq, Sl.d.injEq, Option.bind_some, runE_rt, runE_nx, Ev_ok, wi_cons, wi_nil, List.replicate, decide_true, decide_false]
  rw [if_pos ⟨mem_rule, by simp⟩]
  simp only [ev_V, ev_Op, ev_Un, ev_C, ev_E, ev_And, ev_Or, ev_Not, ev_If, ev_eAnd, ev_eOr, ev_eNot, ev_Fn, ev_Cons, ev_Nil, ev_Call, ev_CallN, ev_Yes, ev_Fld, sv_Seq, sv_If, sv_Ret, sv_Asg, sv_Nx, sv_For, gv_N, bind_ok, lift_some, nox_ok1, tb_bl, if_true, if_false, Bool.false_eq_true, List.getElem?_cons_succ, List.getElem?_cons_zero, List.set_cons_succ, List.set_cons_zero, Option.some.injEq, Sl.d.injEq, Option.bind_some, runE_rt, runE_nx, Ev_ok, wi_cons, wi_nil, List.replicate, decide_true, decide_false, p2]
  rw [sv_SetF 0 rfl]
  simp only [ev_V, ev_Op, ev_Un, ev_C, ev_E, ev_And, ev_Or, ev_Not, ev_If, ev_eAnd, ev_eOr, ev_eNot, ev_Fn, ev_Cons, ev_Nil, ev_Call, ev_CallN, ev_Yes, ev_Fld, sv_Seq, sv_If, sv_Ret, sv_Asg, sv_Nx, sv_For, gv_N, bind_ok, lift_some, nox_ok1, tb_bl, if_true, if_false, Bool.false_eq_true, List.getElem?_cons_succ, List.getElem?_cons_zero, List.set_cons_succ, List.set_cons_zero, Option.some.injEq, Sl.d.injEq, Option.bind_some, runE_rt, runE_nx, Ev_ok, wi_cons, wi_nil, List.replicate, decide_true, decide_false]
  rw [if_pos ⟨mem_dim, by simp⟩]
  simp only [ev_V, ev_Op, ev_Un, ev_C, ev_E, ev_And, ev_Or, ev_Not, ev_If, ev_eAnd, ev_eOr, ev_eNot, ev_Fn, ev_Cons, ev_Nil, ev_Call, ev_CallN, ev_Yes, ev_Fld, sv_Seq, sv_If, sv_Ret, sv_Asg, sv_Nx, sv_For, gv_N, bind_ok, lift_some, nox_ok1, tb_bl, if_true, if_false, Bool.false_eq_true, List.getElem?_cons_succ, List.getElem?_cons_zero, List.set_cons_succ, List.set_cons_zero, Option.some.injEq, Sl.d.injEq, Option.bind_some, runE_rt, runE_nx, Ev_ok, wi_cons, wi_nil, List.replicate, decide_true, decide_false, p3]
  rw [sv_SetF 0 rfl]
  simp only [ev_V, ev_Op, ev_Un, ev_C, ev_E, ev_And, ev_Or, ev_Not, ev_If, ev_eAnd, ev_eOr, ev_eNot, ev_Fn, ev_Cons, ev_Nil, ev_Call, ev_CallN, ev_Yes, ev_Fld, sv_Seq, sv_If, sv_Ret, sv_Asg, sv_Nx, sv_For, gv_N, bind_ok, lift_some, nox_ok1, tb_bl, if_true, if_false, Bool.false_eq_true, List.getElem?_cons_succ, List.getElem?_cons_zero, List.set_cons_succ, List.set_cons_zero, Option.some.injEq, Sl.d.injEq, Option.bind_some, runE_rt, runE_nx, Ev_ok, wi_cons, wi_nil, List.replicate, decide_true, decide_false, flh]
  rw [if_pos ⟨mem_many1, by simp⟩]
  simp only [ev_V, ev_Op, ev_Un, ev_C, ev_E, ev_And, ev_Or, ev_Not, ev_If, ev_eAnd, ev_eOr, ev_eNot, ev_Fn, ev_Cons, ev_Nil, ev_Call, ev_CallN, ev_Yes, ev_Fld, sv_Seq, sv_If, sv_Ret, sv_Asg, sv_Nx, sv_For, gv_N, bind_ok, lift_some, nox_ok1, tb_bl, if_true, if_false, Bool.false_eq_true, List.getElem?_cons_succ, List.getElem?_cons_zero, List.set_cons_succ, List.set_cons_zero, Option.some.injEq, Sl.d.injEq, Option.bind_some, runE_rt, runE_nx, Ev_ok, wi_cons, wi_nil, List.replicate, decide_true, decide_false, p4]
  rfl
theorem dot_eq {xs ys : List Int} (hl : ys.length = xs.length) (hx : ∀ x ∈ xs, sm x) (hy : ∀ y ∈ ys, sm y) (hn : xs.length ≤ 1000) : m_dot [tupI xs, tupI ys] = .ok (.int (dotI xs ys)) := ldot_eq hl hx hy hn
/-- the products of the homes with the arrow -/
def wsOf (a : List Int) (hs : List (List Int)) (k : Nat) : Int := dotI a (hs.getD k [])
variable (H : Hs hs many size 60) (h1 : 1 ≤ many) (hm : many ≤ 9) (hs1 : 1 ≤ size) (hs3 : size ≤ 3)
variable {a : List Int} (la : a.length = size) (sa : ∀ x ∈ a, sm x)
include H h1 hm hs1 hs3 la sa
theorem home_at {k : Nat} (hk : k < many) : oIx (homesD hs) (nat k) = some (tupI (hs.getD k [])) ∧ (hs.getD k []).length = a.length ∧ ∀ x ∈ hs.getD k [], sm x := by
  obtain ⟨h, hh⟩ : ∃ h, hs[k]? = some h := ⟨_, List.getElem?_eq_getElem (by rw [H.len]; omega)⟩
  have e : hs.getD k [] = h := by rw [List.getD_eq_getElem?_getD, hh]; rfl
  obtain ⟨x, y⟩ := H.each h (List.mem_of_getElem? hh)
  rw [e]
  exact ⟨ixT (by rw [List.getElem?_map, hh]; rfl), by rw [x, la], fun z hz => sml (by have := y z hz; omega)⟩
theorem ranked_eq : m_ranked [councilD hs r many size, tupI a] = .ok (.lst (((List.range many).mergeSort (ordL (wsOf a hs))).map (rankD (wsOf a hs)))) := by
  have sb := size_big
  have rg : iR1 (aCons (eFld tb_many "many" (eV 0)) (aNil)) [.d (councilD hs r many size), .d (tupI a), .no] = .ok ((List.range many).map nat) := rg1 (by omega) (by simp only [ev_V, ev_Op, ev_Un, ev_C, ev_E, ev_And, ev_Or, ev_Not, ev_If, ev_eAnd, ev_eOr, ev_eNot, ev_Fn, ev_Cons, ev_Nil, ev_Call, ev_CallN, ev_Yes, ev_Fld, sv_Seq, sv_If, sv_Ret, sv_Asg, sv_Nx, sv_For, gv_N, bind_ok, lift_some, nox_ok1, tb_bl, if_true, if_false, Bool.false_eq_true, List.getElem?_cons_succ, List.getElem?_cons_zero, List.set_cons_succ, List.set_cons_zero, Option.some.injEq, Sl.d.injEq, Option.bind_some, runE_rt, runE_nx, Ev_ok, wi_cons, wi_nil, List.replicate, decide_true, decide_false, cfld_many]; rfl)
  have hc : compL (gN 2) cYes (eFn oTup (aCons (eUn oNeg (eCallN m_dot (aCons (eV 1) (aCons (eOp oIx (eFld tb_homes "homes" (eV 0)) (eV 2)) (aNil))))) (aCons (eV 2) (aNil)))) [.d (councilD hs r many size), .d (tupI a), .no] ((List.range many).map nat) = .ok ((List.range many).map (rankD (wsOf a hs))) := by
    refine lc_map nat (rankD (wsOf a hs)) _ fun k hk => ⟨_, rfl, ?_⟩
    obtain ⟨x, y, z⟩ := home_at H h1 hm hs1 hs3 la sa (List.mem_range.mp hk)
    have de := dot_eq y sa z (by omega)
    simp only [ev_V, ev_Op, ev_Un, ev_C, ev_E, ev_And, ev_Or, ev_Not, ev_If, ev_eAnd, ev_eOr, ev_eNot, ev_Fn, ev_Cons, ev_Nil, ev_Call, ev_CallN, ev_Yes, ev_Fld, sv_Seq, sv_If, sv_Ret, sv_Asg, sv_Nx, sv_For, gv_N, bind_ok, lift_some, nox_ok1, tb_bl, if_true, if_false, Bool.false_eq_true, List.getElem?_cons_succ, List.getElem?_cons_zero, List.set_cons_succ, List.set_cons_zero, Option.some.injEq, Sl.d.injEq, Option.bind_some, runE_rt, runE_nx, Ev_ok, wi_cons, wi_nil, List.replicate, decide_true, decide_false, cfld_homes, x, de, o_neg]
    rw [o_tup (by show 2 ≤ sizeLine; decide)]
    rfl
  have so := sort_ranks (wsOf a hs) (List.range many)
  unfold m_ranked
  rw [run2]
  simp only [ev_V, ev_Op, ev_Un, ev_C, ev_E, ev_And, ev_Or, ev_Not, ev_If, ev_eAnd, ev_eOr, ev_eNot, ev_Fn, ev_Cons, ev_Nil, ev_Call, ev_CallN, ev_Yes, ev_Fld, sv_Seq, sv_If, sv_Ret, sv_Asg, sv_Nx, sv_For, gv_N, bind_ok, lift_some, nox_ok1, tb_bl, if_true, if_false, Bool.false_eq_true, List.getElem?_cons_succ, List.getElem?_cons_zero, List.set_cons_succ, List.set_cons_zero, Option.some.injEq, Sl.d.injEq, Option.bind_some, runE_rt, runE_nx, Ev_ok, wi_cons, wi_nil, List.replicate, decide_true, decide_false, ev_Lc, rg, List.length_map, List.length_range, Nat.reduceSub]
  rw [if_pos (by omega), hc]
  simp only [ev_V, ev_Op, ev_Un, ev_C, ev_E, ev_And, ev_Or, ev_Not, ev_If, ev_eAnd, ev_eOr, ev_eNot, ev_Fn, ev_Cons, ev_Nil, ev_Call, ev_CallN, ev_Yes, ev_Fld, sv_Seq, sv_If, sv_Ret, sv_Asg, sv_Nx, sv_For, gv_N, bind_ok, lift_some, nox_ok1, tb_bl, if_true, if_false, Bool.false_eq_true, List.getElem?_cons_succ, List.getElem?_cons_zero, List.set_cons_succ, List.set_cons_zero, Option.some.injEq, Sl.d.injEq, Option.bind_some, runE_rt, runE_nx, Ev_ok, wi_cons, wi_nil, List.replicate, decide_true, decide_false, so]
variable {f : Nat → Bool} (R : IsRule r many f)
include R
theorem word_eq : ∃ V, m_word [councilD hs r many size, tupI a] = .ok (.int V) ∧ IsWord f many (wsOf a hs) V := by
  have rk := ranked_eq (r := r) H h1 hm hs1 hs3 la sa
  obtain ⟨B, ms, er, _⟩ := R
  obtain ⟨L, hL⟩ : ∃ L, L = (List.range many).mergeSort (ordL (wsOf a hs)) := ⟨_, rfl⟩
  have perm : L.Perm (List.range many) := by rw [hL]; exact List.mergeSort_perm _ _
  have srt : L.Pairwise fun i j => ordL (wsOf a hs) i j = true := by rw [hL]; exact ord_sorted _ _
  have nod : L.Nodup := perm.nodup_iff.mpr List.nodup_range
  rw [← hL] at rk
  generalize hw : wsOf a hs = ws at rk srt ⊢
  have inL : ∀ v, v ∈ L ↔ v < many := fun v => by rw [perm.mem_iff, List.mem_range]
  have fb : oFld tb_book "book" r = some (.tup (bookD f (2 ^ many))) := by rw [er]; exact fld_book _ _ _
  have key := ev_forT (g := gT 2 (gsCons (gN 4) (gsCons (gN 5) (gsNil)))) (body := sSeq (sAsg (eOp oAdd (eV 2) (eOp oShl (eC (.int 1)) (eV 5))) (gN 2))
    (sSeq (sAsg (eUn oNeg (eV 4)) (gN 3))
    (sIf (cE (eOp oIx (eFld tb_book "book" (eFld tb_rule "rule" (eV 0))) (eV 2))) (sRet (eV 3)) (sNx)))) (ρ := [.d (councilD hs r many size), .d (tupI a), .d (.int 0), .d (.int 0), .no, .no])
    (rankD ws) L (fun p ρ => ∃ n t z4 z5, ρ = [.d (councilD hs r many size), .d (tupI a), .d (nat n), .d (.int t), z4, z5] ∧ (∀ i, n.testBit i = decide (i ∈ p)) ∧ f n = false) (fun d => ∃ V, d = .int V ∧ IsWord f many ws V) (by
      rintro p x q ρ e ⟨n, t, z4, z5, rfl, hb, hf⟩
      have hx : x < many := (inL x).mp (by rw [e]; simp)
      refine ⟨[.d (councilD hs r many size), .d (tupI a), .d (nat n), .d (.int t), .d (.int (-ws x)), .d (nat x)], rfl, ?_⟩
      rw [e] at nod srt
      obtain ⟨n1, n2, n3⟩ := List.nodup_append.mp nod
      obtain ⟨s1, s2, s3⟩ := List.pairwise_append.mp srt
      obtain ⟨s4, _⟩ := List.pairwise_cons.mp s2
      have xn : n.testBit x = false := by
        rw [hb]
        exact decide_eq_false fun h => n3 x h x (by simp) rfl
      have hb2 : ∀ i, (n + 2 ^ x).testBit i = decide (i ∈ p ∨ i = x) := fun i => by
        rw [more_bit x n xn, hb]
        simp
      have pl : ∀ v ∈ p, v < many := fun v hv => (inL v).mp (by rw [e]; simp [hv])
      have lt : n + 2 ^ x < 2 ^ many := lt_of_bits fun i hi => by
        rw [hb2] at hi
        rcases of_decide_eq_true hi with h | h
        · exact pl i h
        · rw [h]; exact hx
      have e1 : oShl (.int 1) (nat x) = some (nat (2 ^ x)) := o_shl1 (by omega)
      have e2 : oIx (.tup (bookD f (2 ^ many))) (nat (n + 2 ^ x)) = some (.bl (f (n + 2 ^ x))) := ixT (book_at lt)
      simp only [ev_V, ev_Op, ev_Un, ev_C, ev_E, ev_And, ev_Or, ev_Not, ev_If, ev_eAnd, ev_eOr, ev_eNot, ev_Fn, ev_Cons, ev_Nil, ev_Call, ev_CallN, ev_Yes, ev_Fld, sv_Seq, sv_If, sv_Ret, sv_Asg, sv_Nx, sv_For, gv_N, bind_ok, lift_some, nox_ok1, tb_bl, if_true, if_false, Bool.false_eq_true, List.getElem?_cons_succ, List.getElem?_cons_zero, List.set_cons_succ, List.set_cons_zero, Option.some.injEq, Sl.d.injEq, Option.bind_some, runE_rt, runE_nx, Ev_ok, wi_cons, wi_nil, List.replicate, decide_true, decide_false, e1, nat_add, o_neg, Int.neg_neg, cfld_rule, fb, e2]
      cases hf2 : f (n + 2 ^ x) with
      | false =>
        simp only [Bool.false_eq_true, if_false, Ev_ok]
        exact ⟨n + 2 ^ x, _, _, _, rfl, fun i => by rw [hb2]; simp, hf2⟩
      | true =>
        simp only [if_true, Ev_ok]
        exact ⟨ws x, rfl, word_prog (pre := p) (post := q) B (fun v hv => by
          have := (inL v).mpr hv
          rw [e] at this
          simpa using this) pl hx (fun v hv => by
            have := ordL_iff.mp (s3 v hv x (by simp))
            omega) (fun v hv => by
            have := ordL_iff.mp (s4 v hv)
            omega) hb hb2 hf hf2⟩) ⟨0, 0, .no, .no, rfl, fun i => by simp, B.none⟩
  obtain ⟨o, e, h⟩ := key.get
  have it : itemsD (.lst (L.map (rankD ws))) = some (L.map (rankD ws)) := rfl
  rcases h with ⟨ρ', rfl, n, t, z4, z5, rfl, hb, hf⟩ | ⟨d, rfl, V, rfl, W⟩
  · exfalso
    have : n = 2 ^ many - 1 := Nat.eq_of_testBit_eq fun i => by
      rw [hb, Nat.testBit_two_pow_sub_one, Bool.eq_iff_iff, decide_eq_true_eq, decide_eq_true_eq, inL]
    rw [this, B.all] at hf
    cases hf
  · refine ⟨V, ?_, W⟩
    unfold m_word
    rw [run2]
    simp only [ev_V, ev_Op, ev_Un, ev_C, ev_E, ev_And, ev_Or, ev_Not, ev_If, ev_eAnd, ev_eOr, ev_eNot, ev_Fn, ev_Cons, ev_Nil, ev_Call, ev_CallN, ev_Yes, ev_Fld, sv_Seq, sv_If, sv_Ret, sv_Asg, sv_Nx, sv_For, gv_N, bind_ok, lift_some, nox_ok1, tb_bl, if_true, if_false, Bool.false_eq_true, List.getElem?_cons_succ, List.getElem?_cons_zero, List.set_cons_succ, List.set_cons_zero, Option.some.injEq, Sl.d.injEq, Option.bind_some, runE_rt, runE_nx, Ev_ok, wi_cons, wi_nil, List.replicate, decide_true, decide_false, iv_Sq, rk, it, Nat.reduceSub, e]
omit R
theorem value_eq (B : Book many f) : ∃ V, m__law_value [homesD hs, .lst (bookD f (2 ^ many)), tupI a] = .ok (.int V) ∧ IsWord f many (wsOf a hs) V ∧ ∃ k, k < many ∧ V = wsOf a hs k := by
  have sb := size_big
  obtain ⟨ws, hw⟩ : ∃ ws, ws = wsOf a hs := ⟨_, rfl⟩
  have enc : hs.map tupI = (List.range many).map fun k => tupI (hs.getD k []) := by
    apply List.ext_getElem
    · simp [H.len]
    · intro i i1 i2
      simp at i1
      simp [i1]
  have hc : compL (gN 7) cYes (eCallN m__law_dot (aCons (eV 2) (aCons (eV 7) (aNil)))) [.d (homesD hs), .d (.lst (bookD f (2 ^ many))), .d (tupI a), .no, .no, .no, .no, .no, .no] (hs.map tupI) = .ok (((List.range many).map ws).map D.int) := by
    rw [enc, lc_map (fun k => tupI (hs.getD k [])) (fun k => D.int (ws k)), List.map_map]
    · rfl
    · intro k hk
      obtain ⟨x, y, z⟩ := home_at H h1 hm hs1 hs3 la sa (List.mem_range.mp hk)
      have de := ldot_eq y sa z (by omega)
      refine ⟨_, rfl, ?_⟩
      simp only [ev_V, ev_Op, ev_Un, ev_C, ev_E, ev_And, ev_Or, ev_Not, ev_If, ev_eAnd, ev_eOr, ev_eNot, ev_Fn, ev_Cons, ev_Nil, ev_Call, ev_CallN, ev_Yes, ev_Fld, sv_Seq, sv_If, sv_Ret, sv_Asg, sv_Nx, sv_For, gv_N, bind_ok, lift_some, nox_ok1, tb_bl, if_true, if_false, Bool.false_eq_true, List.getElem?_cons_succ, List.getElem?_cons_zero, List.set_cons_succ, List.set_cons_zero, Option.some.injEq, Sl.d.injEq, Option.bind_some, runE_rt, runE_nx, Ev_ok, wi_cons, wi_nil, List.replicate, decide_true, decide_false, de, hw]
      rfl
  have it : itemsD (homesD hs) = some (hs.map tupI) := rfl
  have itw : itemsD (.lst (((List.range many).map ws).map D.int)) = some (((List.range many).map ws).map D.int) := rfl
  obtain ⟨m, hmin, m1, m2⟩ : ∃ m, fMin [.lst (((List.range many).map ws).map D.int)] = some (.int (ws m)) ∧ m < many ∧ ∀ k, k < many → ws m ≤ ws k := by
    have fm : ∀ (l : List Int) (x : Int), (l.foldl (fun a b => if b < a then b else a) x = x ∨ l.foldl (fun a b => if b < a then b else a) x ∈ l) ∧ l.foldl (fun a b => if b < a then b else a) x ≤ x ∧ ∀ y ∈ l, l.foldl (fun a b => if b < a then b else a) x ≤ y := by
      intro l
      induction l with
      | nil => intro x; exact ⟨.inl rfl, Int.le_refl _, by simp⟩
      | cons y l ih =>
        intro x
        rw [List.foldl_cons]
        obtain ⟨a, b, c⟩ := ih (if y < x then y else x)
        refine ⟨?_, ?_, ?_⟩
        · rcases a with a | a
          · by_cases h : y < x
            · rw [if_pos h] at a ⊢; rw [a]; simp
            · rw [if_neg h] at a ⊢; exact .inl a
          · exact .inr (by simp [a])
        · exact Int.le_trans b (by split <;> omega)
        · intro z hz
          (rcases List.mem_cons.mp hz with rfl | hz)
          · exact Int.le_trans b (by split <;> omega)
          · exact c z hz
    cases many with
    | zero => omega
    | succ n =>
      obtain ⟨a, b, c⟩ := fm ((List.range n).map fun k => ws (k + 1)) (ws 0)
      have em : minI ((List.range (n + 1)).map ws) = some (((List.range n).map fun k => ws (k + 1)).foldl (fun a b => if b < a then b else a) (ws 0)) := by
        (rw [List.range_succ_eq_map, List.map_cons, List.map_map])
        rfl
      have ef : fMin [.lst (((List.range (n + 1)).map ws).map D.int)] = some (.int (((List.range n).map fun k => ws (k + 1)).foldl (fun a b => if b < a then b else a) (ws 0))) := by
        show (intsD _).bind _ = _
        rw [intsD_map, Option.bind_some, em]
        rfl
      generalize ((List.range n).map fun k => ws (k + 1)).foldl (fun a b => if b < a then b else a) (ws 0) = v at a b c ef
      have cc : ∀ k, k < n + 1 → v ≤ ws k := fun k hk => by
        cases k with
        | zero => exact b
        | succ k => exact c _ (List.mem_map.mpr ⟨k, List.mem_range.mpr (by omega), rfl⟩)
      rcases a with a | a
      · exact ⟨0, by rw [ef, a], by omega, fun k hk => by rw [← a]; exact cc k hk⟩
      · obtain ⟨k, hk, e⟩ := List.mem_map.mp a
        exact ⟨k + 1, by rw [ef, e], by have := List.mem_range.mp hk; omega, fun j hj => by rw [e]; exact cc j hj⟩
  have key := ev_for (g := gN 5) (body := sSeq (sAsg (eCallN m__law_number (aCons (eLc (iR1 (aCons (eFn fLen (aCons (eV 0) (aNil))) (aNil))) [8] (gN 8) (cE (eOp oGe (eOp oIx (eV 3) (eV 8)) (eV 5))) (eV 8)) (aNil))) (gN 6))
    (sIf (cAnd (cE (eOp oGt (eV 5) (eV 4))) (cE (eOp oIx (eV 1) (eV 6)))) (sAsg (eV 5) (gN 4)) (sNx))) (ρ := [.d (homesD hs), .d (.lst (bookD f (2 ^ many))), .d (tupI a), .d (.lst (((List.range many).map ws).map D.int)), .d (.int (ws m)), .no, .no, .no, .no])
    (fun k => D.int (ws k)) (List.range many) (fun p ρ => ∃ j z5 z6, ρ = [.d (homesD hs), .d (.lst (bookD f (2 ^ many))), .d (tupI a), .d (.lst (((List.range many).map ws).map D.int)), .d (.int (ws j)), z5, z6, .no, .no] ∧ j < many ∧ f (numP (fun k => geP (ws j) (ws k)) many) = true ∧ ∀ k ∈ p, ws j < ws k → f (numP (fun i => geP (ws k) (ws i)) many) = false) (by
      rintro p x q ρ e ⟨j, z5, z6, rfl, hj, hf, hp⟩
      have hx : x < many := List.mem_range.mp (by rw [e]; simp)
      refine ⟨[.d (homesD hs), .d (.lst (bookD f (2 ^ many))), .d (tupI a), .d (.lst (((List.range many).map ws).map D.int)), .d (.int (ws j)), .d (.int (ws x)), z6, .no, .no], rfl, ?_⟩
      have flh : fLen [homesD hs] = some (nat many) := by
        show some (D.int _) = _
        rw [List.length_map, H.len]
        rfl
      have rg : iR1 (aCons (eFn fLen (aCons (eV 0) (aNil))) (aNil)) [.d (homesD hs), .d (.lst (bookD f (2 ^ many))), .d (tupI a), .d (.lst (((List.range many).map ws).map D.int)), .d (.int (ws j)), .d (.int (ws x)), z6, .no, .no] = .ok ((List.range many).map nat) := rg1 (by omega) (by simp only [ev_V, ev_Op, ev_Un, ev_C, ev_E, ev_And, ev_Or, ev_Not, ev_If, ev_eAnd, ev_eOr, ev_eNot, ev_Fn, ev_Cons, ev_Nil, ev_Call, ev_CallN, ev_Yes, ev_Fld, sv_Seq, sv_If, sv_Ret, sv_Asg, sv_Nx, sv_For, gv_N, bind_ok, lift_some, nox_ok1, tb_bl, if_true, if_false, Bool.false_eq_true, List.getElem?_cons_succ, List.getElem?_cons_zero, List.set_cons_succ, List.set_cons_zero, Option.some.injEq, Sl.d.injEq, Option.bind_some, runE_rt, runE_nx, Ev_ok, wi_cons, wi_nil, List.replicate, decide_true, decide_false, flh]; rfl)
      have hc2 : compL (gN 8) (cE (eOp oGe (eOp oIx (eV 3) (eV 8)) (eV 5))) (eV 8) [.d (homesD hs), .d (.lst (bookD f (2 ^ many))), .d (tupI a), .d (.lst (((List.range many).map ws).map D.int)), .d (.int (ws j)), .d (.int (ws x)), z6, .no, .no] ((List.range many).map nat) = .ok ((votP (fun i => geP (ws x) (ws i)) many).map nat) := by
        refine lc_filter nat (fun i => geP (ws x) (ws i)) nat _ fun k hk => ⟨_, rfl, ?_, fun _ => rfl⟩
        have ix : oIx (.lst (((List.range many).map ws).map D.int)) (nat k) = some (.int (ws k)) := ixL (by
          rw [List.getElem?_map, List.getElem?_map, List.getElem?_range (List.mem_range.mp hk)]
          rfl)
        simp only [ev_V, ev_Op, ev_Un, ev_C, ev_E, ev_And, ev_Or, ev_Not, ev_If, ev_eAnd, ev_eOr, ev_eNot, ev_Fn, ev_Cons, ev_Nil, ev_Call, ev_CallN, ev_Yes, ev_Fld, sv_Seq, sv_If, sv_Ret, sv_Asg, sv_Nx, sv_For, gv_N, bind_ok, lift_some, nox_ok1, tb_bl, if_true, if_false, Bool.false_eq_true, List.getElem?_cons_succ, List.getElem?_cons_zero, List.set_cons_succ, List.set_cons_zero, Option.some.injEq, Sl.d.injEq, Option.bind_some, runE_rt, runE_nx, Ev_ok, wi_cons, wi_nil, List.replicate, decide_true, decide_false, ix, o_ge]
        rfl
      have num := lnumber_eqL (l := votP (fun i => geP (ws x) (ws i)) many) fun v hv => by have := (votP_mem.mp hv).1; omega
      have e2 : oIx (.lst (bookD f (2 ^ many))) (nat (numN (votP (fun i => geP (ws x) (ws i)) many))) = some (.bl (f (numP (fun i => geP (ws x) (ws i)) many))) := ixL (book_at (numP_lt _ _))
      rw [sv_Seq, sv_Asg]
      simp only [ev_V, ev_Op, ev_Un, ev_C, ev_E, ev_And, ev_Or, ev_Not, ev_If, ev_eAnd, ev_eOr, ev_eNot, ev_Fn, ev_Cons, ev_Nil, ev_Call, ev_CallN, ev_Yes, ev_Fld, sv_Seq, sv_If, sv_Ret, sv_Asg, sv_Nx, sv_For, gv_N, bind_ok, lift_some, nox_ok1, tb_bl, if_true, if_false, Bool.false_eq_true, List.getElem?_cons_succ, List.getElem?_cons_zero, List.set_cons_succ, List.set_cons_zero, Option.some.injEq, Sl.d.injEq, Option.bind_some, runE_rt, runE_nx, Ev_ok, wi_cons, wi_nil, List.replicate, decide_true, decide_false, ev_Lc, rg, List.length_map, List.length_range]
      rw [if_pos (by omega), hc2]
      simp only [ev_V, ev_Op, ev_Un, ev_C, ev_E, ev_And, ev_Or, ev_Not, ev_If, ev_eAnd, ev_eOr, ev_eNot, ev_Fn, ev_Cons, ev_Nil, ev_Call, ev_CallN, ev_Yes, ev_Fld, sv_Seq, sv_If, sv_Ret, sv_Asg, sv_Nx, sv_For, gv_N, bind_ok, lift_some, nox_ok1, tb_bl, if_true, if_false, Bool.false_eq_true, List.getElem?_cons_succ, List.getElem?_cons_zero, List.set_cons_succ, List.set_cons_zero, Option.some.injEq, Sl.d.injEq, Option.bind_some, runE_rt, runE_nx, Ev_ok, wi_cons, wi_nil, List.replicate, decide_true, decide_false, num, o_gt, e2]
      by_cases g : ws j < ws x
      · simp only [g, ev_V, ev_Op, ev_Un, ev_C, ev_E, ev_And, ev_Or, ev_Not, ev_If, ev_eAnd, ev_eOr, ev_eNot, ev_Fn, ev_Cons, ev_Nil, ev_Call, ev_CallN, ev_Yes, ev_Fld, sv_Seq, sv_If, sv_Ret, sv_Asg, sv_Nx, sv_For, gv_N, bind_ok, lift_some, nox_ok1, tb_bl, if_true, if_false, Bool.false_eq_true, List.getElem?_cons_succ, List.getElem?_cons_zero, List.set_cons_succ, List.set_cons_zero, Option.some.injEq, Sl.d.injEq, Option.bind_some, runE_rt, runE_nx, Ev_ok, wi_cons, wi_nil, List.replicate, decide_true, decide_false]
        cases hf2 : f (numP (fun i => geP (ws x) (ws i)) many) with
        | false =>
          simp only [ev_V, ev_Op, ev_Un, ev_C, ev_E, ev_And, ev_Or, ev_Not, ev_If, ev_eAnd, ev_eOr, ev_eNot, ev_Fn, ev_Cons, ev_Nil, ev_Call, ev_CallN, ev_Yes, ev_Fld, sv_Seq, sv_If, sv_Ret, sv_Asg, sv_Nx, sv_For, gv_N, bind_ok, lift_some, nox_ok1, tb_bl, if_true, if_false, Bool.false_eq_true, List.getElem?_cons_succ, List.getElem?_cons_zero, List.set_cons_succ, List.set_cons_zero, Option.some.injEq, Sl.d.injEq, Option.bind_some, runE_rt, runE_nx, Ev_ok, wi_cons, wi_nil, List.replicate, decide_true, decide_false]
          refine ⟨j, _, _, rfl, hj, hf, fun k hk hlt => ?_⟩
          (rcases List.mem_append.mp hk with hk | hk)
          · exact hp k hk hlt
          · rw [List.mem_singleton.mp hk]; exact hf2
        | true =>
          simp only [ev_V, ev_Op, ev_Un, ev_C, ev_E, ev_And, ev_Or, ev_Not, ev_If, ev_eAnd, ev_eOr, ev_eNot, ev_Fn, ev_Cons, ev_Nil, ev_Call, ev_CallN, ev_Yes, ev_Fld, sv_Seq, sv_If, sv_Ret, sv_Asg, sv_Nx, sv_For, gv_N, bind_ok, lift_some, nox_ok1, tb_bl, if_true, if_false, Bool.false_eq_true, List.getElem?_cons_succ, List.getElem?_cons_zero, List.set_cons_succ, List.set_cons_zero, Option.some.injEq, Sl.d.injEq, Option.bind_some, runE_rt, runE_nx, Ev_ok, wi_cons, wi_nil, List.replicate, decide_true, decide_false]
          refine ⟨x, _, _, rfl, hx, hf2, fun k hk hlt => ?_⟩
          (rcases List.mem_append.mp hk with hk | hk)
          · exact hp k hk (by omega)
          · rw [List.mem_singleton.mp hk] at hlt; omega
      · simp only [g, ev_V, ev_Op, ev_Un, ev_C, ev_E, ev_And, ev_Or, ev_Not, ev_If, ev_eAnd, ev_eOr, ev_eNot, ev_Fn, ev_Cons, ev_Nil, ev_Call, ev_CallN, ev_Yes, ev_Fld, sv_Seq, sv_If, sv_Ret, sv_Asg, sv_Nx, sv_For, gv_N, bind_ok, lift_some, nox_ok1, tb_bl, if_true, if_false, Bool.false_eq_true, List.getElem?_cons_succ, List.getElem?_cons_zero, List.set_cons_succ, List.set_cons_zero, Option.some.injEq, Sl.d.injEq, Option.bind_some, runE_rt, runE_nx, Ev_ok, wi_cons, wi_nil, List.replicate, decide_true, decide_false]
        refine ⟨j, _, _, rfl, hj, hf, fun k hk hlt => ?_⟩
        (rcases List.mem_append.mp hk with hk | hk)
        · exact hp k hk hlt
        · rw [List.mem_singleton.mp hk] at hlt; omega) ⟨m, .no, .no, rfl, m1, by
          have : numP (fun k => geP (ws m) (ws k)) many = 2 ^ many - 1 := Nat.eq_of_testBit_eq fun i => by
            rw [Bool.eq_iff_iff, numP_bit, Nat.testBit_two_pow_sub_one, decide_eq_true_eq]
            exact ⟨fun h => h.1, fun h => ⟨h, decide_eq_true (m2 i h)⟩⟩
          rw [this]; exact B.all, by simp⟩
  obtain ⟨o, e, ρ', rfl, j, z5, z6, rfl, hj, hf, hp⟩ := key.get
  refine ⟨ws j, ?_, by rw [← hw]; exact word_law B hf fun k hk => hp k (List.mem_range.mpr hk), j, hj, by rw [hw]⟩
  have e' : ((List.range many).map ws).map D.int = (List.range many).map fun k => D.int (ws k) := by rw [List.map_map]; rfl
  unfold m__law_value
  rw [run3]
  simp only [ev_V, ev_Op, ev_Un, ev_C, ev_E, ev_And, ev_Or, ev_Not, ev_If, ev_eAnd, ev_eOr, ev_eNot, ev_Fn, ev_Cons, ev_Nil, ev_Call, ev_CallN, ev_Yes, ev_Fld, sv_Seq, sv_If, sv_Ret, sv_Asg, sv_Nx, sv_For, gv_N, bind_ok, lift_some, nox_ok1, tb_bl, if_true, if_false, Bool.false_eq_true, List.getElem?_cons_succ, List.getElem?_cons_zero, List.set_cons_succ, List.set_cons_zero, Option.some.injEq, Sl.d.injEq, Option.bind_some, runE_rt, runE_nx, Ev_ok, wi_cons, wi_nil, List.replicate, decide_true, decide_false, iv_Sq, ev_Lc, it, List.length_map, H.len, Nat.reduceSub]
  rw [if_pos (by omega), hc]
  simp only [ev_V, ev_Op, ev_Un, ev_C, ev_E, ev_And, ev_Or, ev_Not, ev_If, ev_eAnd, ev_eOr, ev_eNot, ev_Fn, ev_Cons, ev_Nil, ev_Call, ev_CallN, ev_Yes, ev_Fld, sv_Seq, sv_If, sv_Ret, sv_Asg, sv_Nx, sv_For, gv_N, bind_ok, lift_some, nox_ok1, tb_bl, if_true, if_false, Bool.false_eq_true, List.getElem?_cons_succ, List.getElem?_cons_zero, List.set_cons_succ, List.set_cons_zero, Option.some.injEq, Sl.d.injEq, Option.bind_some, runE_rt, runE_nx, Ev_ok, wi_cons, wi_nil, List.replicate, decide_true, decide_false, hmin, iv_Sq, itw]
  rw [e'] at e ⊢
  rw [e]
  simp only [ev_V, ev_Op, ev_Un, ev_C, ev_E, ev_And, ev_Or, ev_Not, ev_If, ev_eAnd, ev_eOr, ev_eNot, ev_Fn, ev_Cons, ev_Nil, ev_Call, ev_CallN, ev_Yes, ev_Fld, sv_Seq, sv_If, sv_Ret, sv_Asg, sv_Nx, sv_For, gv_N, bind_ok, lift_some, nox_ok1, tb_bl, if_true, if_false, Bool.false_eq_true, List.getElem?_cons_succ, List.getElem?_cons_zero, List.set_cons_succ, List.set_cons_zero, Option.some.injEq, Sl.d.injEq, Option.bind_some, runE_rt, runE_nx, Ev_ok, wi_cons, wi_nil, List.replicate, decide_true, decide_false]
end
end L2.DL.MM
/-! pairs in lowest terms, motions -/
namespace L2.DL.MM
open PySem PyProof.Rows PySem.Spec
def N90 : Nat := 10 ^ 90
theorem sm90 {i : Int} (h : i.natAbs ≤ N90) : sm i := sm_of h (by decide +kernel)
theorem ab {a b : Int} {m n : Nat} (ha : a.natAbs ≤ m) (hb : b.natAbs ≤ n) : (a * b).natAbs ≤ m * n := by
  rw [Int.natAbs_mul]
  exact Nat.mul_le_mul ha hb
theorem sm_mul {a b : Int} {n : Nat} (ha : a.natAbs ≤ N90) (hb : b.natAbs ≤ n) (hn : n ≤ N90) : sm (a * b) := by
  have h := ab ha hb
  have h2 := Nat.mul_le_mul_left N90 hn
  exact sm_of (Nat.le_trans h h2) (by decide +kernel)
theorem ratio_eq {a b : Int} (hb : b ≠ 0) (sb : sm b) : m_ratio [.int a, .int b] = .ok (pair (low a b)) := by
  have l2 : ∀ x y : D, oTup [x, y] = some (.tup [x, y]) := fun x y => o_tup (by show 2 ≤ sizeLine; decide)
  have fg : fGcd [.int a, .int b] = some (.int ((Nat.gcd a.natAbs b.natAbs : Nat) : Int)) := rfl
  obtain ⟨h1, h2⟩ := sg_spec a hb sb
  have dv := fun i => o_fdiv (i := i) h1 h2
  have e0 : decide (b = 0) = false := decide_eq_false hb
  unfold m_ratio
  rw [run2]
  by_cases h : b < 0
  · have e : sg b (Nat.gcd a.natAbs b.natAbs : Nat) = -((Nat.gcd a.natAbs b.natAbs : Nat) : Int) := if_pos h
    unfold low
    rw [e] at dv ⊢
    have hd : decide (b < 0) = true := decide_eq_true h
    simp only [ev_V, ev_Op, ev_Un, ev_C, ev_E, ev_And, ev_Or, ev_Not, ev_If, ev_eAnd, ev_eOr, ev_eNot, ev_Fn, ev_Cons, ev_Nil, ev_Call, ev_CallN, ev_Yes, ev_Fld, sv_Seq, sv_If, sv_Ret, sv_Asg, sv_Nx, sv_For, gv_N, bind_ok, lift_some, nox_ok1, tb_bl, if_true, if_false, Bool.false_eq_true, List.getElem?_cons_succ, List.getElem?_cons_zero, List.set_cons_succ, List.set_cons_zero, Option.some.injEq, Sl.d.injEq, Option.bind_some, runE_rt, runE_nx, Ev_ok, wi_cons, wi_nil, List.replicate, decide_true, decide_false, q_int, e0, fg, o_lt, hd, o_neg, dv, l2, Nat.reduceSub]
    rfl
  · have e : sg b (Nat.gcd a.natAbs b.natAbs : Nat) = ((Nat.gcd a.natAbs b.natAbs : Nat) : Int) := if_neg h
    unfold low
    rw [e] at dv ⊢
    have hd : decide (b < 0) = false := decide_eq_false h
    simp only [ev_V, ev_Op, ev_Un, ev_C, ev_E, ev_And, ev_Or, ev_Not, ev_If, ev_eAnd, ev_eOr, ev_eNot, ev_Fn, ev_Cons, ev_Nil, ev_Call, ev_CallN, ev_Yes, ev_Fld, sv_Seq, sv_If, sv_Ret, sv_Asg, sv_Nx, sv_For, gv_N, bind_ok, lift_some, nox_ok1, tb_bl, if_true, if_false, Bool.false_eq_true, List.getElem?_cons_succ, List.getElem?_cons_zero, List.set_cons_succ, List.set_cons_zero, Option.some.injEq, Sl.d.injEq, Option.bind_some, runE_rt, runE_nx, Ev_ok, wi_cons, wi_nil, List.replicate, decide_true, decide_false, q_int, e0, fg, o_lt, hd, o_neg, dv, l2, Nat.reduceSub]
    rfl
theorem p0 (a b : Int) : oIx (pair (a, b)) (.int 0) = some (.int a) := rfl
theorem p1 (a b : Int) : oIx (pair (a, b)) (.int 1) = some (.int b) := rfl
theorem tup2 (a b : Int) : oTup [.int a, .int b] = some (pair (a, b)) := o_tup (by show 2 ≤ sizeLine; decide)
theorem compare_eq {p q r s : Int} (h1 : sm p) (h2 : sm q) (h3 : sm r) (h4 : sm s) : m_compare [pair (p, q), pair (r, s)] = .ok (.int (cmpI (p * s) (r * q))) := by
  have e1 := o_mulS h1 h4
  have e2 := o_mulS h3 h2
  unfold m_compare
  rw [run2]
  simp only [ev_V, ev_Op, ev_Un, ev_C, ev_E, ev_And, ev_Or, ev_Not, ev_If, ev_eAnd, ev_eOr, ev_eNot, ev_Fn, ev_Cons, ev_Nil, ev_Call, ev_CallN, ev_Yes, ev_Fld, sv_Seq, sv_If, sv_Ret, sv_Asg, sv_Nx, sv_For, gv_N, bind_ok, lift_some, nox_ok1, tb_bl, if_true, if_false, Bool.false_eq_true, List.getElem?_cons_succ, List.getElem?_cons_zero, List.set_cons_succ, List.set_cons_zero, Option.some.injEq, Sl.d.injEq, Option.bind_some, runE_rt, runE_nx, Ev_ok, wi_cons, wi_nil, List.replicate, decide_true, decide_false, p0, p1, e1, e2, o_lt, o_gt, o_neg, Nat.reduceSub]
  unfold cmpI
  by_cases h : p * s < r * q
  · simp only [h, ev_V, ev_Op, ev_Un, ev_C, ev_E, ev_And, ev_Or, ev_Not, ev_If, ev_eAnd, ev_eOr, ev_eNot, ev_Fn, ev_Cons, ev_Nil, ev_Call, ev_CallN, ev_Yes, ev_Fld, sv_Seq, sv_If, sv_Ret, sv_Asg, sv_Nx, sv_For, gv_N, bind_ok, lift_some, nox_ok1, tb_bl, if_true, if_false, Bool.false_eq_true, List.getElem?_cons_succ, List.getElem?_cons_zero, List.set_cons_succ, List.set_cons_zero, Option.some.injEq, Sl.d.injEq, Option.bind_some, runE_rt, runE_nx, Ev_ok, wi_cons, wi_nil, List.replicate, decide_true, decide_false]
  · by_cases h' : r * q < p * s
    · simp only [h, h', ev_V, ev_Op, ev_Un, ev_C, ev_E, ev_And, ev_Or, ev_Not, ev_If, ev_eAnd, ev_eOr, ev_eNot, ev_Fn, ev_Cons, ev_Nil, ev_Call, ev_CallN, ev_Yes, ev_Fld, sv_Seq, sv_If, sv_Ret, sv_Asg, sv_Nx, sv_For, gv_N, bind_ok, lift_some, nox_ok1, tb_bl, if_true, if_false, Bool.false_eq_true, List.getElem?_cons_succ, List.getElem?_cons_zero, List.set_cons_succ, List.set_cons_zero, Option.some.injEq, Sl.d.injEq, Option.bind_some, runE_rt, runE_nx, Ev_ok, wi_cons, wi_nil, List.replicate, decide_true, decide_false, o_gt]
    · simp only [h, h', ev_V, ev_Op, ev_Un, ev_C, ev_E, ev_And, ev_Or, ev_Not, ev_If, ev_eAnd, ev_eOr, ev_eNot, ev_Fn, ev_Cons, ev_Nil, ev_Call, ev_CallN, ev_Yes, ev_Fld, sv_Seq, sv_If, sv_Ret, sv_Asg, sv_Nx, sv_For, gv_N, bind_ok, lift_some, nox_ok1, tb_bl, if_true, if_false, Bool.false_eq_true, List.getElem?_cons_succ, List.getElem?_cons_zero, List.set_cons_succ, List.set_cons_zero, Option.some.injEq, Sl.d.injEq, Option.bind_some, runE_rt, runE_nx, Ev_ok, wi_cons, wi_nil, List.replicate, decide_true, decide_false, o_gt]
theorem minus_eq {p q r s : Int} (h1 : sm p) (h2 : sm q) (h3 : sm r) (h4 : sm s) (hb : q * s ≠ 0) (sb : sm (q * s)) : m_minus [pair (p, q), pair (r, s)] = .ok (pair (low (p * s - r * q) (q * s))) := by
  have e1 := o_mulS h1 h4
  have e2 := o_mulS h3 h2
  have e3 := o_mulS h2 h4
  have e4 := ratio_eq (a := p * s - r * q) hb sb
  unfold m_minus
  rw [run2]
  simp only [ev_V, ev_Op, ev_Un, ev_C, ev_E, ev_And, ev_Or, ev_Not, ev_If, ev_eAnd, ev_eOr, ev_eNot, ev_Fn, ev_Cons, ev_Nil, ev_Call, ev_CallN, ev_Yes, ev_Fld, sv_Seq, sv_If, sv_Ret, sv_Asg, sv_Nx, sv_For, gv_N, bind_ok, lift_some, nox_ok1, tb_bl, if_true, if_false, Bool.false_eq_true, List.getElem?_cons_succ, List.getElem?_cons_zero, List.set_cons_succ, List.set_cons_zero, Option.some.injEq, Sl.d.injEq, Option.bind_some, runE_rt, runE_nx, Ev_ok, wi_cons, wi_nil, List.replicate, decide_true, decide_false, p0, p1, e1, e2, e3, o_sub, e4, Nat.reduceSub]
theorem over_eq {p q r s : Int} (h1 : sm p) (h2 : sm q) (h3 : sm r) (h4 : sm s) (hb : q * r ≠ 0) (sb : sm (q * r)) : m_over [pair (p, q), pair (r, s)] = .ok (pair (low (p * s) (q * r))) := by
  have e1 := o_mulS h1 h4
  have e2 := o_mulS h2 h3
  have e4 := ratio_eq (a := p * s) hb sb
  unfold m_over
  rw [run2]
  simp only [ev_V, ev_Op, ev_Un, ev_C, ev_E, ev_And, ev_Or, ev_Not, ev_If, ev_eAnd, ev_eOr, ev_eNot, ev_Fn, ev_Cons, ev_Nil, ev_Call, ev_CallN, ev_Yes, ev_Fld, sv_Seq, sv_If, sv_Ret, sv_Asg, sv_Nx, sv_For, gv_N, bind_ok, lift_some, nox_ok1, tb_bl, if_true, if_false, Bool.false_eq_true, List.getElem?_cons_succ, List.getElem?_cons_zero, List.set_cons_succ, List.set_cons_zero, Option.some.injEq, Sl.d.injEq, Option.bind_some, runE_rt, runE_nx, Ev_ok, wi_cons, wi_nil, List.replicate, decide_true, decide_false, p0, p1, e1, e2, e4, Nat.reduceSub]
theorem floor_eq {p q : Int} (hq : q ≠ 0) (h2 : sm q) : m_floor_of [pair (p, q)] = .ok (.int (p.fdiv q)) := by
  have e1 := o_fdiv (i := p) hq h2.fd
  unfold m_floor_of
  rw [run1]
  simp only [ev_V, ev_Op, ev_Un, ev_C, ev_E, ev_And, ev_Or, ev_Not, ev_If, ev_eAnd, ev_eOr, ev_eNot, ev_Fn, ev_Cons, ev_Nil, ev_Call, ev_CallN, ev_Yes, ev_Fld, sv_Seq, sv_If, sv_Ret, sv_Asg, sv_Nx, sv_For, gv_N, bind_ok, lift_some, nox_ok1, tb_bl, if_true, if_false, Bool.false_eq_true, List.getElem?_cons_succ, List.getElem?_cons_zero, List.set_cons_succ, List.set_cons_zero, Option.some.injEq, Sl.d.injEq, Option.bind_some, runE_rt, runE_nx, Ev_ok, wi_cons, wi_nil, List.replicate, decide_true, decide_false, p0, p1, e1, Nat.reduceSub]
/-- a pair in lowest terms, the number above within b -/
structure Pt (b : Nat) (p q : Int) : Prop where
  pos : 0 < q
  co : Nat.gcd p.natAbs q.natAbs = 1
  qb : q.natAbs ≤ 1000
  pb : p.natAbs ≤ b
theorem Pt.mono {b c : Nat} {p q : Int} (h : Pt b p q) (hc : b ≤ c) : Pt c p q := ⟨h.pos, h.co, h.qb, Nat.le_trans h.pb hc⟩
theorem co_add {p q k : Int} (h : Nat.gcd p.natAbs q.natAbs = 1) : Nat.gcd (p + k * q).natAbs q.natAbs = 1 := by
  have e : Int.gcd (p + k * q) q = Int.gcd p q := by rw [Int.gcd_add_mul_right_left]
  exact e.trans h
theorem co_neg {p q : Int} (h : Nat.gcd p.natAbs q.natAbs = 1) : Nat.gcd (-p).natAbs q.natAbs = 1 := by rw [Int.natAbs_neg]; exact h
theorem mirror_co {p q u : Int} (h : Nat.gcd p.natAbs q.natAbs = 1) : Nat.gcd (2 * u * q - p).natAbs q.natAbs = 1 := by
  have := co_add (k := 2 * u) (co_neg h)
  rw [show -p + 2 * u * q = 2 * u * q - p by omega] at this
  exact this
theorem n1000 : 1000 ≤ N90 := by decide +kernel
theorem mirror_pt {b : Nat} {p q u : Int} (P : Pt b p q) (hu : u.natAbs ≤ 200) : Pt (b + 400000) (2 * u * q - p) q := by
  refine ⟨P.pos, mirror_co P.co, P.qb, ?_⟩
  have a := ab (a := 2 * u) (b := q) (m := 400) (n := 1000) (by omega) P.qb
  have c := P.pb
  have := Int.natAbs_sub_le (2 * u * q) p
  omega
theorem flip_pt {b : Nat} {p q : Int} (P : Pt b p q) : Pt b (-p) q := ⟨P.pos, co_neg P.co, P.qb, by rw [Int.natAbs_neg]; exact P.pb⟩
theorem shift_pt {b c : Nat} {p q k : Int} (P : Pt b p q) (hk : k.natAbs ≤ c) : Pt (b + c * 1000) (p + k * q) q := by
  refine ⟨P.pos, co_add P.co, P.qb, ?_⟩
  have a := ab (a := k) (b := q) hk P.qb
  have c := P.pb
  have := Int.natAbs_add_le p (k * q)
  omega
section
variable {b : Nat} {p q : Int} (P : Pt b p q) (hb : b ≤ N90)
include P hb
theorem Pt.smp : sm p := sm90 (Nat.le_trans P.pb hb)
omit hb in
theorem Pt.smq : sm q := sm90 (Nat.le_trans P.qb n1000)
theorem mirrored_eq {u : Int} (hu : u.natAbs ≤ 200) : m_mirrored [pair (p, q), .int u] = .ok (pair (2 * u * q - p, q)) := by
  have su : sm (2 * u) := sm90 (Nat.le_trans (show (2 * u).natAbs ≤ 1000 by omega) n1000)
  have s1 : sm 1 := sm90 (Nat.le_trans (show (1 : Int).natAbs ≤ 1000 by decide) n1000)
  have e1 := o_mulS (i := 2) (j := u) (sm90 (Nat.le_trans (show (2 : Int).natAbs ≤ 1000 by decide) n1000)) (sm90 (Nat.le_trans (show u.natAbs ≤ 1000 by omega) n1000))
  have hq := P.pos
  have e2 := minus_eq (p := 2 * u) (q := 1) (r := p) (s := q) su s1 (P.smp hb) P.smq (by omega) (by rw [Int.one_mul]; exact P.smq)
  rw [low_uniq (p := 2 * u * q - p) (q := q) (by omega) hq (mirror_co P.co) (by rw [Int.one_mul, Int.mul_one])] at e2
  unfold m_mirrored
  rw [run2]
  simp only [ev_V, ev_Op, ev_Un, ev_C, ev_E, ev_And, ev_Or, ev_Not, ev_If, ev_eAnd, ev_eOr, ev_eNot, ev_Fn, ev_Cons, ev_Nil, ev_Call, ev_CallN, ev_Yes, ev_Fld, sv_Seq, sv_If, sv_Ret, sv_Asg, sv_Nx, sv_For, gv_N, bind_ok, lift_some, nox_ok1, tb_bl, if_true, if_false, Bool.false_eq_true, List.getElem?_cons_succ, List.getElem?_cons_zero, List.set_cons_succ, List.set_cons_zero, Option.some.injEq, Sl.d.injEq, Option.bind_some, runE_rt, runE_nx, Ev_ok, wi_cons, wi_nil, List.replicate, decide_true, decide_false, e1, tup2, e2, Nat.reduceSub]
theorem lmirror_eq {u : Int} (hu : u.natAbs ≤ 200) : m__law_mirror [pair (p, q), .int u] = .ok (pair (2 * u * q - p, q)) := by
  have su : sm (2 * u) := sm90 (Nat.le_trans (show (2 * u).natAbs ≤ 1000 by omega) n1000)
  have e1 := o_mulS (i := 2) (j := u) (sm90 (Nat.le_trans (show (2 : Int).natAbs ≤ 1000 by decide) n1000)) (sm90 (Nat.le_trans (show u.natAbs ≤ 1000 by omega) n1000))
  have e3 := o_mulS su P.smq
  have hq := P.pos
  have e2 := frac_eq (a := 2 * u * q - p) (b := q) (by omega) P.smq
  rw [low_uniq (p := 2 * u * q - p) (q := q) (by omega) hq (mirror_co P.co) rfl] at e2
  unfold m__law_mirror
  rw [run2]
  simp only [ev_V, ev_Op, ev_Un, ev_C, ev_E, ev_And, ev_Or, ev_Not, ev_If, ev_eAnd, ev_eOr, ev_eNot, ev_Fn, ev_Cons, ev_Nil, ev_Call, ev_CallN, ev_Yes, ev_Fld, sv_Seq, sv_If, sv_Ret, sv_Asg, sv_Nx, sv_For, gv_N, bind_ok, lift_some, nox_ok1, tb_bl, if_true, if_false, Bool.false_eq_true, List.getElem?_cons_succ, List.getElem?_cons_zero, List.set_cons_succ, List.set_cons_zero, Option.some.injEq, Sl.d.injEq, Option.bind_some, runE_rt, runE_nx, Ev_ok, wi_cons, wi_nil, List.replicate, decide_true, decide_false, e1, p0, p1, e3, o_sub, e2, Nat.reduceSub]
theorem flipped_eq : m_flipped [pair (p, q)] = .ok (pair (-p, q)) := by
  have hq := P.pos
  have e2 := ratio_eq (a := -p) (b := q) (by omega) P.smq
  rw [low_uniq (p := -p) (q := q) (by omega) hq (co_neg P.co) rfl] at e2
  unfold m_flipped
  rw [run1]
  simp only [ev_V, ev_Op, ev_Un, ev_C, ev_E, ev_And, ev_Or, ev_Not, ev_If, ev_eAnd, ev_eOr, ev_eNot, ev_Fn, ev_Cons, ev_Nil, ev_Call, ev_CallN, ev_Yes, ev_Fld, sv_Seq, sv_If, sv_Ret, sv_Asg, sv_Nx, sv_For, gv_N, bind_ok, lift_some, nox_ok1, tb_bl, if_true, if_false, Bool.false_eq_true, List.getElem?_cons_succ, List.getElem?_cons_zero, List.set_cons_succ, List.set_cons_zero, Option.some.injEq, Sl.d.injEq, Option.bind_some, runE_rt, runE_nx, Ev_ok, wi_cons, wi_nil, List.replicate, decide_true, decide_false, p0, p1, o_neg, e2, Nat.reduceSub]
theorem plus_eq {k : Int} (hk : k.natAbs ≤ N90) : m__law_plus [pair (p, q), pair (k, 1)] = .ok (pair (p + k * q, q)) := by
  have s1 : sm 1 := sm90 (Nat.le_trans (show (1 : Int).natAbs ≤ 1000 by decide) n1000)
  have hq := P.pos
  have e1 := o_mulS (P.smp hb) s1
  have e2 := o_mulS (sm90 hk) P.smq
  have e3 := o_mulS P.smq s1
  have e4 := frac_eq (a := p * 1 + k * q) (b := q * 1) (by omega) (by rw [Int.mul_one]; exact P.smq)
  rw [low_uniq (p := p + k * q) (q := q) (by omega) hq (co_add P.co) (by rw [Int.mul_one, Int.mul_one])] at e4
  unfold m__law_plus
  rw [run2]
  simp only [ev_V, ev_Op, ev_Un, ev_C, ev_E, ev_And, ev_Or, ev_Not, ev_If, ev_eAnd, ev_eOr, ev_eNot, ev_Fn, ev_Cons, ev_Nil, ev_Call, ev_CallN, ev_Yes, ev_Fld, sv_Seq, sv_If, sv_Ret, sv_Asg, sv_Nx, sv_For, gv_N, bind_ok, lift_some, nox_ok1, tb_bl, if_true, if_false, Bool.false_eq_true, List.getElem?_cons_succ, List.getElem?_cons_zero, List.set_cons_succ, List.set_cons_zero, Option.some.injEq, Sl.d.injEq, Option.bind_some, runE_rt, runE_nx, Ev_ok, wi_cons, wi_nil, List.replicate, decide_true, decide_false, p0, p1, e1, e2, e3, o_add, e4, Nat.reduceSub]
end
theorem low_le {a b : Int} (hb : b ≠ 0) : ∃ n d k : Int, low a b = (n, d) ∧ k ≠ 0 ∧ a = n * k ∧ b = d * k ∧ 0 < d ∧ n.natAbs ≤ a.natAbs ∧ d.natAbs ≤ b.natAbs := by
  obtain ⟨n, d, k, e, hk, e1, e2, hd, _⟩ := low_spec (a := a) hb
  have k1 : 1 ≤ k.natAbs := by omega
  have f : ∀ x : Int, x.natAbs ≤ (x * k).natAbs := fun x => by
    rw [Int.natAbs_mul]
    exact Nat.le_mul_of_pos_right _ k1
  exact ⟨n, d, k, e, hk, e1, e2, hd, by rw [e1]; exact f n, by rw [e2]; exact f d⟩
theorem q_pair (a b c d : Int) : oEq (pair (a, b)) (pair (c, d)) = some (.bl (decide ((a, b) = (c, d)))) := by
  have e : eqD (pair (a, b)) (pair (c, d)) = decide ((a, b) = (c, d)) := by
    (rw [Bool.eq_iff_iff, decide_eq_true_eq])
    show PyData.eqv ((pair (a, b)).py 30) ((pair (c, d)).py 30) = true ↔ _
    show PyData.eqv (.tuple [.int a, .int b]) (.tuple [.int c, .int d]) = true ↔ _
    simp [PyData.eqv, PyData.eqvAll]
  unfold oEq
  rw [e]
  exact if_pos ⟨rfl, rfl⟩
theorem n_pair (a b c d : Int) : oNe (pair (a, b)) (pair (c, d)) = some (.bl (!decide ((a, b) = (c, d)))) := by
  have h := q_pair a b c d
  unfold oEq at h
  unfold oNe
  rw [if_pos ⟨rfl, rfl⟩] at h ⊢
  have := Option.some.inj h
  rw [D.bl.inj this]
end L2.DL.MM
/-! drawn motions on a line; councils on a line -/
namespace L2.DL.MM
open PySem PyProof.Rows PySem.Spec
theorem Fit.len : ∀ {rs ss : List Int}, Fit rs ss → rs.length = ss.length
  | [], [], _ => rfl
  | _ :: _, _ :: _, h => by rw [List.length_cons, List.length_cons, Fit.len h.2.2]
  | [], _ :: _, h => h.elim
  | _ :: _, [], h => h.elim
/-- a place: within 60 -/
structure Pl (p q : Int) : Prop where
  pt : Pt 1000000 p q
  lo : -(60 * q) ≤ p
  hi : p ≤ 60 * q
def pairs (ps : List (Int × Int)) : List D := ps.map pair
theorem whole_pl {x : Int} (h : x.natAbs ≤ 60) : Pl x 1 := ⟨⟨by decide, by rw [show (1 : Int).natAbs = 1 from rfl, Nat.gcd_one_right], by decide, by omega⟩, by omega, by omega⟩
theorem bottoms (r0 : Int) (h0 : 0 ≤ r0) (h1 : r0 < 12) : ∃ B : Int, oIx (.lst [.int 1, .int 2, .int 3, .int 1, .int 4, .int 5, .int 1, .int 6, .int 2, .int 7, .int 10, .int 12]) (.int r0) = some (.int B) ∧ 1 ≤ B ∧ B ≤ 12 := by
  rcases (show r0 = 0 ∨ r0 = 1 ∨ r0 = 2 ∨ r0 = 3 ∨ r0 = 4 ∨ r0 = 5 ∨ r0 = 6 ∨ r0 = 7 ∨ r0 = 8 ∨ r0 = 9 ∨ r0 = 10 ∨ r0 = 11 by omega) with h | h | h | h | h | h | h | h | h | h | h | h <;> subst h <;> exact ⟨_, rfl, by decide, by decide⟩
theorem l_lst (xs : List D) (h : xs.length ≤ 1000000) : oLst xs = some (.lst xs) := o_lst (Nat.le_trans h size_big)
/-- a drawn motion -/
theorem motion_eq {row : List Int} {size : Nat} {room : Int} {ss : List Int} (ft : Fit row (12 :: ss)) (hs : size ≤ ss.length) (hs9 : size ≤ 9) (hr : 0 ≤ room) (hr2 : room ≤ 1000) : ∃ (ns : List Int) (B : Int), m__law_motion [lstI row, nat size, .int room] = .ok (redD ns B) ∧ ns.length = size ∧ 1 ≤ B ∧ B ≤ 12 ∧ ∀ n ∈ ns, -(room * B) ≤ n ∧ n ≤ room * B := by
  have sb := size_big
  obtain ⟨r0, e0, h0, h1⟩ := ft.at (i := 0) (s := 12) rfl
  have at0' : oIx (lstI row) (.int 0) = some (.int r0) := ixR (i := 0) e0
  obtain ⟨B, eB, b1, b2⟩ := bottoms r0 h0 h1
  have rB := ab (a := room) (b := B) (m := 1000) (n := 12) (by omega) (by omega)
  have rB0 : 0 ≤ room * B := Int.mul_nonneg hr (by omega)
  have m1 : oMul (.int 2) (.int room) = some (.int (2 * room)) := o_mulS (sml (by decide)) (sml (by omega))
  have m2 : oMul (.int (2 * room)) (.int B) = some (.int (2 * room * B)) := o_mulS (sml (by omega)) (sml (by omega))
  have m3 : oMul (.int room) (.int B) = some (.int (room * B)) := o_mulS (sml (by omega)) (sml (by omega))
  have e2 : 2 * room * B = 2 * (room * B) := by grind
  obtain ⟨e, he⟩ : ∃ e : Nat → Int, e = fun j => (row.getD (1 + j) 0).fmod (2 * room * B + 1) - room * B := ⟨_, rfl⟩
  have len := ft.len
  rw [List.length_cons] at len
  have ixk : ∀ i, i < row.length → oIx (lstI row) (nat i) = some (.int (row.getD i 0)) := fun i hi => ixR (by rw [List.getD_eq_getElem?_getD, List.getElem?_eq_getElem hi]; rfl)
  have rg : iR1 (aCons (eV 1) (aNil)) [.d (lstI row), .d (nat size), .d (.int room), .d (.int B), .d (.int (2 * room * B + 1)), .no] = .ok ((List.range size).map nat) := rg1 (by omega) rfl
  have hc : compL (gN 5) cYes (eOp oSub (eOp oMod (eFn fInt (aCons (eOp oIx (eV 0) (eOp oAdd (eC (.int 1)) (eV 5))) (aNil))) (eV 4)) (eOp oMul (eV 2) (eV 3))) [.d (lstI row), .d (nat size), .d (.int room), .d (.int B), .d (.int (2 * room * B + 1)), .no] ((List.range size).map nat) = .ok (((List.range size).map e).map D.int) := by
    rw [lc_map nat (fun j => D.int (e j)), ints_map]
    intro j hj
    have hj := List.mem_range.mp hj
    refine ⟨_, rfl, ?_⟩
    have md : oMod (.int (row.getD (1 + j) 0)) (.int (2 * room * B + 1)) = some (.int ((row.getD (1 + j) 0).fmod (2 * room * B + 1))) := o_mod (by omega)
    simp only [ev_V, ev_Op, ev_Un, ev_C, ev_E, ev_And, ev_Or, ev_Not, ev_If, ev_eAnd, ev_eOr, ev_eNot, ev_Fn, ev_Cons, ev_Nil, ev_Call, ev_CallN, ev_Yes, ev_Fld, sv_Seq, sv_If, sv_Ret, sv_Asg, sv_Nx, sv_For, gv_N, bind_ok, lift_some, nox_ok1, tb_bl, if_true, if_false, Bool.false_eq_true, List.getElem?_cons_succ, List.getElem?_cons_zero, List.set_cons_succ, List.set_cons_zero, Option.some.injEq, Sl.d.injEq, Option.bind_some, runE_rt, runE_nx, Ev_ok, wi_cons, wi_nil, List.replicate, decide_true, decide_false, one_add, ixk (1 + j) (by omega), f_intI, md, m3, o_sub, he]
  have rd := reduced_eq (ns := (List.range size).map e) (B := B) (by omega) (sml (by omega)) (by simp; omega)
  refine ⟨(List.range size).map e, B, ?_, by simp, b1, b2, fun n hn => ?_⟩
  · unfold m__law_motion
    rw [run3]
    simp only [ev_V, ev_Op, ev_Un, ev_C, ev_E, ev_And, ev_Or, ev_Not, ev_If, ev_eAnd, ev_eOr, ev_eNot, ev_Fn, ev_Cons, ev_Nil, ev_Call, ev_CallN, ev_Yes, ev_Fld, sv_Seq, sv_If, sv_Ret, sv_Asg, sv_Nx, sv_For, gv_N, bind_ok, lift_some, nox_ok1, tb_bl, if_true, if_false, Bool.false_eq_true, List.getElem?_cons_succ, List.getElem?_cons_zero, List.set_cons_succ, List.set_cons_zero, Option.some.injEq, Sl.d.injEq, Option.bind_some, runE_rt, runE_nx, Ev_ok, wi_cons, wi_nil, List.replicate, decide_true, decide_false, l_lst _ (show [D.int 1, .int 2, .int 3, .int 1, .int 4, .int 5, .int 1, .int 6, .int 2, .int 7, .int 10, .int 12].length ≤ 1000000 by decide), at0', eB, m1, m2, o_add, Nat.reduceSub, ev_Lc, rg, List.length_map, List.length_range]
    rw [if_pos (by omega), hc]
    simp only [ev_V, ev_Op, ev_Un, ev_C, ev_E, ev_And, ev_Or, ev_Not, ev_If, ev_eAnd, ev_eOr, ev_eNot, ev_Fn, ev_Cons, ev_Nil, ev_Call, ev_CallN, ev_Yes, ev_Fld, sv_Seq, sv_If, sv_Ret, sv_Asg, sv_Nx, sv_For, gv_N, bind_ok, lift_some, nox_ok1, tb_bl, if_true, if_false, Bool.false_eq_true, List.getElem?_cons_succ, List.getElem?_cons_zero, List.set_cons_succ, List.set_cons_zero, Option.some.injEq, Sl.d.injEq, Option.bind_some, runE_rt, runE_nx, Ev_ok, wi_cons, wi_nil, List.replicate, decide_true, decide_false, rd]
  · obtain ⟨j, _, rfl⟩ := List.mem_map.mp hn
    have f := fmod_in (row.getD (1 + j) 0) (k := 2 * room * B + 1) (by omega)
    rw [he]
    show -(room * B) ≤ (row.getD (1 + j) 0).fmod (2 * room * B + 1) - room * B ∧ (row.getD (1 + j) 0).fmod (2 * room * B + 1) - room * B ≤ room * B
    omega
theorem motion1_eq {row : List Int} {room : Int} {ss : List Int} (ft : Fit row (12 :: ss)) (hs : 1 ≤ ss.length) (hr : 0 ≤ room) (hr2 : room ≤ 60) : ∃ p q : Int, m__law_motion [lstI row, .int 1, .int room] = .ok (pair (p, q)) ∧ Pl p q := by
  obtain ⟨ns, B, e, hl, b1, b2, hn⟩ := motion_eq (size := 1) ft hs (by decide) hr (by omega)
  match ns, hl with
  | [n], _ =>
    obtain ⟨n1, n2⟩ := hn n (by simp)
    obtain ⟨p, q, k, el, hk, ea, eb, hq, co⟩ := low_spec (a := n) (b := B) (by omega)
    have er : redD [n] B = pair (low n B) := by
      unfold redD low pair
      have g1 : gl B.natAbs [n] = Nat.gcd n.natAbs B.natAbs := Nat.gcd_comm _ _
      have g2 : sg B (Nat.gcd n.natAbs B.natAbs : Nat) = ((Nat.gcd n.natAbs B.natAbs : Nat) : Int) := if_neg (by omega)
      rw [g1, g2]
      rfl
    have kp : 0 < k := by
      have : 0 < q * k := by omega
      refine Classical.byContradiction fun c => ?_
      have := Int.mul_nonneg (a := q) (b := -k) (by omega) (by omega)
      rw [Int.mul_neg] at this
      omega
    have qB : q ≤ B := by
      rw [eb]
      have := Int.mul_le_mul_of_nonneg_left (show 1 ≤ k by omega) (show 0 ≤ q by omega)
      rw [Int.mul_one] at this
      exact this
    have up : p ≤ room * q := by
      rw [ea, eb] at n2
      refine Int.le_of_mul_le_mul_right (a := k) ?_ kp
      rw [Int.mul_assoc]
      exact n2
    have dn : -(room * q) ≤ p := by
      rw [ea, eb] at n1
      refine Int.le_of_mul_le_mul_right (a := k) ?_ kp
      rw [Int.neg_mul, Int.mul_assoc]
      exact n1
    have rq := Int.mul_le_mul_of_nonneg_right hr2 (show 0 ≤ q by omega)
    rw [er, el] at e
    exact ⟨p, q, e, ⟨hq, co, by omega, by omega⟩, by omega, by omega⟩
/-! ### a rule by two lots -/
theorem lot_num {l : List Nat} {many : Nat} (hn : l.Nodup) : lotN (numN l) many = (List.range many).filter fun v => decide (v ∈ l) := by
  unfold lotN
  apply List.filter_congr
  intro v _
  exact num_bits l hn v
theorem range_cut {split many : Nat} (h : split ≤ many) : List.range many = List.range split ++ List.range' split (many - split) := by
  rw [List.range_eq_range', List.range_eq_range']
  have := @List.range'_append_1 0 split (many - split)
  rw [Nat.zero_add, show split + (many - split) = many by omega] at this
  exact this.symm
theorem lot_lo {split many : Nat} (h : split ≤ many) : lotN (numN (List.range split)) many = List.range split := by
  rw [lot_num List.nodup_range, range_cut h, List.filter_append, List.filter_eq_self.mpr fun v hv => decide_eq_true hv, List.filter_eq_nil_iff.mpr fun v hv => by
    rw [decide_eq_true_eq, List.mem_range]
    rw [List.mem_range'_1] at hv
    omega]
  simp
theorem lot_hi {split many : Nat} (h : split ≤ many) : lotN (numN (List.range' split (many - split))) many = List.range' split (many - split) := by
  rw [lot_num List.nodup_range', range_cut h, List.filter_append, List.filter_eq_nil_iff.mpr fun v hv => by
    rw [decide_eq_true_eq, List.mem_range'_1]
    have := List.mem_range.mp hv
    omega, List.filter_eq_self.mpr fun v hv => decide_eq_true hv]
  simp
/-! ### homes in order -/
theorem sort_homes {hs : List (List Int)} {many size : Nat} {b : Int} (H : Hs hs many size b) (h1 : 1 ≤ size) : ∃ hs', fSort [.lst (hs.map tupI)] = some (.lst (hs'.map tupI)) ∧ Hs hs' many size b := by
  have py : ∀ h : List Int, (tupI h).py 29 = .tuple (h.map PyData.int) := fun h => by
    show PyData.tuple ((h.map D.int).map (D.py 28)) = _
    rw [List.map_map]
    rfl
  have hb : sortB (hs.map tupI) = true := sortB_of tupI hs (fun h hh => by
    have := (H.each h hh).1
    refine ⟨?_, dep_ints h 28⟩
    match h, this with
    | _ :: _, _ => rfl
    | [], e => simp at e; omega) fun x _ y _ => by
      rw [py, py]
      exact PySem.W.alike_ints x y
  have p := List.mergeSort_perm (hs.map tupI) leD
  obtain ⟨hs', e, p'⟩ := perm_map_inv p rfl
  refine ⟨hs', ?_, by rw [p'.length_eq]; exact H.len, fun h hh => H.each h (p'.mem_iff.mp hh)⟩
  show (if sortB (hs.map tupI) = true then some (D.lst ((hs.map tupI).mergeSort leD)) else none) = _
  rw [if_pos hb, e]
end L2.DL.MM
/-! growing ends on a line: plain facts -/
namespace L2.DL.MM
open PySem PyProof.Rows PySem.Spec
def grow (U L : Int) (e : Int × Int) : Int × Int := (min e.1 (2 * L - e.2), max e.2 (2 * U - e.1))
def ends (U L S : Int) : Nat → Int × Int
  | 0 => (S, S)
  | n + 1 => grow U L (ends U L S n)
def rnd (b G W : Int) : Int := if G < b then 0 else (G - b).fdiv W + 1
def rising (U L S G : Int) : Option Int := if U ≤ L then (if S < U ∧ G < 2 * U - S then some 1 else none) else
  if S < U then some (if 2 * rnd (2 * U - S) G (2 * (U - L)) + 1 < 2 * rnd S G (2 * (U - L)) then 2 * rnd (2 * U - S) G (2 * (U - L)) + 1 else 2 * rnd S G (2 * (U - L))) else some (2 * rnd S G (2 * (U - L)))
def ansZ (U L S G : Int) : Option Int := if G = S then some 0 else if S < G then rising U L S G else rising (-L) (-U) (-S) (-G)
theorem rnd_iff {b G W r : Int} (hW : 0 < W) (hr : 0 ≤ r) : G < b + r * W ↔ rnd b G W ≤ r := by
  unfold rnd
  split
  · rename_i h
    have : 0 ≤ r * W := Int.mul_nonneg hr (by omega)
    omega
  · rw [Int.fdiv_eq_ediv_of_nonneg _ (by omega)]
    have := Int.ediv_lt_iff_lt_mul (a := G - b) (b := r) hW
    omega
theorem rnd_nonneg {b G W : Int} (hW : 0 < W) : 0 ≤ rnd b G W := by
  unfold rnd
  split
  · omega
  · rw [Int.fdiv_eq_ediv_of_nonneg _ (by omega)]
    have := Int.ediv_nonneg (a := G - b) (b := W) (by omega) (by omega)
    omega
theorem rnd_pos {b G W : Int} (hW : 0 < W) (h : b ≤ G) : 1 ≤ rnd b G W := by
  unfold rnd
  rw [if_neg (by omega), Int.fdiv_eq_ediv_of_nonneg _ (by omega)]
  have := Int.ediv_nonneg (a := G - b) (b := W) (by omega) (by omega)
  omega
theorem rnd_add {b G W k : Int} (hW : 0 < W) (h : b ≤ G) (hk : 0 ≤ k) : rnd b (G + k * W) W = rnd b G W + k := by
  have : 0 ≤ k * W := Int.mul_nonneg hk (by omega)
  unfold rnd
  rw [if_neg (by omega), if_neg (by omega), Int.fdiv_eq_ediv_of_nonneg _ (by omega), Int.fdiv_eq_ediv_of_nonneg _ (by omega), show G + k * W - b = G - b + k * W by omega, Int.add_mul_ediv_right _ _ (by omega)]
  omega
section
variable {U L S G : Int}
theorem ends_le (n : Nat) : (ends U L S n).1 ≤ S ∧ S ≤ (ends U L S n).2 := by
  induction n with
  | zero => exact ⟨Int.le_refl _, Int.le_refl _⟩
  | succ n ih =>
    show min _ _ ≤ S ∧ S ≤ max _ _
    omega
theorem ends_opp (n : Nat) : ends (-L) (-U) (-S) n = (-(ends U L S n).2, -(ends U L S n).1) := by
  induction n with
  | zero => rfl
  | succ n ih =>
    show grow (-L) (-U) (ends (-L) (-U) (-S) n) = _
    rw [ih]
    show ((min (-(ends U L S n).2) (2 * -U - -(ends U L S n).1), max (-(ends U L S n).1) (2 * -L - -(ends U L S n).2)) : Int × Int) = (-(max _ _), -(min _ _))
    congr 1 <;> omega
theorem ends_closed (h : L < U) (r : Nat) : ends U L S (2 * r + 1) = (min (S - r * (2 * (U - L))) (2 * L - S - r * (2 * (U - L))), max (S + r * (2 * (U - L))) (2 * U - S + r * (2 * (U - L)))) := by
  induction r with
  | zero =>
    show ((min S (2 * L - S), max S (2 * U - S)) : Int × Int) = _
    simp
  | succ r ih =>
    have e : (((r + 1 : Nat) : Int)) * (2 * (U - L)) = r * (2 * (U - L)) + 2 * (U - L) := by
      rw [Int.natCast_add, Int.add_mul]
      omega
    rw [e]
    show grow U L (grow U L (ends U L S (2 * r + 1))) = _
    rw [ih]
    generalize (r : Int) * (2 * (U - L)) = t
    show ((min (min _ _) (2 * L - max _ _), max (max _ _) (2 * U - min _ _)) : Int × Int) = _
    congr 1 <;> omega
theorem ends_even (h : L < U) (r : Nat) : (ends U L S (2 * r + 2)).2 = max (S + (r * (2 * (U - L)) + 2 * (U - L))) (2 * U - S + r * (2 * (U - L))) := by
  show (grow U L (ends U L S (2 * r + 1))).2 = _
  rw [ends_closed h]
  generalize (r : Int) * (2 * (U - L)) = t
  show max (max _ _) (2 * U - min _ _) = _
  omega
def riseP (U L S G : Int) : Int := if S < U then (if 2 * rnd (2 * U - S) G (2 * (U - L)) + 1 < 2 * rnd S G (2 * (U - L)) then 2 * rnd (2 * U - S) G (2 * (U - L)) + 1 else 2 * rnd S G (2 * (U - L))) else 2 * rnd S G (2 * (U - L))
theorem rising_pos (h : L < U) : rising U L S G = some (riseP U L S G) := by
  unfold rising riseP
  rw [if_neg (by omega)]
  split <;> rfl
theorem rise_iff (h : L < U) (n : Nat) (hn : 1 ≤ n) : G < (ends U L S n).2 ↔ riseP U L S G ≤ n := by
  have hW : 0 < 2 * (U - L) := by omega
  rcases (show ∃ r : Nat, n = 2 * r + 1 ∨ n = 2 * r + 2 from ⟨(n - 1) / 2, by omega⟩) with ⟨r, e | e⟩ <;> subst e
  · have a := rnd_iff (b := S) (G := G) (r := r) hW (by omega)
    have b := rnd_iff (b := 2 * U - S) (G := G) (r := r) hW (by omega)
    rw [ends_closed h]
    show G < max _ _ ↔ _
    revert a b
    unfold riseP
    generalize (r : Int) * (2 * (U - L)) = t
    generalize rnd S G (2 * (U - L)) = r1
    generalize rnd (2 * U - S) G (2 * (U - L)) = r2
    intro a b
    split
    · split <;> omega
    · omega
  · have e : (((r + 1 : Nat) : Int)) * (2 * (U - L)) = r * (2 * (U - L)) + 2 * (U - L) := by
      rw [Int.natCast_add, Int.add_mul]
      omega
    have a := rnd_iff (b := S) (G := G) (r := (r + 1 : Nat)) hW (by omega)
    have b := rnd_iff (b := 2 * U - S) (G := G) (r := r) hW (by omega)
    rw [ends_even h]
    rw [e] at a
    revert a b
    unfold riseP
    generalize (r : Int) * (2 * (U - L)) = t
    generalize rnd S G (2 * (U - L)) = r1
    generalize rnd (2 * U - S) G (2 * (U - L)) = r2
    intro a b
    split
    · split <;> omega
    · omega
theorem riseP_pos (h : L < U) (hs : S < G) : 1 ≤ riseP U L S G := by
  have hW : 0 < 2 * (U - L) := by omega
  have a := rnd_pos (b := S) (G := G) hW (by omega)
  have b := rnd_nonneg (b := 2 * U - S) (G := G) hW
  unfold riseP
  split
  · split <;> omega
  · omega
theorem riseP_le (h : L < U) {k : Int} (hk : 0 ≤ k) (hs : G < S + k * (2 * (U - L))) : riseP U L S G ≤ 2 * k := by
  have hW : 0 < 2 * (U - L) := by omega
  have a := (rnd_iff (b := S) (G := G) hW hk).mp hs
  unfold riseP
  split
  · split <;> omega
  · omega
theorem riseP_add (h : L < U) (hs : S < G) {k : Int} (hk : 0 ≤ k) (h2 : 2 ≤ riseP U L S G) : riseP U L S (G + k * (2 * (U - L))) = riseP U L S G + 2 * k := by
  have hW : 0 < 2 * (U - L) := by omega
  have a := rnd_add (b := S) (G := G) hW (by omega) hk
  have p := rnd_pos (b := S) (G := G) hW (by omega)
  unfold riseP at h2 ⊢
  rw [a]
  by_cases hU : S < U
  · rw [if_pos hU] at h2 ⊢
    have ge : 2 * U - S ≤ G := by
      refine Classical.byContradiction fun c => ?_
      have : rnd (2 * U - S) G (2 * (U - L)) = 0 := if_pos (by omega)
      rw [this] at h2
      split at h2 <;> omega
    rw [rnd_add hW ge hk]
    split <;> split <;> omega
  · rw [if_neg hU]
    omega
/-- the goal lies strictly between the ends -/
def cond (U L S G : Int) (n : Nat) : Prop := (ends U L S n).1 < G ∧ G < (ends U L S n).2
def stop (U L S : Int) (n : Nat) : Prop := ends U L S (n + 1) = ends U L S n
theorem no_stop (h : L < U) (n : Nat) : ¬ stop U L S n := fun e => by
  unfold stop at e
  have e1 := congrArg
        Prod.fst e
  have e2 := congrArg Prod.snd e
  have e1 : min _ _ = _ := e1
  have e2 : max _ _ = _ := e2
  omega
/-- what the growing ends answer, with at most 200 votes -/
inductive Spec (U L S G : Int) : Option Int → Prop
  | num (P : Nat) : 1 ≤ P → P ≤ 200 → cond U L S G P → (∀ n, 1 ≤ n → n < P → ¬ cond U L S G n) → (∀ n, n < P → ¬ stop U L S n) → Spec U L S G (some P)
  | none (m : Nat) : m < 200 → stop U L S m → (∀ n, 1 ≤ n → n ≤ m → ¬ cond U L S G n) → Spec U L S G none
theorem spec_rising (hs : S < G) {k : Int} (hk : k ≤ 100) (hk0 : 0 ≤ k) (hb : L < U → G < S + k * (2 * (U - L))) : Spec U L S G (rising U L S G) := by
  by_cases h : L < U
  · rw [rising_pos h]
    have p := riseP_pos h hs
    have q := riseP_le h hk0 (hb h)
    obtain ⟨P, hP⟩ : ∃ P : Nat, riseP U L S G = P := ⟨(riseP U L S G).toNat, by omega⟩
    have iff := rise_iff (U := U) (L := L) (S := S) (G := G) h
    rw [hP] at p q iff ⊢
    refine .num P (by omega) (by omega) ⟨by have := (ends_le (U := U) (L := L) (S := S) P).1; omega, (iff P (by omega)).mpr (by omega)⟩ (fun n h1 h2 c => ?_) fun n _ => no_stop h n
    have := (iff n h1).mp c.2
    omega
  · unfold rising
    rw [if_pos (by omega)]
    have e1 : ends U L S 1 = (min S (2 * L - S), max S (2 * U - S)) := rfl
    have e2 : ends U L S 2 = (min (min S (2 * L - S)) (2 * L - max S (2 * U - S)), max (max S (2 * U - S)) (2 * U - min S (2 * L - S))) := rfl
    have s1 : stop U L S 1 := by
      unfold stop
      rw [e1, e2]
      congr 1 <;> omega
    split
    · rename_i c
      refine .num 1 (by omega) (by omega) ?_ (fun n _ _ => by omega) fun n hn e => ?_
      · unfold cond
        rw [e1]
        show min _ _ < G ∧ G < max _ _
        omega
      · have : n = 0 := by omega
        subst this
        have := congrArg Prod.snd (show ends U L S 1 = ends U L S 0 from e)
        have : max S (2 * U - S) = S := this
        omega
    · rename_i c
      refine .none 1 (by omega) s1 fun n h1 h2 => ?_
      have : n = 1 := by omega
      subst this
      unfold cond
      rw [e1]
      show ¬ (min _ _ < G ∧ G < max _ _)
      omega
theorem spec_opp {a : Option Int} (h : Spec (-L) (-U) (-S) (-G) a) : Spec U L S G a := by
  have eo := ends_opp (U := U) (L := L) (S := S)
  have ce : ∀ n, cond (-L) (-U) (-S) (-G) n ↔ cond U L S G n := fun n => by
    unfold cond
    rw [eo]
    show (-(ends U L S n).2 < -G ∧ -G < -(ends U L S n).1) ↔ _
    omega
  have se : ∀ n, stop (-L) (-U) (-S) n ↔ stop U L S n := fun n => by
    unfold stop
    rw [eo, eo]
    constructor
    · intro e
      have e1 := congrArg
            Prod.fst e
      have e2 := congrArg Prod.snd e
      have e1 : -(ends U L S (n + 1)).2 = -(ends U L S n).2 := e1
      have e2 : -(ends U L S (n + 1)).1 = -(ends U L S n).1 := e2
      exact Prod.ext (by omega) (by omega)
    · intro e
      rw [e]
  cases h with
  | num P h1 h2 h3 h4 h5 => exact .num P h1 h2 ((ce P).mp h3) (fun n a b c => h4 n a b ((ce n).mpr c)) fun n a c => h5 n a ((se n).mpr c)
  | none m h1 h2 h3 => exact .none m h1 ((se m).mp h2) fun n a b c => h3 n a b ((ce n).mpr c)
theorem spec_ans (hs : G ≠ S) {k : Int} (hk : k ≤ 100) (hk0 : 0 ≤ k) (hb : L < U → G < S + k * (2 * (U - L)) ∧ S < G + k * (2 * (U - L))) : Spec U L S G (ansZ U L S G) := by
  unfold ansZ
  rw [if_neg hs]
  split
  · rename_i h
    exact spec_rising h hk hk0 fun h => (hb h).1
  · refine spec_opp (spec_rising (by omega) hk hk0 fun h => ?_)
    rw [show -L - -U = U - L by omega]
    have := (hb (by omega)).2
    omega
theorem spec_one {a : Option Int} (h : Spec U L S G a) (hs : G ≠ S) : a = some 1 ↔ (2 * L - S < G ∧ G < S) ∨ (S < G ∧ G < 2 * U - S) := by
  have e1 : ends U L S 1 = (min S (2 * L - S), max S (2 * U - S)) := rfl
  have c1 : cond U L S G 1 ↔ (2 * L - S < G ∧ G < S) ∨ (S < G ∧ G < 2 * U - S) := by
    unfold cond
    rw [e1]
    show (min _ _ < G ∧ G < max _ _) ↔ _
    omega
  rw [← c1]
  cases h with
  | num P h1 h2 h3 h4 h5 =>
    constructor
    · intro e
      have : P = 1 := by
        have := Option.some.inj e
        omega
      rw [← this]; exact h3
    · intro c
      by_cases h : P = 1
      · rw [h]; rfl
      · exact absurd c (h4 1 (by omega) (by omega))
  | none m h1 h2 h3 =>
    constructor
    · intro e; cases e
    · intro c
      exfalso
      by_cases h : 1 ≤ m
      · exact h3 1 (by omega) h c
      · have : m = 0 := by omega
        subst this
        unfold cond at c
        rw [show ends U L S 1 = ends U L S 0 from h2] at c
        have : S < G ∧ G < S := c
        omega
theorem ans_small (h : U ≤ L) : ansZ U L S G = some 0 ∨ ansZ U L S G = some 1 ∨ ansZ U L S G = none := by
  unfold ansZ
  split
  · exact .inl rfl
  · split
    · unfold rising
      rw [if_pos h]
      split
      · exact .inr (.inl rfl)
      · exact .inr (.inr rfl)
    · unfold rising
      rw [if_pos (by omega)]
      split
      · exact .inr (.inl rfl)
      · exact .inr (.inr rfl)
theorem ans_far (h : L < U) (hs : G ≠ S) {P k : Int} (e : ansZ U L S G = some P) (h2 : 2 ≤ P) (hk : 0 ≤ k) : ansZ U L S (G + (if S < G then 1 else -1) * (k * (2 * (U - L)))) = some (P + 2 * k) := by
  have nn : 0 ≤ k * (2 * (U - L)) := Int.mul_nonneg hk (by omega)
  unfold ansZ at e
  rw [if_neg hs] at e
  by_cases c : S < G
  · rw [if_pos c] at e ⊢
    rw [rising_pos h] at e
    have e := Option.some.inj e
    unfold ansZ
    rw [Int.one_mul, if_neg (by omega), if_pos (by omega), rising_pos h, riseP_add h c hk (by omega), e]
  · rw [if_neg c] at e ⊢
    rw [rising_pos (by omega)] at e
    have e := Option.some.inj e
    have ad := riseP_add (U := -L) (L := -U) (S := -S) (G := -G) (by omega) (by omega) hk (by omega)
    unfold ansZ
    rw [show (-1 : Int) * (k * (2 * (U - L))) = -(k * (2 * (U - L))) by omega, if_neg (by omega), if_neg (by omega), rising_pos (by omega), show -(G + -(k * (2 * (U - L)))) = -G + k * (2 * (-L - -U)) by rw [show -L - -U = U - L by omega]; omega, ad, e]
end
end L2.DL.MM
/-! the fewest votes on a line: the program and the law -/
namespace L2.DL.MM
open PySem PyProof.Rows PySem.Spec
instance (U L S G : Int) (n : Nat) : Decidable (cond U L S G n) := by unfold cond; infer_instance
instance (U L S : Int) (n : Nat) : Decidable (stop U L S n) := by unfold stop; infer_instance
def optD : Option Int → D
  | none => .non
  | some i => .int i
theorem cmp_neg (l r : Int) : decide (cmpI l r < 0) = decide (l < r) := by
  unfold cmpI
  by_cases h : l < r
  · simp [h]
  · by_cases h' : r < l
    · simp [h, h']
    · simp [h, h']
theorem cmp_pos (l r : Int) : decide (0 < cmpI l r) = decide (r < l) := by
  unfold cmpI
  by_cases h : l < r
  · have h' : ¬ r < l := by omega
    simp [h, h']
  · by_cases h' : r < l
    · simp [h, h']
    · simp [h, h']
theorem cmp_zero (l r : Int) : decide (cmpI l r = 0) = decide (l = r) := by
  unfold cmpI
  by_cases h : l < r
  · have h' : ¬ l = r := by omega
    simp [h, h']
  · by_cases h' : r < l
    · have h2 : ¬ l = r := by omega
      simp [h, h', h2]
    · have h2 : l = r := by omega
      simp [h, h', h2]
theorem asgV {ρ : List Sl} {d : D} (i j : Nat) (h : ρ[i]? = some (.d d)) : sAsg (eV i) (gN j) ρ = .ok (.nx (ρ.set j (.d d))) := by
  rw [sv_Asg, ev_V i h]
  rfl
theorem pos_of {d k : Int} (h : 0 < d * k) (hd : 0 < d) : 0 < k := by
  refine Classical.byContradiction fun c => ?_
  have := Int.mul_nonneg (a := d) (b := -k) (by omega) (by omega)
  rw [Int.mul_neg] at this
  omega
theorem rnd_le {b G W : Int} (hW : 0 < W) : (rnd b G W).natAbs ≤ (G - b).natAbs + 1 := by
  unfold rnd
  split
  · omega
  · rw [Int.fdiv_eq_ediv_of_nonneg _ (by omega)]
    have a := Int.ediv_nonneg (a := G - b) (b := W) (by omega) (by omega)
    have b := Int.ediv_le_self (a := G - b) W (by omega)
    omega
theorem n1000s {i : Int} (h : i.natAbs ≤ 1000) : sm i := sm90 (Nat.le_trans h n1000)
section
variable {b c : Nat} {p q g h : Int} (P : Pt b p q) (Q : Pt c g h) (hb : b ≤ N90) (hc : c ≤ N90)
include P Q hb hc
theorem cmp_pts : m_compare [pair (p, q), pair (g, h)] = .ok (.int (cmpI (p * h) (g * q))) := compare_eq (P.smp hb) P.smq (Q.smp hc) Q.smq
theorem sgn_pts : m__law_sign [pair (p, q), pair (g, h)] = .ok (.int (cmpI (p * h) (g * q))) := sign_eq (P.smp hb) P.smq (Q.smp hc) Q.smq
theorem rounds_eq {w : Int} (hw : 0 < w) (hw2 : w.natAbs ≤ 1000) : m_rounds_to [pair (p, q), pair (g, h), .int w] = .ok (.int (rnd (p * h) (g * q) (w * (q * h)))) := by
  have hq := P.pos
  have hh := Q.pos
  have cm := cmp_pts Q P hc hb
  have qh : 0 < h * q := Int.mul_pos hh hq
  have sqh : (h * q).natAbs ≤ 1000000 := ab Q.qb P.qb
  have mn := minus_eq (Q.smp hc) Q.smq (P.smp hb) P.smq (by omega) (sm90 (Nat.le_trans sqh (by decide +kernel)))
  obtain ⟨n, d, k, e, hk, e1, e2, hd, b1, b2⟩ := low_le (a := g * q - p * h) (b := h * q) (by omega)
  rw [e] at mn
  have big : (g * q - p * h).natAbs ≤ N90 * 2000 := by
    have x1 := ab (a := g) (b := q) (Nat.le_trans Q.pb hc) P.qb
    have x2 := ab (a := p) (b := h) (Nat.le_trans P.pb hb) Q.qb
    have := Int.natAbs_sub_le (g * q) (p * h)
    omega
  have smn : sm n := sm_of (Nat.le_trans b1 big) (by decide +kernel)
  have smd : sm d := sm90 (Nat.le_trans (Nat.le_trans b2 sqh) (by decide +kernel))
  have dw : 0 < d * w := Int.mul_pos hd hw
  have sdw : (d * w).natAbs ≤ 1000000000 := ab (Nat.le_trans b2 sqh) hw2
  have ov := over_eq (p := n) (q := d) (r := w) (s := 1) smn smd (n1000s hw2) (n1000s (by decide)) (by omega) (sm90 (Nat.le_trans sdw (by decide +kernel)))
  obtain ⟨n', d', k', e', hk', e1', e2', hd', b1', b2'⟩ := low_le (a := n * 1) (b := d * w) (by omega)
  rw [e'] at ov
  have fl := floor_eq (p := n') (q := d') (by omega) (sm90 (Nat.le_trans (Nat.le_trans b2' sdw) (by decide +kernel)))
  have kp : 0 < k := by
    have : 0 < d * k := by omega
    exact pos_of this hd
  have kp' : 0 < k' := by
    have : 0 < d' * k' := by omega
    exact pos_of this hd'
  have fe : n'.fdiv d' = (g * q - p * h).fdiv (w * (q * h)) := by
    rw [e1, show w * (q * h) = (k' * k) * d' by grind, show n * k = (k' * k) * n' by grind]
    exact (Int.mul_fdiv_mul_of_pos _ _ (Int.mul_pos kp' kp)).symm
  rw [fe] at fl
  unfold m_rounds_to
  rw [run3]
  simp only [ev_V, ev_Op, ev_Un, ev_C, ev_E, ev_And, ev_Or, ev_Not, ev_If, ev_eAnd, ev_eOr, ev_eNot, ev_Fn, ev_Cons, ev_Nil, ev_Call, ev_CallN, ev_Yes, ev_Fld, sv_Seq, sv_If, sv_Ret, sv_Asg, sv_Nx, sv_For, gv_N, bind_ok, lift_some, nox_ok1, tb_bl, if_true, if_false, Bool.false_eq_true, List.getElem?_cons_succ, List.getElem?_cons_zero, List.set_cons_succ, List.set_cons_zero, Option.some.injEq, Sl.d.injEq, Option.bind_some, runE_rt, runE_nx, Ev_ok, wi_cons, wi_nil, List.replicate, decide_true, decide_false, cm, o_lt, cmp_neg, Nat.reduceSub]
  unfold rnd
  by_cases z : g * q < p * h
  · simp only [z, ev_V, ev_Op, ev_Un, ev_C, ev_E, ev_And, ev_Or, ev_Not, ev_If, ev_eAnd, ev_eOr, ev_eNot, ev_Fn, ev_Cons, ev_Nil, ev_Call, ev_CallN, ev_Yes, ev_Fld, sv_Seq, sv_If, sv_Ret, sv_Asg, sv_Nx, sv_For, gv_N, bind_ok, lift_some, nox_ok1, tb_bl, if_true, if_false, Bool.false_eq_true, List.getElem?_cons_succ, List.getElem?_cons_zero, List.set_cons_succ, List.set_cons_zero, Option.some.injEq, Sl.d.injEq, Option.bind_some, runE_rt, runE_nx, Ev_ok, wi_cons, wi_nil, List.replicate, decide_true, decide_false]
  · simp only [z, ev_V, ev_Op, ev_Un, ev_C, ev_E, ev_And, ev_Or, ev_Not, ev_If, ev_eAnd, ev_eOr, ev_eNot, ev_Fn, ev_Cons, ev_Nil, ev_Call, ev_CallN, ev_Yes, ev_Fld, sv_Seq, sv_If, sv_Ret, sv_Asg, sv_Nx, sv_For, gv_N, bind_ok, lift_some, nox_ok1, tb_bl, if_true, if_false, Bool.false_eq_true, List.getElem?_cons_succ, List.getElem?_cons_zero, List.set_cons_succ, List.set_cons_zero, Option.some.injEq, Sl.d.injEq, Option.bind_some, runE_rt, runE_nx, Ev_ok, wi_cons, wi_nil, List.replicate, decide_true, decide_false, mn, tup2, ov, fl, o_add]
end
section
variable {b c : Nat} {s q g h : Int}
theorem rising_eq {u l : Int} (hu : u.natAbs ≤ 60) (hl : l.natAbs ≤ 60) (P : Pt b s q) (Q : Pt c g h) (hb : b + 400000 ≤ N90) (hc : c ≤ N90) : m_fewest_rising [.int u, .int l, pair (s, q), pair (g, h)] = .ok (optD (rising (u * q * h) (l * q * h) (s * h) (g * q))) := by
  have hq := P.pos
  have hh := Q.pos
  have one : Pt 1000 u 1 := ⟨by decide, by rw [show (1 : Int).natAbs = 1 from rfl, Nat.gcd_one_right], by decide, by omega⟩
  have M := mirror_pt (u := u) P (by omega)
  have mi := mirrored_eq (u := u) P (by omega) (by omega)
  have c1 := cmp_pts P one (by omega) n1000
  have c2 := cmp_pts Q M hc hb
  have r1 := fun {w : Int} h1 h2 => rounds_eq (w := w) P Q (by omega) hc h1 h2
  have r2 := fun {w : Int} h1 h2 => rounds_eq (w := w) M Q hb hc h1 h2
  have lt1 : decide (s * 1 < u * q) = decide (s * h < u * q * h) := decide_eq_decide.mpr (by rw [Int.mul_one]; exact (Int.mul_lt_mul_right hh).symm)
  have lt2 : decide (g * q < (2 * u * q - s) * h) = decide (g * q < 2 * (u * q * h) - s * h) := decide_eq_decide.mpr (by rw [show (2 * u * q - s) * h = 2 * (u * q * h) - s * h by grind])
  have qh : 0 < q * h := Int.mul_pos hq hh
  have ule : decide (u ≤ l) = decide (u * q * h ≤ l * q * h) := decide_eq_decide.mpr (by
    rw [Int.mul_assoc, Int.mul_assoc]
    exact (Int.mul_le_mul_right qh).symm)
  unfold m_fewest_rising
  rw [run4]
  simp only [ev_V, ev_Op, ev_Un, ev_C, ev_E, ev_And, ev_Or, ev_Not, ev_If, ev_eAnd, ev_eOr, ev_eNot, ev_Fn, ev_Cons, ev_Nil, ev_Call, ev_CallN, ev_Yes, ev_Fld, sv_Seq, sv_If, sv_Ret, sv_Asg, sv_Nx, sv_For, gv_N, bind_ok, lift_some, nox_ok1, tb_bl, if_true, if_false, Bool.false_eq_true, List.getElem?_cons_succ, List.getElem?_cons_zero, List.set_cons_succ, List.set_cons_zero, Option.some.injEq, Sl.d.injEq, Option.bind_some, runE_rt, runE_nx, Ev_ok, wi_cons, wi_nil, List.replicate, decide_true, decide_false, mi, tup2, c1, o_lt, cmp_neg, o_le, ule, lt1, Nat.reduceSub]
  unfold rising
  by_cases z : u * q * h ≤ l * q * h
  · simp only [z, ev_V, ev_Op, ev_Un, ev_C, ev_E, ev_And, ev_Or, ev_Not, ev_If, ev_eAnd, ev_eOr, ev_eNot, ev_Fn, ev_Cons, ev_Nil, ev_Call, ev_CallN, ev_Yes, ev_Fld, sv_Seq, sv_If, sv_Ret, sv_Asg, sv_Nx, sv_For, gv_N, bind_ok, lift_some, nox_ok1, tb_bl, if_true, if_false, Bool.false_eq_true, List.getElem?_cons_succ, List.getElem?_cons_zero, List.set_cons_succ, List.set_cons_zero, Option.some.injEq, Sl.d.injEq, Option.bind_some, runE_rt, runE_nx, Ev_ok, wi_cons, wi_nil, List.replicate, decide_true, decide_false]
    by_cases z1 : s * h < u * q * h
    · simp only [z1, ev_V, ev_Op, ev_Un, ev_C, ev_E, ev_And, ev_Or, ev_Not, ev_If, ev_eAnd, ev_eOr, ev_eNot, ev_Fn, ev_Cons, ev_Nil, ev_Call, ev_CallN, ev_Yes, ev_Fld, sv_Seq, sv_If, sv_Ret, sv_Asg, sv_Nx, sv_For, gv_N, bind_ok, lift_some, nox_ok1, tb_bl, if_true, if_false, Bool.false_eq_true, List.getElem?_cons_succ, List.getElem?_cons_zero, List.set_cons_succ, List.set_cons_zero, Option.some.injEq, Sl.d.injEq, Option.bind_some, runE_rt, runE_nx, Ev_ok, wi_cons, wi_nil, List.replicate, decide_true, decide_false, c2, o_lt, cmp_neg, lt2]
      by_cases z2 : g * q < 2 * (u * q * h) - s * h
      · simp only [z2, ev_V, ev_Op, ev_Un, ev_C, ev_E, ev_And, ev_Or, ev_Not, ev_If, ev_eAnd, ev_eOr, ev_eNot, ev_Fn, ev_Cons, ev_Nil, ev_Call, ev_CallN, ev_Yes, ev_Fld, sv_Seq, sv_If, sv_Ret, sv_Asg, sv_Nx, sv_For, gv_N, bind_ok, lift_some, nox_ok1, tb_bl, if_true, if_false, Bool.false_eq_true, List.getElem?_cons_succ, List.getElem?_cons_zero, List.set_cons_succ, List.set_cons_zero, Option.some.injEq, Sl.d.injEq, Option.bind_some, runE_rt, runE_nx, Ev_ok, wi_cons, wi_nil, List.replicate, decide_true, decide_false, true_and]
        rfl
      · simp only [z2, ev_V, ev_Op, ev_Un, ev_C, ev_E, ev_And, ev_Or, ev_Not, ev_If, ev_eAnd, ev_eOr, ev_eNot, ev_Fn, ev_Cons, ev_Nil, ev_Call, ev_CallN, ev_Yes, ev_Fld, sv_Seq, sv_If, sv_Ret, sv_Asg, sv_Nx, sv_For, gv_N, bind_ok, lift_some, nox_ok1, tb_bl, if_true, if_false, Bool.false_eq_true, List.getElem?_cons_succ, List.getElem?_cons_zero, List.set_cons_succ, List.set_cons_zero, Option.some.injEq, Sl.d.injEq, Option.bind_some, runE_rt, runE_nx, Ev_ok, wi_cons, wi_nil, List.replicate, decide_true, decide_false, true_and]
        rfl
    · simp only [z1, ev_V, ev_Op, ev_Un, ev_C, ev_E, ev_And, ev_Or, ev_Not, ev_If, ev_eAnd, ev_eOr, ev_eNot, ev_Fn, ev_Cons, ev_Nil, ev_Call, ev_CallN, ev_Yes, ev_Fld, sv_Seq, sv_If, sv_Ret, sv_Asg, sv_Nx, sv_For, gv_N, bind_ok, lift_some, nox_ok1, tb_bl, if_true, if_false, Bool.false_eq_true, List.getElem?_cons_succ, List.getElem?_cons_zero, List.set_cons_succ, List.set_cons_zero, Option.some.injEq, Sl.d.injEq, Option.bind_some, runE_rt, runE_nx, Ev_ok, wi_cons, wi_nil, List.replicate, decide_true, decide_false, false_and]
      rfl
  · have z' : l < u := by
      rw [decide_eq_decide] at ule
      refine Classical.byContradiction fun k => z (ule.mp (by omega))
    have r1 := r1 (w := 2 * (u - l)) (by omega) (by omega)
    have r2 := r2 (w := 2 * (u - l)) (by omega) (by omega)
    have ew : 2 * (u - l) * (q * h) = 2 * (u * q * h - l * q * h) := by grind
    have em : (2 * u * q - s) * h = 2 * (u * q * h) - s * h := by grind
    rw [ew] at r1 r2
    rw [em] at r2
    have W0 : 0 < 2 * (u * q * h - l * q * h) := by omega
    have big : ∀ {b' : Nat} {p' : Int}, Pt b' p' q → b' ≤ N90 → (rnd (p' * h) (g * q) (2 * (u * q * h - l * q * h))).natAbs ≤ N90 * 2000 + 1 := fun {b' p'} P' hb' => by
      have x0 := rnd_le (b := p' * h) (G := g * q) W0
      have x1 := ab (a := g) (b := q) (Nat.le_trans Q.pb hc) P'.qb
      have x2 := ab (a := p') (b := h) (Nat.le_trans P'.pb hb') Q.qb
      have x3 := Int.natAbs_sub_le (g * q) (p' * h)
      exact Nat.le_trans x0 (by omega)
    have g1 := big P (by omega)
    have g2 := big M hb
    rw [em] at g2
    have m1 : oMul (.int 2) (.int (u - l)) = some (.int (2 * (u - l))) := o_mulS (n1000s (by decide)) (n1000s (by omega))
    have m2 : oMul (.int 2) (.int (rnd (s * h) (g * q) (2 * (u * q * h - l * q * h)))) = some (.int (2 * rnd (s * h) (g * q) (2 * (u * q * h - l * q * h)))) := o_mulS (n1000s (by decide)) (sm_of g1 (by decide +kernel))
    have m3 : oMul (.int 2) (.int (rnd (2 * (u * q * h) - s * h) (g * q) (2 * (u * q * h - l * q * h)))) = some (.int (2 * rnd (2 * (u * q * h) - s * h) (g * q) (2 * (u * q * h - l * q * h)))) := o_mulS (n1000s (by decide)) (sm_of g2 (by decide +kernel))
    simp only [z, ev_V, ev_Op, ev_Un, ev_C, ev_E, ev_And, ev_Or, ev_Not, ev_If, ev_eAnd, ev_eOr, ev_eNot, ev_Fn, ev_Cons, ev_Nil, ev_Call, ev_CallN, ev_Yes, ev_Fld, sv_Seq, sv_If, sv_Ret, sv_Asg, sv_Nx, sv_For, gv_N, bind_ok, lift_some, nox_ok1, tb_bl, if_true, if_false, Bool.false_eq_true, List.getElem?_cons_succ, List.getElem?_cons_zero, List.set_cons_succ, List.set_cons_zero, Option.some.injEq, Sl.d.injEq, Option.bind_some, runE_rt, runE_nx, Ev_ok, wi_cons, wi_nil, List.replicate, decide_true, decide_false, o_sub, m1, r1, m2]
    by_cases z1 : s * h < u * q * h
    · simp only [z1, ev_V, ev_Op, ev_Un, ev_C, ev_E, ev_And, ev_Or, ev_Not, ev_If, ev_eAnd, ev_eOr, ev_eNot, ev_Fn, ev_Cons, ev_Nil, ev_Call, ev_CallN, ev_Yes, ev_Fld, sv_Seq, sv_If, sv_Ret, sv_Asg, sv_Nx, sv_For, gv_N, bind_ok, lift_some, nox_ok1, tb_bl, if_true, if_false, Bool.false_eq_true, List.getElem?_cons_succ, List.getElem?_cons_zero, List.set_cons_succ, List.set_cons_zero, Option.some.injEq, Sl.d.injEq, Option.bind_some, runE_rt, runE_nx, Ev_ok, wi_cons, wi_nil, List.replicate, decide_true, decide_false, r2, m3, o_add, Bool.not_true]
      show lift (some (D.int (if _ then _ else _))) = _
      rfl
    · simp only [z1, ev_V, ev_Op, ev_Un, ev_C, ev_E, ev_And, ev_Or, ev_Not, ev_If, ev_eAnd, ev_eOr, ev_eNot, ev_Fn, ev_Cons, ev_Nil, ev_Call, ev_CallN, ev_Yes, ev_Fld, sv_Seq, sv_If, sv_Ret, sv_Asg, sv_Nx, sv_For, gv_N, bind_ok, lift_some, nox_ok1, tb_bl, if_true, if_false, Bool.false_eq_true, List.getElem?_cons_succ, List.getElem?_cons_zero, List.set_cons_succ, List.set_cons_zero, Option.some.injEq, Sl.d.injEq, Option.bind_some, runE_rt, runE_nx, Ev_ok, wi_cons, wi_nil, List.replicate, decide_true, decide_false, Bool.not_false]
      rfl
theorem between_eq {u l : Int} (hu : u.natAbs ≤ 60) (hl : l.natAbs ≤ 60) (P : Pt b s q) (Q : Pt c g h) (hb : b + 400000 ≤ N90) (hc : c + 400000 ≤ N90) : m_fewest_between [.int u, .int l, pair (s, q), pair (g, h)] = .ok (optD (ansZ (u * q * h) (l * q * h) (s * h) (g * q))) := by
  have cm := cmp_pts Q P (by omega) (by omega)
  have r1 := rising_eq hu hl P Q hb (by omega)
  have f1 := flipped_eq P (by omega)
  have f2 := flipped_eq Q (by omega)
  have r2 := rising_eq (u := -l) (l := -u) (by omega) (by omega) (flip_pt P) (flip_pt Q) hb (by omega)
  simp only [Int.neg_mul] at r2
  unfold m_fewest_between
  rw [run4]
  simp only [ev_V, ev_Op, ev_Un, ev_C, ev_E, ev_And, ev_Or, ev_Not, ev_If, ev_eAnd, ev_eOr, ev_eNot, ev_Fn, ev_Cons, ev_Nil, ev_Call, ev_CallN, ev_Yes, ev_Fld, sv_Seq, sv_If, sv_Ret, sv_Asg, sv_Nx, sv_For, gv_N, bind_ok, lift_some, nox_ok1, tb_bl, if_true, if_false, Bool.false_eq_true, List.getElem?_cons_succ, List.getElem?_cons_zero, List.set_cons_succ, List.set_cons_zero, Option.some.injEq, Sl.d.injEq, Option.bind_some, runE_rt, runE_nx, Ev_ok, wi_cons, wi_nil, List.replicate, decide_true, decide_false, cm, q_int, cmp_zero, Nat.reduceSub]
  unfold ansZ
  by_cases z : g * q = s * h
  · simp only [z, ev_V, ev_Op, ev_Un, ev_C, ev_E, ev_And, ev_Or, ev_Not, ev_If, ev_eAnd, ev_eOr, ev_eNot, ev_Fn, ev_Cons, ev_Nil, ev_Call, ev_CallN, ev_Yes, ev_Fld, sv_Seq, sv_If, sv_Ret, sv_Asg, sv_Nx, sv_For, gv_N, bind_ok, lift_some, nox_ok1, tb_bl, if_true, if_false, Bool.false_eq_true, List.getElem?_cons_succ, List.getElem?_cons_zero, List.set_cons_succ, List.set_cons_zero, Option.some.injEq, Sl.d.injEq, Option.bind_some, runE_rt, runE_nx, Ev_ok, wi_cons, wi_nil, List.replicate, decide_true, decide_false]
    rfl
  · simp only [z, ev_V, ev_Op, ev_Un, ev_C, ev_E, ev_And, ev_Or, ev_Not, ev_If, ev_eAnd, ev_eOr, ev_eNot, ev_Fn, ev_Cons, ev_Nil, ev_Call, ev_CallN, ev_Yes, ev_Fld, sv_Seq, sv_If, sv_Ret, sv_Asg, sv_Nx, sv_For, gv_N, bind_ok, lift_some, nox_ok1, tb_bl, if_true, if_false, Bool.false_eq_true, List.getElem?_cons_succ, List.getElem?_cons_zero, List.set_cons_succ, List.set_cons_zero, Option.some.injEq, Sl.d.injEq, Option.bind_some, runE_rt, runE_nx, Ev_ok, wi_cons, wi_nil, List.replicate, decide_true, decide_false, o_gt, cmp_pos]
    by_cases z2 : s * h < g * q
    · simp only [z2, ev_V, ev_Op, ev_Un, ev_C, ev_E, ev_And, ev_Or, ev_Not, ev_If, ev_eAnd, ev_eOr, ev_eNot, ev_Fn, ev_Cons, ev_Nil, ev_Call, ev_CallN, ev_Yes, ev_Fld, sv_Seq, sv_If, sv_Ret, sv_Asg, sv_Nx, sv_For, gv_N, bind_ok, lift_some, nox_ok1, tb_bl, if_true, if_false, Bool.false_eq_true, List.getElem?_cons_succ, List.getElem?_cons_zero, List.set_cons_succ, List.set_cons_zero, Option.some.injEq, Sl.d.injEq, Option.bind_some, runE_rt, runE_nx, Ev_ok, wi_cons, wi_nil, List.replicate, decide_true, decide_false, r1]
    · simp only [z2, ev_V, ev_Op, ev_Un, ev_C, ev_E, ev_And, ev_Or, ev_Not, ev_If, ev_eAnd, ev_eOr, ev_eNot, ev_Fn, ev_Cons, ev_Nil, ev_Call, ev_CallN, ev_Yes, ev_Fld, sv_Seq, sv_If, sv_Ret, sv_Asg, sv_Nx, sv_For, gv_N, bind_ok, lift_some, nox_ok1, tb_bl, if_true, if_false, Bool.false_eq_true, List.getElem?_cons_succ, List.getElem?_cons_zero, List.set_cons_succ, List.set_cons_zero, Option.some.injEq, Sl.d.injEq, Option.bind_some, runE_rt, runE_nx, Ev_ok, wi_cons, wi_nil, List.replicate, decide_true, decide_false, f1, f2, o_neg, r2]
theorem votes_eq {u l : Int} (hu : u.natAbs ≤ 60) (hl : l.natAbs ≤ 60) (P : Pt b s q) (Q : Pt c g h) (hb : b + 200000000 ≤ N90) (hc : c ≤ N90) {a : Option Int} (hs : (s, q) = (g, h) → a = some 0)
    (hsp : (s, q) ≠ (g, h) → Spec (u * q * h) (l * q * h) (s * h) (g * q) a) : m__law_line_votes [.int u, .int l, pair (s, q), pair (g, h), .int 200] = .ok (optD a) := by
  have hq := P.pos
  have hh := Q.pos
  have e200 : oAdd (.int 200) (.int 1) = some (.int 201) := rfl
  unfold m__law_line_votes
  rw [run5]
  simp only [ev_V, ev_Op, ev_Un, ev_C, ev_E, ev_And, ev_Or, ev_Not, ev_If, ev_eAnd, ev_eOr, ev_eNot, ev_Fn, ev_Cons, ev_Nil, ev_Call, ev_CallN, ev_Yes, ev_Fld, sv_Seq, sv_If, sv_Ret, sv_Asg, sv_Nx, sv_For, gv_N, bind_ok, lift_some, nox_ok1, tb_bl, if_true, if_false, Bool.false_eq_true, List.getElem?_cons_succ, List.getElem?_cons_zero, List.set_cons_succ, List.set_cons_zero, Option.some.injEq, Sl.d.injEq, Option.bind_some, runE_rt, runE_nx, Ev_ok, wi_cons, wi_nil, List.replicate, decide_true, decide_false, q_pair, Nat.reduceSub]
  by_cases z : (s, q) = (g, h)
  · rw [decide_eq_true z, hs z]
    simp only [ev_V, ev_Op, ev_Un, ev_C, ev_E, ev_And, ev_Or, ev_Not, ev_If, ev_eAnd, ev_eOr, ev_eNot, ev_Fn, ev_Cons, ev_Nil, ev_Call, ev_CallN, ev_Yes, ev_Fld, sv_Seq, sv_If, sv_Ret, sv_Asg, sv_Nx, sv_For, gv_N, bind_ok, lift_some, nox_ok1, tb_bl, if_true, if_false, Bool.false_eq_true, List.getElem?_cons_succ, List.getElem?_cons_zero, List.set_cons_succ, List.set_cons_zero, Option.some.injEq, Sl.d.injEq, Option.bind_some, runE_rt, runE_nx, Ev_ok, wi_cons, wi_nil, List.replicate, decide_true, decide_false]
    rfl
  · rw [decide_eq_false z]
    have sp := hsp z
    simp only [ev_V, ev_Op, ev_Un, ev_C, ev_E, ev_And, ev_Or, ev_Not, ev_If, ev_eAnd, ev_eOr, ev_eNot, ev_Fn, ev_Cons, ev_Nil, ev_Call, ev_CallN, ev_Yes, ev_Fld, sv_Seq, sv_If, sv_Ret, sv_Asg, sv_Nx, sv_For, gv_N, bind_ok, lift_some, nox_ok1, tb_bl, if_true, if_false, Bool.false_eq_true, List.getElem?_cons_succ, List.getElem?_cons_zero, List.set_cons_succ, List.set_cons_zero, Option.some.injEq, Sl.d.injEq, Option.bind_some, runE_rt, runE_nx, Ev_ok, wi_cons, wi_nil, List.replicate, decide_true, decide_false]
    have rg : iR2 (aCons (eC (.int 1)) (aCons (eOp oAdd (eV 4) (eC (.int 1))) (aNil))) [.d (.int u), .d (.int l), .d (pair (s, q)), .d (pair (g, h)), .d (.int 200), .d (pair (s, q)), .d (pair (s, q)), .no, .no, .no] = .ok ((List.range' 1 200).map nat) := rg2 (a := 1) (b := 201) (by decide) (by decide) (by simp only [ev_V, ev_Op, ev_Un, ev_C, ev_E, ev_And, ev_Or, ev_Not, ev_If, ev_eAnd, ev_eOr, ev_eNot, ev_Fn, ev_Cons, ev_Nil, ev_Call, ev_CallN, ev_Yes, ev_Fld, sv_Seq, sv_If, sv_Ret, sv_Asg, sv_Nx, sv_For, gv_N, bind_ok, lift_some, nox_ok1, tb_bl, if_true, if_false, Bool.false_eq_true, List.getElem?_cons_succ, List.getElem?_cons_zero, List.set_cons_succ, List.set_cons_zero, Option.some.injEq, Sl.d.injEq, Option.bind_some, runE_rt, runE_nx, Ev_ok, wi_cons, wi_nil, List.replicate, decide_true, decide_false, e200]; rfl)
    rw [rg]
    simp only [bind_ok]
    generalize hU : u * q * h = U at sp
    generalize hL : l * q * h = L at sp
    generalize hS : s * h = S at sp
    generalize hG : g * q = G at sp
    have one : ∀ v : Int, v.natAbs ≤ 60 → Pt 1000 v 1 := fun v hv => ⟨by decide, by rw [show (1 : Int).natAbs = 1 from rfl, Nat.gcd_one_right], by decide, by omega⟩
    have key := ev_forT (g := gN 7) (ρ := [.d (.int u), .d (.int l), .d (pair (s, q)), .d (pair (g, h)), .d (.int 200), .d (pair (s, q)), .d (pair (s, q)), .no, .no, .no]) (body := sSeq (sAsg (eV 6) (gN 8))
    (sSeq (sIf (cAnd (cE (eOp oLt (eCallN m__law_sign (aCons (eV 5) (aCons (eFn oTup (aCons (eV 0) (aCons (eC (.int 1)) (aNil)))) (aNil)))) (eC (.int 0)))) (cE (eOp oGt (eCallN m__law_sign (aCons (eCallN m__law_mirror (aCons (eV 5) (aCons (eV 0) (aNil)))) (aCons (eV 6) (aNil)))) (eC (.int 0))))) (sAsg (eCallN m__law_mirror (aCons (eV 5) (aCons (eV 0) (aNil)))) (gN 8)) (sNx))
    (sSeq (sAsg (eV 5) (gN 9))
    (sSeq (sIf (cAnd (cE (eOp oGt (eCallN m__law_sign (aCons (eV 6) (aCons (eFn oTup (aCons (eV 1) (aCons (eC (.int 1)) (aNil)))) (aNil)))) (eC (.int 0)))) (cE (eOp oLt (eCallN m__law_sign (aCons (eCallN m__law_mirror (aCons (eV 6) (aCons (eV 1) (aNil)))) (aCons (eV 5) (aNil)))) (eC (.int 0))))) (sAsg (eCallN m__law_mirror (aCons (eV 6) (aCons (eV 1) (aNil)))) (gN 9)) (sNx))
    (sSeq (sIf (cAnd (cE (eOp oEq (eV 9) (eV 5))) (cE (eOp oEq (eV 8) (eV 6)))) (sRet (eC .non)) (sNx))
    (sSeq (sAsg (eV 9) (gN 5))
    (sSeq (sAsg (eV 8) (gN 6))
    (sIf (cAnd (cE (eOp oLt (eCallN m__law_sign (aCons (eV 5) (aCons (eV 3) (aNil)))) (eC (.int 0)))) (cE (eOp oLt (eCallN m__law_sign (aCons (eV 3) (aCons (eV 6) (aNil)))) (eC (.int 0))))) (sRet (eV 7)) (sNx))))))))) 
      nat (List.range' 1 200) (fun p ρ => ∃ A B z7 z8 z9, ρ = [.d (.int u), .d (.int l), .d (pair (s, q)), .d (pair (g, h)), .d (.int 200), .d (pair (A, q)), .d (pair (B, q)), z7, z8, z9] ∧ Pt (b + p.length * 400000) A q ∧ Pt (b + p.length * 400000) B q ∧ A ≤ B ∧ A * h = (ends U L S p.length).1 ∧ B * h = (ends U L S p.length).2 ∧ (∀ n, 1 ≤ n → n ≤ p.length → ¬ cond U L S G n) ∧ (∀ n, n < p.length → ¬ stop U L S n)) (fun d => d = optD a) (by
        rintro p x r ρ ep ⟨A, B, z7, z8, z9, rfl, PA, PB, hAB, hA, hB, nc, ns⟩
        have len : p.length < 200 := by
          have := congrArg List.length ep
          rw [List.length_range', List.length_append, List.length_cons] at this
          omega
        have ex : x = p.length + 1 := by
          have h1 : (List.range' 1 200)[p.length]? = some x := by rw [ep]; simp
          rw [List.getElem?_range' len] at h1
          have := Option.some.inj h1
          omega
        refine ⟨[.d (.int u), .d (.int l), .d (pair (s, q)), .d (pair (g, h)), .d (.int 200), .d (pair (A, q)), .d (pair (B, q)), .d (nat x), z8, z9], rfl, ?_⟩
        have bb : b + p.length * 400000 + 400000 ≤ N90 := by omega
        have MA := mirror_pt (u := u) PA (by omega)
        have MB := mirror_pt (u := l) PB (by omega)
        have miA := lmirror_eq (u := u) PA (by omega) (by omega)
        have miB := lmirror_eq (u := l) PB (by omega) (by omega)
        have s1 := sgn_pts PA (one u hu) (by omega) n1000
        have s2 := sgn_pts MA PB (by omega) (by omega)
        have s3 := sgn_pts PB (one l hl) (by omega) n1000
        have s4 := sgn_pts MB PA (by omega) (by omega)
        -- further and before
        obtain ⟨B', hB'⟩ : ∃ B', B' = max B (2 * u * q - A) := ⟨_, rfl⟩
        obtain ⟨A', hA'⟩ : ∃ A', A' = min A (2 * l * q - B) := ⟨_, rfl⟩
        have PB' : Pt (b + (p.length + 1) * 400000) B' q := by
          rw [hB', show b + (p.length + 1) * 400000 = b + p.length * 400000 + 400000 by omega]
          by_cases k : B ≤ 2 * u * q - A
          · rw [Int.max_eq_right k]; exact MA
          · rw [Int.max_eq_left (by omega)]; exact PB.mono (by omega)
        have PA' : Pt (b + (p.length + 1) * 400000) A' q := by
          rw [hA', show b + (p.length + 1) * 400000 = b + p.length * 400000 + 400000 by omega]
          by_cases k : A ≤ 2 * l * q - B
          · rw [Int.min_eq_left k]; exact PA.mono (by omega)
          · rw [Int.min_eq_right (by omega)]; exact MB
        have w1 : sIf (cAnd (cE (eOp oLt (eCallN m__law_sign (aCons (eV 5) (aCons (eFn oTup (aCons (eV 0) (aCons (eC (.int 1)) (aNil)))) (aNil)))) (eC (.int 0)))) (cE (eOp oGt (eCallN m__law_sign (aCons (eCallN m__law_mirror (aCons (eV 5) (aCons (eV 0) (aNil)))) (aCons (eV 6) (aNil)))) (eC (.int 0))))) (sAsg (eCallN m__law_mirror (aCons (eV 5) (aCons (eV 0) (aNil)))) (gN 8)) (sNx) [.d (.int u), .d (.int l), .d (pair (s, q)), .d (pair (g, h)), .d (.int 200), .d (pair (A, q)), .d (pair (B, q)), .d (nat x), .d (pair (B, q)), z9] = .ok (.nx [.d (.int u), .d (.int l), .d (pair (s, q)), .d (pair (g, h)), .d (.int 200), .d (pair (A, q)), .d (pair (B, q)), .d (nat x), .d (pair (B', q)), z9]) := by
          have e1 : decide (A * 1 < u * q) = decide (A < u * q) := by rw [Int.mul_one]
          have e2 : decide (B * q < (2 * u * q - A) * q) = decide (B < 2 * u * q - A) := decide_eq_decide.mpr (Int.mul_lt_mul_right hq)
          simp only [ev_V, ev_Op, ev_Un, ev_C, ev_E, ev_And, ev_Or, ev_Not, ev_If, ev_eAnd, ev_eOr, ev_eNot, ev_Fn, ev_Cons, ev_Nil, ev_Call, ev_CallN, ev_Yes, ev_Fld, sv_Seq, sv_If, sv_Ret, sv_Asg, sv_Nx, sv_For, gv_N, bind_ok, lift_some, nox_ok1, tb_bl, if_true, if_false, Bool.false_eq_true, List.getElem?_cons_succ, List.getElem?_cons_zero, List.set_cons_succ, List.set_cons_zero, Option.some.injEq, Sl.d.injEq, Option.bind_some, runE_rt, runE_nx, Ev_ok, wi_cons, wi_nil, List.replicate, decide_true, decide_false, tup2, s1, miA, s2, o_lt, o_gt, cmp_neg, cmp_pos, e1, e2]
          have me : 2 * u * q = 2 * (u * q) := by grind
          by_cases k : B < 2 * u * q - A
          · have k0 : A < u * q := by omega
            rw [hB', Int.max_eq_right (by omega)]
            simp only [k, k0, ev_V, ev_Op, ev_Un, ev_C, ev_E, ev_And, ev_Or, ev_Not, ev_If, ev_eAnd, ev_eOr, ev_eNot, ev_Fn, ev_Cons, ev_Nil, ev_Call, ev_CallN, ev_Yes, ev_Fld, sv_Seq, sv_If, sv_Ret, sv_Asg, sv_Nx, sv_For, gv_N, bind_ok, lift_some, nox_ok1, tb_bl, if_true, if_false, Bool.false_eq_true, List.getElem?_cons_succ, List.getElem?_cons_zero, List.set_cons_succ, List.set_cons_zero, Option.some.injEq, Sl.d.injEq, Option.bind_some, runE_rt, runE_nx, Ev_ok, wi_cons, wi_nil, List.replicate, decide_true, decide_false]
          · rw [hB', Int.max_eq_left (by omega)]
            by_cases k0 : A < u * q
            · simp only [k, k0, ev_V, ev_Op, ev_Un, ev_C, ev_E, ev_And, ev_Or, ev_Not, ev_If, ev_eAnd, ev_eOr, ev_eNot, ev_Fn, ev_Cons, ev_Nil, ev_Call, ev_CallN, ev_Yes, ev_Fld, sv_Seq, sv_If, sv_Ret, sv_Asg, sv_Nx, sv_For, gv_N, bind_ok, lift_some, nox_ok1, tb_bl, if_true, if_false, Bool.false_eq_true, List.getElem?_cons_succ, List.getElem?_cons_zero, List.set_cons_succ, List.set_cons_zero, Option.some.injEq, Sl.d.injEq, Option.bind_some, runE_rt, runE_nx, Ev_ok, wi_cons, wi_nil, List.replicate, decide_true, decide_false]
            · simp only [k0, ev_V, ev_Op, ev_Un, ev_C, ev_E, ev_And, ev_Or, ev_Not, ev_If, ev_eAnd, ev_eOr, ev_eNot, ev_Fn, ev_Cons, ev_Nil, ev_Call, ev_CallN, ev_Yes, ev_Fld, sv_Seq, sv_If, sv_Ret, sv_Asg, sv_Nx, sv_For, gv_N, bind_ok, lift_some, nox_ok1, tb_bl, if_true, if_false, Bool.false_eq_true, List.getElem?_cons_succ, List.getElem?_cons_zero, List.set_cons_succ, List.set_cons_zero, Option.some.injEq, Sl.d.injEq, Option.bind_some, runE_rt, runE_nx, Ev_ok, wi_cons, wi_nil, List.replicate, decide_true, decide_false]
        have w2 : sIf (cAnd (cE (eOp oGt (eCallN m__law_sign (aCons (eV 6) (aCons (eFn oTup (aCons (eV 1) (aCons (eC (.int 1)) (aNil)))) (aNil)))) (eC (.int 0)))) (cE (eOp oLt (eCallN m__law_sign (aCons (eCallN m__law_mirror (aCons (eV 6) (aCons (eV 1) (aNil)))) (aCons (eV 5) (aNil)))) (eC (.int 0))))) (sAsg (eCallN m__law_mirror (aCons (eV 6) (aCons (eV 1) (aNil)))) (gN 9)) (sNx) [.d (.int u), .d (.int l), .d (pair (s, q)), .d (pair (g, h)), .d (.int 200), .d (pair (A, q)), .d (pair (B, q)), .d (nat x), .d (pair (B', q)), .d (pair (A, q))] = .ok (.nx [.d (.int u), .d (.int l), .d (pair (s, q)), .d (pair (g, h)), .d (.int 200), .d (pair (A, q)), .d (pair (B, q)), .d (nat x), .d (pair (B', q)), .d (pair (A', q))]) := by
          have e1 : decide (l * q < B * 1) = decide (l * q < B) := by rw [Int.mul_one]
          have e2 : decide ((2 * l * q - B) * q < A * q) = decide (2 * l * q - B < A) := decide_eq_decide.mpr (Int.mul_lt_mul_right hq)
          simp only [ev_V, ev_Op, ev_Un, ev_C, ev_E, ev_And, ev_Or, ev_Not, ev_If, ev_eAnd, ev_eOr, ev_eNot, ev_Fn, ev_Cons, ev_Nil, ev_Call, ev_CallN, ev_Yes, ev_Fld, sv_Seq, sv_If, sv_Ret, sv_Asg, sv_Nx, sv_For, gv_N, bind_ok, lift_some, nox_ok1, tb_bl, if_true, if_false, Bool.false_eq_true, List.getElem?_cons_succ, List.getElem?_cons_zero, List.set_cons_succ, List.set_cons_zero, Option.some.injEq, Sl.d.injEq, Option.bind_some, runE_rt, runE_nx, Ev_ok, wi_cons, wi_nil, List.replicate, decide_true, decide_false, tup2, s3, miB, s4, o_lt, o_gt, cmp_neg, cmp_pos, e1, e2]
          have me : 2 * l * q = 2 * (l * q) := by grind
          by_cases k : 2 * l * q - B < A
          · have k0 : l * q < B := by omega
            rw [hA', Int.min_eq_right (by omega)]
            simp only [k, k0, ev_V, ev_Op, ev_Un, ev_C, ev_E, ev_And, ev_Or, ev_Not, ev_If, ev_eAnd, ev_eOr, ev_eNot, ev_Fn, ev_Cons, ev_Nil, ev_Call, ev_CallN, ev_Yes, ev_Fld, sv_Seq, sv_If, sv_Ret, sv_Asg, sv_Nx, sv_For, gv_N, bind_ok, lift_some, nox_ok1, tb_bl, if_true, if_false, Bool.false_eq_true, List.getElem?_cons_succ, List.getElem?_cons_zero, List.set_cons_succ, List.set_cons_zero, Option.some.injEq, Sl.d.injEq, Option.bind_some, runE_rt, runE_nx, Ev_ok, wi_cons, wi_nil, List.replicate, decide_true, decide_false]
          · rw [hA', Int.min_eq_left (by omega)]
            by_cases k0 : l * q < B
            · simp only [k, k0, ev_V, ev_Op, ev_Un, ev_C, ev_E, ev_And, ev_Or, ev_Not, ev_If, ev_eAnd, ev_eOr, ev_eNot, ev_Fn, ev_Cons, ev_Nil, ev_Call, ev_CallN, ev_Yes, ev_Fld, sv_Seq, sv_If, sv_Ret, sv_Asg, sv_Nx, sv_For, gv_N, bind_ok, lift_some, nox_ok1, tb_bl, if_true, if_false, Bool.false_eq_true, List.getElem?_cons_succ, List.getElem?_cons_zero, List.set_cons_succ, List.set_cons_zero, Option.some.injEq, Sl.d.injEq, Option.bind_some, runE_rt, runE_nx, Ev_ok, wi_cons, wi_nil, List.replicate, decide_true, decide_false]
            · simp only [k0, ev_V, ev_Op, ev_Un, ev_C, ev_E, ev_And, ev_Or, ev_Not, ev_If, ev_eAnd, ev_eOr, ev_eNot, ev_Fn, ev_Cons, ev_Nil, ev_Call, ev_CallN, ev_Yes, ev_Fld, sv_Seq, sv_If, sv_Ret, sv_Asg, sv_Nx, sv_For, gv_N, bind_ok, lift_some, nox_ok1, tb_bl, if_true, if_false, Bool.false_eq_true, List.getElem?_cons_succ, List.getElem?_cons_zero, List.set_cons_succ, List.set_cons_zero, Option.some.injEq, Sl.d.injEq, Option.bind_some, runE_rt, runE_nx, Ev_ok, wi_cons, wi_nil, List.replicate, decide_true, decide_false]
        have eA' : A' * h = (ends U L S (p.length + 1)).1 := by
          show _ = min _ _
          rw [← hA, ← hB, ← hL, hA']
          by_cases k : A ≤ 2 * l * q - B
          · have := Int.mul_le_mul_of_nonneg_right k (show 0 ≤ h by omega)
            have e : (2 * l * q - B) * h = 2 * (l * q * h) - B * h := by grind
            rw [Int.min_eq_left k, Int.min_eq_left (by omega)]
          · have := Int.mul_le_mul_of_nonneg_right (show 2 * l * q - B ≤ A by omega) (show 0 ≤ h by omega)
            have e : (2 * l * q - B) * h = 2 * (l * q * h) - B * h := by grind
            rw [Int.min_eq_right (by omega), Int.min_eq_right (by omega), e]
        have eB' : B' * h = (ends U L S (p.length + 1)).2 := by
          show _ = max _ _
          rw [← hA, ← hB, ← hU, hB']
          by_cases k : B ≤ 2 * u * q - A
          · have := Int.mul_le_mul_of_nonneg_right k (show 0 ≤ h by omega)
            have e : (2 * u * q - A) * h = 2 * (u * q * h) - A * h := by grind
            rw [Int.max_eq_right k, Int.max_eq_right (by omega), e]
          · have := Int.mul_le_mul_of_nonneg_right (show 2 * u * q - A ≤ B by omega) (show 0 ≤ h by omega)
            have e : (2 * u * q - A) * h = 2 * (u * q * h) - A * h := by grind
            rw [Int.max_eq_left (by omega), Int.max_eq_left (by omega)]
        rw [sv_Seq, asgV 6 8 rfl]
        simp only [bind_ok, List.set_cons_succ, List.set_cons_zero]
        rw [sv_Seq, w1]
        simp only [bind_ok]
        rw [sv_Seq, asgV 5 9 rfl]
        simp only [bind_ok, List.set_cons_succ, List.set_cons_zero]
        rw [sv_Seq, w2]
        simp only [bind_ok]
        have t1 := sgn_pts PA' Q (by omega) hc
        have t2 := sgn_pts Q PB' hc (by omega)
        have st : (decide ((A', q) = (A, q)) && decide ((B', q) = (B, q))) = decide (stop U L S p.length) := by
          have : stop U L S p.length ↔ A' = A ∧ B' = B := by
            unfold stop
            rw [Prod.ext_iff, ← eA', ← eB', ← hA, ← hB]
            constructor
            · rintro ⟨x1, x2⟩
              exact ⟨Int.eq_of_mul_eq_mul_right (by omega) x1, Int.eq_of_mul_eq_mul_right (by omega) x2⟩
            · rintro ⟨x1, x2⟩
              rw [x1, x2]
              exact ⟨rfl, rfl⟩
          rw [Bool.eq_iff_iff, Bool.and_eq_true, decide_eq_true_eq, decide_eq_true_eq, decide_eq_true_eq, this]
          simp
        have cd : (decide (A' * h < g * q) && decide (g * q < B' * h)) = decide (cond U L S G (p.length + 1)) := by
          rw [Bool.eq_iff_iff, Bool.and_eq_true, decide_eq_true_eq, decide_eq_true_eq, decide_eq_true_eq, eA', eB', hG]
          exact Iff.rfl
        have c5 : cAnd (cE (eOp oEq (eV 9) (eV 5))) (cE (eOp oEq (eV 8) (eV 6))) [.d (.int u), .d (.int l), .d (pair (s, q)), .d (pair (g, h)), .d (.int 200), .d (pair (A, q)), .d (pair (B, q)), .d (nat x), .d (pair (B', q)), .d (pair (A', q))] = .ok (decide (stop U L S p.length)) := by
          rw [← st]
          simp only [ev_V, ev_Op, ev_Un, ev_C, ev_E, ev_And, ev_Or, ev_Not, ev_If, ev_eAnd, ev_eOr, ev_eNot, ev_Fn, ev_Cons, ev_Nil, ev_Call, ev_CallN, ev_Yes, ev_Fld, sv_Seq, sv_If, sv_Ret, sv_Asg, sv_Nx, sv_For, gv_N, bind_ok, lift_some, nox_ok1, tb_bl, if_true, if_false, Bool.false_eq_true, List.getElem?_cons_succ, List.getElem?_cons_zero, List.set_cons_succ, List.set_cons_zero, Option.some.injEq, Sl.d.injEq, Option.bind_some, runE_rt, runE_nx, Ev_ok, wi_cons, wi_nil, List.replicate, decide_true, decide_false, q_pair]
          cases decide ((A', q) = (A, q)) <;> simp only [ev_V, ev_Op, ev_Un, ev_C, ev_E, ev_And, ev_Or, ev_Not, ev_If, ev_eAnd, ev_eOr, ev_eNot, ev_Fn, ev_Cons, ev_Nil, ev_Call, ev_CallN, ev_Yes, ev_Fld, sv_Seq, sv_If, sv_Ret, sv_Asg, sv_Nx, sv_For, gv_N, bind_ok, lift_some, nox_ok1, tb_bl, if_true, if_false, Bool.false_eq_true, List.getElem?_cons_succ, List.getElem?_cons_zero, List.set_cons_succ, List.set_cons_zero, Option.some.injEq, Sl.d.injEq, Option.bind_some, runE_rt, runE_nx, Ev_ok, wi_cons, wi_nil, List.replicate, decide_true, decide_false, Bool.false_and, Bool.true_and]
        have c6 : cAnd (cE (eOp oLt (eCallN m__law_sign (aCons (eV 5) (aCons (eV 3) (aNil)))) (eC (.int 0)))) (cE (eOp oLt (eCallN m__law_sign (aCons (eV 3) (aCons (eV 6) (aNil)))) (eC (.int 0)))) [.d (.int u), .d (.int l), .d (pair (s, q)), .d (pair (g, h)), .d (.int 200), .d (pair (A', q)), .d (pair (B', q)), .d (nat x), .d (pair (B', q)), .d (pair (A', q))] = .ok (decide (cond U L S G (p.length + 1))) := by
          rw [← cd]
          simp only [ev_V, ev_Op, ev_Un, ev_C, ev_E, ev_And, ev_Or, ev_Not, ev_If, ev_eAnd, ev_eOr, ev_eNot, ev_Fn, ev_Cons, ev_Nil, ev_Call, ev_CallN, ev_Yes, ev_Fld, sv_Seq, sv_If, sv_Ret, sv_Asg, sv_Nx, sv_For, gv_N, bind_ok, lift_some, nox_ok1, tb_bl, if_true, if_false, Bool.false_eq_true, List.getElem?_cons_succ, List.getElem?_cons_zero, List.set_cons_succ, List.set_cons_zero, Option.some.injEq, Sl.d.injEq, Option.bind_some, runE_rt, runE_nx, Ev_ok, wi_cons, wi_nil, List.replicate, decide_true, decide_false, t1, t2, o_lt, cmp_neg]
          cases decide (A' * h < g * q) <;> simp only [ev_V, ev_Op, ev_Un, ev_C, ev_E, ev_And, ev_Or, ev_Not, ev_If, ev_eAnd, ev_eOr, ev_eNot, ev_Fn, ev_Cons, ev_Nil, ev_Call, ev_CallN, ev_Yes, ev_Fld, sv_Seq, sv_If, sv_Ret, sv_Asg, sv_Nx, sv_For, gv_N, bind_ok, lift_some, nox_ok1, tb_bl, if_true, if_false, Bool.false_eq_true, List.getElem?_cons_succ, List.getElem?_cons_zero, List.set_cons_succ, List.set_cons_zero, Option.some.injEq, Sl.d.injEq, Option.bind_some, runE_rt, runE_nx, Ev_ok, wi_cons, wi_nil, List.replicate, decide_true, decide_false, Bool.false_and, Bool.true_and]
        rw [sv_Seq, sv_If, c5]
        simp only [bind_ok]
        by_cases hst : stop U L S p.length
        · rw [decide_eq_true hst]
          simp only [ev_V, ev_Op, ev_Un, ev_C, ev_E, ev_And, ev_Or, ev_Not, ev_If, ev_eAnd, ev_eOr, ev_eNot, ev_Fn, ev_Cons, ev_Nil, ev_Call, ev_CallN, ev_Yes, ev_Fld, sv_Seq, sv_If, sv_Ret, sv_Asg, sv_Nx, sv_For, gv_N, bind_ok, lift_some, nox_ok1, tb_bl, if_true, if_false, Bool.false_eq_true, List.getElem?_cons_succ, List.getElem?_cons_zero, List.set_cons_succ, List.set_cons_zero, Option.some.injEq, Sl.d.injEq, Option.bind_some, runE_rt, runE_nx, Ev_ok, wi_cons, wi_nil, List.replicate, decide_true, decide_false]
          cases sp with
          | num Pn h1 h2 h3 h4 h5 =>
            exfalso
            by_cases k : p.length < Pn
            · exact h5 _ k hst
            · exact nc Pn h1 (by omega) h3
          | none m h1 h2 h3 => rfl
        · rw [decide_eq_false hst]
          simp only [if_false, Bool.false_eq_true, sv_Nx, bind_ok]
          rw [sv_Seq, asgV 9 5 rfl]
          simp only [bind_ok, List.set_cons_succ, List.set_cons_zero]
          rw [sv_Seq, asgV 8 6 rfl]
          simp only [bind_ok, List.set_cons_succ, List.set_cons_zero]
          rw [sv_If, c6]
          simp only [bind_ok]
          by_cases hcd : cond U L S G (p.length + 1)
          · rw [decide_eq_true hcd]
            simp only [ev_V, ev_Op, ev_Un, ev_C, ev_E, ev_And, ev_Or, ev_Not, ev_If, ev_eAnd, ev_eOr, ev_eNot, ev_Fn, ev_Cons, ev_Nil, ev_Call, ev_CallN, ev_Yes, ev_Fld, sv_Seq, sv_If, sv_Ret, sv_Asg, sv_Nx, sv_For, gv_N, bind_ok, lift_some, nox_ok1, tb_bl, if_true, if_false, Bool.false_eq_true, List.getElem?_cons_succ, List.getElem?_cons_zero, List.set_cons_succ, List.set_cons_zero, Option.some.injEq, Sl.d.injEq, Option.bind_some, runE_rt, runE_nx, Ev_ok, wi_cons, wi_nil, List.replicate, decide_true, decide_false]
            cases sp with
            | num Pn h1 h2 h3 h4 h5 =>
              have : Pn = p.length + 1 := by
                by_cases k : p.length + 1 < Pn
                · exact absurd hcd (h4 _ (by omega) k)
                · by_cases k2 : Pn = p.length + 1
                  · exact k2
                  · exact absurd h3 (nc Pn h1 (by omega))
              rw [ex, this]
              rfl
            | none m h1 h2 h3 =>
              exfalso
              by_cases k : m < p.length
              · exact ns m k h2
              · by_cases k2 : m = p.length
                · rw [k2] at h2; exact hst h2
                · exact h3 _ (by omega) (by omega) hcd
          · rw [decide_eq_false hcd]
            simp only [ev_V, ev_Op, ev_Un, ev_C, ev_E, ev_And, ev_Or, ev_Not, ev_If, ev_eAnd, ev_eOr, ev_eNot, ev_Fn, ev_Cons, ev_Nil, ev_Call, ev_CallN, ev_Yes, ev_Fld, sv_Seq, sv_If, sv_Ret, sv_Asg, sv_Nx, sv_For, gv_N, bind_ok, lift_some, nox_ok1, tb_bl, if_true, if_false, Bool.false_eq_true, List.getElem?_cons_succ, List.getElem?_cons_zero, List.set_cons_succ, List.set_cons_zero, Option.some.injEq, Sl.d.injEq, Option.bind_some, runE_rt, runE_nx, Ev_ok, wi_cons, wi_nil, List.replicate, decide_true, decide_false]
            have el : (p ++ [x]).length = p.length + 1 := by simp
            refine ⟨A', B', _, _, _, rfl, by rw [el]; exact PA', by rw [el]; exact PB', by omega, by rw [el]; exact eA', by rw [el]; exact eB', fun n n1 n2 => ?_, fun n n1 => ?_⟩
            · rw [el] at n2
              by_cases k : n = p.length + 1
              · rw [k]; exact hcd
              · exact nc n n1 (by omega)
            · rw [el] at n1
              by_cases k : n = p.length
              · rw [k]; exact hst
              · exact ns n (by omega)) ⟨s, s, .no, .no, .no, rfl, P.mono (by simp), P.mono (by simp), Int.le_refl _, hS, hS, fun n _ _ => by simp at *; omega, fun n hn => by simp at hn⟩
    obtain ⟨o, e, hk⟩ := key.get
    rw [e]
    rcases hk with ⟨ρ', rfl, A, B, z7, z8, z9, rfl, PA, PB, hAB, hA, hB, nc, ns⟩ | ⟨d, rfl, rfl⟩
    · exfalso
      rw [List.length_range'] at nc ns
      cases sp with
      | num Pn h1 h2 h3 h4 h5 => exact nc Pn h1 h2 h3
      | none m h1 h2 h3 => exact ns m h1 h2
    · rfl
end
end L2.DL.MM
/-! what is asked of a pair of places -/
namespace L2.DL.MM
open PySem PyProof.Rows PySem.Spec
theorem n_bl (a b : Bool) : oNe (.bl a) (.bl b) = some (.bl (!decide (a = b))) := by cases a <;> cases b <;> rfl
/-- the only number of a home on a line -/
def hx (hs : List (List Int)) (k : Nat) : Int := (hs.getD k []).getD 0 0
theorem up_lt (c e : Int) (he : 0 ≤ e) : Up fun x => decide (c < x * e) := fun x y hxy h => by
  have h : c < x * e := of_decide_eq_true h
  have := Int.mul_le_mul_of_nonneg_right hxy he
  (exact decide_eq_true (by omega))
theorem near_iff {X S G : Int} : (X - G) * (X - G) < (X - S) * (X - S) ↔ (S < G ∧ S + G < 2 * X) ∨ (G < S ∧ 2 * X < S + G) := by
  have e : (X - S) * (X - S) - (X - G) * (X - G) = (G - S) * (2 * X - (S + G)) := by grind
  constructor
  · intro h
    have pos : 0 < (G - S) * (2 * X - (S + G)) := by omega
    by_cases c : S < G
    · have := pos_of pos (by omega)
      exact .inl ⟨c, by omega⟩
    · by_cases c2 : G < S
      · have e2 : (G - S) * (2 * X - (S + G)) = (S - G) * (S + G - 2 * X) := by grind
        rw [e2] at pos
        have := pos_of pos (by omega)
        exact .inr ⟨c2, by omega⟩
      · have : G = S := by omega
        rw [this, Int.sub_self, Int.zero_mul] at pos
        omega
  · intro h
    have pos : 0 < (G - S) * (2 * X - (S + G)) := by
      rcases h with ⟨a, b⟩ | ⟨a, b⟩
      · exact Int.mul_pos (by omega) (by omega)
      · have := Int.mul_pos (a := S - G) (b := S + G - 2 * X) (by omega) (by omega)
        have e2 : (G - S) * (2 * X - (S + G)) = (S - G) * (S + G - 2 * X) := by grind
        omega
    omega
theorem lens1 (x : Int) : fLen [tupI [x]] = some (.int 1) := rfl
section
variable {b : Nat} {p q x : Int} (P : Pt b p q) (hb : b + 60000 ≤ N90) (hx : x.natAbs ≤ 60)
include P hb hx
theorem way_bd : (x * q - p).natAbs ≤ N90 := by
  have a := ab hx P.qb
  have c := P.pb
  have := Int.natAbs_sub_le (x * q) p
  omega
theorem way_eq : m__law_way [tupI [x], pair (p, q)] = .ok (.int ((x * q - p) * (x * q - p))) := by
  have e1 := o_mulS (i := x) (j := q) (n1000s (by omega)) P.smq
  have s1 := sm90 (way_bd P hb hx)
  have e2 := o_mulS s1 s1
  have rg : iR1 (aCons (eV 2) (aNil)) [.d (tupI [x]), .d (pair (p, q)), .d (.int 1), .no, .no, .no] = .ok ((List.range 1).map nat) := rg1 (n := 1) (by decide) rfl
  have lr : List.range 1 = [0] := rfl
  have i0 : oIx (tupI [x]) (nat 0) = some (.int x) := rfl
  have c1 : compL (gN 4) cYes (eOp oSub (eOp oMul (eOp oIx (eV 0) (eV 4)) (eOp oIx (eV 1) (eV 2))) (eOp oIx (eV 1) (eV 4))) [.d (tupI [x]), .d (pair (p, q)), .d (.int 1), .no, .no, .no] ((List.range 1).map nat) = .ok ([0].map fun _ : Nat => D.int (x * q - p)) := by
    rw [lr]
    refine lc_map nat _ _ fun k hk => ⟨_, rfl, ?_⟩
    rw [List.mem_singleton.mp hk]
    have j0 : oIx (pair (p, q)) (nat 0) = some (.int p) := rfl
    simp only [ev_V, ev_Op, ev_Un, ev_C, ev_E, ev_And, ev_Or, ev_Not, ev_If, ev_eAnd, ev_eOr, ev_eNot, ev_Fn, ev_Cons, ev_Nil, ev_Call, ev_CallN, ev_Yes, ev_Fld, sv_Seq, sv_If, sv_Ret, sv_Asg, sv_Nx, sv_For, gv_N, bind_ok, lift_some, nox_ok1, tb_bl, if_true, if_false, Bool.false_eq_true, List.getElem?_cons_succ, List.getElem?_cons_zero, List.set_cons_succ, List.set_cons_zero, Option.some.injEq, Sl.d.injEq, Option.bind_some, runE_rt, runE_nx, Ev_ok, wi_cons, wi_nil, List.replicate, decide_true, decide_false, i0, j0, p1, e1, o_sub]
  have c2 : compL (gN 5) cYes (eOp oMul (eV 5) (eV 5)) [.d (tupI [x]), .d (pair (p, q)), .d (.int 1), .d (.lst [.int (x * q - p)]), .no, .no] ([x * q - p].map D.int) = .ok ([x * q - p].map fun t => D.int (t * t)) := by
    refine lc_map D.int _ _ fun k hk => ⟨_, rfl, ?_⟩
    rw [List.mem_singleton.mp hk]
    simp only [ev_V, ev_Op, ev_Un, ev_C, ev_E, ev_And, ev_Or, ev_Not, ev_If, ev_eAnd, ev_eOr, ev_eNot, ev_Fn, ev_Cons, ev_Nil, ev_Call, ev_CallN, ev_Yes, ev_Fld, sv_Seq, sv_If, sv_Ret, sv_Asg, sv_Nx, sv_For, gv_N, bind_ok, lift_some, nox_ok1, tb_bl, if_true, if_false, Bool.false_eq_true, List.getElem?_cons_succ, List.getElem?_cons_zero, List.set_cons_succ, List.set_cons_zero, Option.some.injEq, Sl.d.injEq, Option.bind_some, runE_rt, runE_nx, Ev_ok, wi_cons, wi_nil, List.replicate, decide_true, decide_false, e2]
  have sz : 1 ≤ sizeLine := by decide
  have fs : fSum [.lst [.int ((x * q - p) * (x * q - p))]] = some (.int ((x * q - p) * (x * q - p))) := by
    have := f_sum [(x * q - p) * (x * q - p)]
    rw [List.sum_cons, List.sum_nil, Int.add_zero] at this
    exact this
  unfold m__law_way
  rw [run2]
  simp only [ev_V, ev_Op, ev_Un, ev_C, ev_E, ev_And, ev_Or, ev_Not, ev_If, ev_eAnd, ev_eOr, ev_eNot, ev_Fn, ev_Cons, ev_Nil, ev_Call, ev_CallN, ev_Yes, ev_Fld, sv_Seq, sv_If, sv_Ret, sv_Asg, sv_Nx, sv_For, gv_N, bind_ok, lift_some, nox_ok1, tb_bl, if_true, if_false, Bool.false_eq_true, List.getElem?_cons_succ, List.getElem?_cons_zero, List.set_cons_succ, List.set_cons_zero, Option.some.injEq, Sl.d.injEq, Option.bind_some, runE_rt, runE_nx, Ev_ok, wi_cons, wi_nil, List.replicate, decide_true, decide_false, lens1, Nat.reduceSub, ev_Lc, rg, List.length_map, List.length_range]
  rw [if_pos sz, c1]
  simp only [ev_V, ev_Op, ev_Un, ev_C, ev_E, ev_And, ev_Or, ev_Not, ev_If, ev_eAnd, ev_eOr, ev_eNot, ev_Fn, ev_Cons, ev_Nil, ev_Call, ev_CallN, ev_Yes, ev_Fld, sv_Seq, sv_If, sv_Ret, sv_Asg, sv_Nx, sv_For, gv_N, bind_ok, lift_some, nox_ok1, tb_bl, if_true, if_false, Bool.false_eq_true, List.getElem?_cons_succ, List.getElem?_cons_zero, List.set_cons_succ, List.set_cons_zero, Option.some.injEq, Sl.d.injEq, Option.bind_some, runE_rt, runE_nx, Ev_ok, wi_cons, wi_nil, List.replicate, decide_true, decide_false, List.map_cons, List.map_nil, iv_Sq, it_lst, List.length_cons, List.length_nil, Nat.reduceAdd]
  rw [if_pos sz]
  have c2' := c2
  simp only [List.map_cons, List.map_nil] at c2'
  rw [c2']
  simp only [ev_V, ev_Op, ev_Un, ev_C, ev_E, ev_And, ev_Or, ev_Not, ev_If, ev_eAnd, ev_eOr, ev_eNot, ev_Fn, ev_Cons, ev_Nil, ev_Call, ev_CallN, ev_Yes, ev_Fld, sv_Seq, sv_If, sv_Ret, sv_Asg, sv_Nx, sv_For, gv_N, bind_ok, lift_some, nox_ok1, tb_bl, if_true, if_false, Bool.false_eq_true, List.getElem?_cons_succ, List.getElem?_cons_zero, List.set_cons_succ, List.set_cons_zero, Option.some.injEq, Sl.d.injEq, Option.bind_some, runE_rt, runE_nx, Ev_ok, wi_cons, wi_nil, List.replicate, decide_true, decide_false, fs]
end
section
variable {b c : Nat} {s q g h x : Int} (P : Pt b s q) (Q : Pt c g h) (hb : b + 60000 ≤ N90) (hc : c + 60000 ≤ N90)
include P Q hb hc
theorem nearer_eq (hx : x.natAbs ≤ 60) : m__law_nearer [tupI [x], pair (g, h), pair (s, q)] = .ok (.bl (decide ((x * (q * h) - g * q) * (x * (q * h) - g * q) < (x * (q * h) - s * h) * (x * (q * h) - s * h)))) := by
  have w1 := way_eq Q hc hx
  have w2 := way_eq P hb hx
  have b1 := way_bd Q hc hx
  have b2 := way_bd P hb hx
  have m : ∀ {y t : Int}, y.natAbs ≤ N90 → t.natAbs ≤ 1000 → oMul (.int (y * y)) (.int t) = some (.int (y * y * t)) ∧ oMul (.int (y * y * t)) (.int t) = some (.int (y * y * t * t)) := fun {y t} hy ht => by
    have x1 := ab hy hy
    have x2 := ab x1 ht
    exact ⟨o_mulS (sm_of x1 (by decide +kernel)) (n1000s ht), o_mulS (sm_of x2 (by decide +kernel)) (n1000s ht)⟩
  obtain ⟨m1, m2⟩ := m b1 P.qb
  obtain ⟨m3, m4⟩ := m b2 Q.qb
  have e1 : (x * h - g) * (x * h - g) * q * q = (x * (q * h) - g * q) * (x * (q * h) - g * q) := by grind
  have e2 : (x * q - s) * (x * q - s) * h * h = (x * (q * h) - s * h) * (x * (q * h) - s * h) := by grind
  unfold m__law_nearer
  rw [run3]
  simp only [ev_V, ev_Op, ev_Un, ev_C, ev_E, ev_And, ev_Or, ev_Not, ev_If, ev_eAnd, ev_eOr, ev_eNot, ev_Fn, ev_Cons, ev_Nil, ev_Call, ev_CallN, ev_Yes, ev_Fld, sv_Seq, sv_If, sv_Ret, sv_Asg, sv_Nx, sv_For, gv_N, bind_ok, lift_some, nox_ok1, tb_bl, if_true, if_false, Bool.false_eq_true, List.getElem?_cons_succ, List.getElem?_cons_zero, List.set_cons_succ, List.set_cons_zero, Option.some.injEq, Sl.d.injEq, Option.bind_some, runE_rt, runE_nx, Ev_ok, wi_cons, wi_nil, List.replicate, decide_true, decide_false, lens1, w1, w2, p1, m1, m2, m3, m4, o_lt, e1, e2, Nat.reduceSub]
end
/-- a council on a line with its ends -/
structure Ln (hs : List (List Int)) (many : Nat) (f : Nat → Bool) (r : D) (u l : Int) : Prop where
  H : Hs hs many 1 60
  h1 : 1 ≤ many
  hm : many ≤ 9
  R : IsRule r many f
  up : IsWord f many (wsOf [1] hs) u
  lo : IsWord f many (wsOf [-1] hs) (-l)
  ub : u.natAbs ≤ 60
  lb : l.natAbs ≤ 60
section
variable {hs : List (List Int)} {many : Nat} {f : Nat → Bool} {r : D} {u l : Int} (C : Ln hs many f r u l)
include C
theorem Ln.at {k : Nat} (hk : k < many) : hs.getD k [] = [hx hs k] ∧ (hx hs k).natAbs ≤ 60 := by
  obtain ⟨h, hh⟩ : ∃ h, hs[k]? = some h := ⟨_, List.getElem?_eq_getElem (by rw [C.H.len]; omega)⟩
  have e : hs.getD k [] = h := by rw [List.getD_eq_getElem?_getD, hh]; rfl
  obtain ⟨a, b⟩ := C.H.each h (List.mem_of_getElem? hh)
  have e2 : h = [hx hs k] := by
    unfold hx
    rw [e]
    match h, a with
    | [y], _ => rfl
  rw [e]
  refine ⟨e2, ?_⟩
  have := b (hx hs k) (by rw [e2]; simp)
  omega
theorem Ln.ws {k : Nat} (hk : k < many) : wsOf [1] hs k = hx hs k ∧ wsOf [-1] hs k = -hx hs k := by
  unfold wsOf dotI
  rw [(C.at hk).1]
  simp
theorem Ln.on_line {b c : Nat} {s q g h : Int} (P : Pt b s q) (Q : Pt c g h) (hb : b + 400000 ≤ N90) (hc : c + 400000 ≤ N90) : m_fewest_on_line [councilD hs r many 1, pair (s, q), pair (g, h)] = .ok (optD (ansZ (u * q * h) (l * q * h) (s * h) (g * q))) := by
  obtain ⟨V, e1, W1⟩ := word_eq (a := [1]) C.H C.h1 C.hm (by decide) (by decide) rfl (fun x hx => by rw [List.mem_singleton.mp hx]; exact n1000s (by decide)) C.R
  obtain ⟨V2, e2, W2⟩ := word_eq (a := [-1]) C.H C.h1 C.hm (by decide) (by decide) rfl (fun x hx => by rw [List.mem_singleton.mp hx]; exact n1000s (by decide)) C.R
  rw [W1.uniq C.up] at e1
  rw [W2.uniq C.lo] at e2
  have t1 : oTup [.int 1] = some (tupI [1]) := rfl
  have t2 : oTup [.int (-1)] = some (tupI [-1]) := rfl
  have nd : oNe (nat 1) (.int 1) = some (.bl false) := rfl
  have en : m_ends_of [councilD hs r many 1] = .ok (pair (u, l)) := by
    unfold m_ends_of
    rw [run1]
    simp only [ev_V, ev_Op, ev_Un, ev_C, ev_E, ev_And, ev_Or, ev_Not, ev_If, ev_eAnd, ev_eOr, ev_eNot, ev_Fn, ev_Cons, ev_Nil, ev_Call, ev_CallN, ev_Yes, ev_Fld, sv_Seq, sv_If, sv_Ret, sv_Asg, sv_Nx, sv_For, gv_N, bind_ok, lift_some, nox_ok1, tb_bl, if_true, if_false, Bool.false_eq_true, List.getElem?_cons_succ, List.getElem?_cons_zero, List.set_cons_succ, List.set_cons_zero, Option.some.injEq, Sl.d.injEq, Option.bind_some, runE_rt, runE_nx, Ev_ok, wi_cons, wi_nil, List.replicate, decide_true, decide_false, cfld_dim, nd, t1, e1, o_neg, t2, e2, Int.neg_neg, tup2, Nat.reduceSub]
  have bt := between_eq C.ub C.lb P Q hb hc
  have pr : pair (u, l) = .tup [.int u, .int l] := rfl
  unfold m_fewest_on_line
  rw [run3]
  simp only [ev_V, ev_Op, ev_Un, ev_C, ev_E, ev_And, ev_Or, ev_Not, ev_If, ev_eAnd, ev_eOr, ev_eNot, ev_Fn, ev_Cons, ev_Nil, ev_Call, ev_CallN, ev_Yes, ev_Fld, sv_Seq, sv_If, sv_Ret, sv_Asg, sv_Nx, sv_For, gv_N, bind_ok, lift_some, nox_ok1, tb_bl, if_true, if_false, Bool.false_eq_true, List.getElem?_cons_succ, List.getElem?_cons_zero, List.set_cons_succ, List.set_cons_zero, Option.some.injEq, Sl.d.injEq, Option.bind_some, runE_rt, runE_nx, Ev_ok, wi_cons, wi_nil, List.replicate, decide_true, decide_false, en, Nat.reduceSub]
  rw [pr]
  simp only [ev_V, ev_Op, ev_Un, ev_C, ev_E, ev_And, ev_Or, ev_Not, ev_If, ev_eAnd, ev_eOr, ev_eNot, ev_Fn, ev_Cons, ev_Nil, ev_Call, ev_CallN, ev_Yes, ev_Fld, sv_Seq, sv_If, sv_Ret, sv_Asg, sv_Nx, sv_For, gv_N, bind_ok, lift_some, nox_ok1, tb_bl, if_true, if_false, Bool.false_eq_true, List.getElem?_cons_succ, List.getElem?_cons_zero, List.set_cons_succ, List.set_cons_zero, Option.some.injEq, Sl.d.injEq, Option.bind_some, runE_rt, runE_nx, Ev_ok, wi_cons, wi_nil, List.replicate, decide_true, decide_false, gv_T, gv_Cons, gv_Nil, List.length_cons, List.length_nil, Nat.reduceAdd, bt]
theorem pt_uniq {b c : Nat} {s q g h : Int} (P : Pt b s q) (Q : Pt c g h) (e : g * q = s * h) : (s, q) = (g, h) := by
  have hq := P.pos
  have x := low_uniq (a := s) (b := q) (p := s) (q := q) (by omega) P.pos P.co rfl
  have y := low_uniq (a := s) (b := q) (p := g) (q := h) (by omega) Q.pos Q.co e.symm
  rw [← x, y]
/-- the two places, the second not too far -/
def Near (s q g h : Int) : Prop := g * q - s * h ≤ 150 * (q * h) ∧ s * h - g * q ≤ 150 * (q * h)
omit C in
theorem spec_of {b c : Nat} {s q g h : Int} (P : Pt b s q) (Q : Pt c g h) (nr : Near s q g h) (ne : g * q ≠ s * h) : Spec (u * q * h) (l * q * h) (s * h) (g * q) (ansZ (u * q * h) (l * q * h) (s * h) (g * q)) := by
  refine spec_ans ne (k := 100) (by decide) (by decide) fun hlt => ?_
  have qh : 0 < q * h := Int.mul_pos P.pos Q.pos
  have e1 : u * q * h - l * q * h = (u - l) * (q * h) := by grind
  have e2 : u * q * h = u * (q * h) := by grind
  have e3 : l * q * h = l * (q * h) := by grind
  have lt : l < u := by
    rw [e2, e3] at hlt
    exact Int.lt_of_mul_lt_mul_right hlt (by omega)
  have ge := Int.mul_le_mul_of_nonneg_right (show 1 ≤ u - l by omega) (show 0 ≤ q * h by omega)
  rw [Int.one_mul] at ge
  obtain ⟨n1, n2⟩ := nr
  rw [e1]
  omega
theorem Ln.votes {b c : Nat} {s q g h : Int} (P : Pt b s q) (Q : Pt c g h) (hb : b + 200000000 ≤ N90) (hc : c ≤ N90) (nr : Near s q g h) : m__law_line_votes [.int u, .int l, pair (s, q), pair (g, h), .int 200] = .ok (optD (ansZ (u * q * h) (l * q * h) (s * h) (g * q))) :=
  votes_eq C.ub C.lb P Q hb hc (fun e => by
    (obtain ⟨e1, e2⟩ := Prod.mk.inj e)
    rw [e1, e2]
    exact if_pos rfl) fun ne => spec_of P Q nr fun e => ne (pt_uniq C P Q e)
theorem Ln.lot {b c : Nat} {s q g h : Int} (P : Pt b s q) (Q : Pt c g h) (hb : b + 60000 ≤ N90) (hc : c + 60000 ≤ N90) : ∃ n, m__law_lot [homesD hs, pair (g, h), pair (s, q)] = .ok (lotD n) ∧ (∀ v ∈ n, v < many) ∧ numN n < 2 ^ many ∧
    (g * q ≠ s * h → f (numN n) = decide ((2 * (l * q * h) - s * h < g * q ∧ g * q < s * h) ∨ (s * h < g * q ∧ g * q < 2 * (u * q * h) - s * h))) := by
  obtain ⟨p, hp⟩ : ∃ p : Nat → Bool, p = fun k => decide ((hx hs k * (q * h) - g * q) * (hx hs k * (q * h) - g * q) < (hx hs k * (q * h) - s * h) * (hx hs k * (q * h) - s * h)) := ⟨_, rfl⟩
  have flh : fLen [homesD hs] = some (nat many) := by
    show some (D.int _) = _
    rw [List.length_map, C.H.len]
    rfl
  have hm := C.hm
  have rg : iR1 (aCons (eFn fLen (aCons (eV 0) (aNil))) (aNil)) [.d (homesD hs), .d (pair (g, h)), .d (pair (s, q)), .no] = .ok ((List.range many).map nat) := rg1 (by omega) (by simp only [ev_V, ev_Op, ev_Un, ev_C, ev_E, ev_And, ev_Or, ev_Not, ev_If, ev_eAnd, ev_eOr, ev_eNot, ev_Fn, ev_Cons, ev_Nil, ev_Call, ev_CallN, ev_Yes, ev_Fld, sv_Seq, sv_If, sv_Ret, sv_Asg, sv_Nx, sv_For, gv_N, bind_ok, lift_some, nox_ok1, tb_bl, if_true, if_false, Bool.false_eq_true, List.getElem?_cons_succ, List.getElem?_cons_zero, List.set_cons_succ, List.set_cons_zero, Option.some.injEq, Sl.d.injEq, Option.bind_some, runE_rt, runE_nx, Ev_ok, wi_cons, wi_nil, List.replicate, decide_true, decide_false, flh]; rfl)
  have hc2 : compL (gN 3) (cE (eCallN m__law_nearer (aCons (eOp oIx (eV 0) (eV 3)) (aCons (eV 1) (aCons (eV 2) (aNil)))))) (eV 3) [.d (homesD hs), .d (pair (g, h)), .d (pair (s, q)), .no] ((List.range many).map nat) = .ok ((votP p many).map nat) := by
    refine lc_filter nat p nat _ fun k hk => ⟨_, rfl, ?_, fun _ => rfl⟩
    have hk := List.mem_range.mp hk
    have ix := (home_at C.H C.h1 C.hm (by decide) (by decide) (a := [1]) rfl (fun x hx => by rw [List.mem_singleton.mp hx]; exact n1000s (by decide)) hk).1
    rw [(C.at hk).1] at ix
    have ne := nearer_eq P Q hb hc (C.at hk).2
    simp only [ev_V, ev_Op, ev_Un, ev_C, ev_E, ev_And, ev_Or, ev_Not, ev_If, ev_eAnd, ev_eOr, ev_eNot, ev_Fn, ev_Cons, ev_Nil, ev_Call, ev_CallN, ev_Yes, ev_Fld, sv_Seq, sv_If, sv_Ret, sv_Asg, sv_Nx, sv_For, gv_N, bind_ok, lift_some, nox_ok1, tb_bl, if_true, if_false, Bool.false_eq_true, List.getElem?_cons_succ, List.getElem?_cons_zero, List.set_cons_succ, List.set_cons_zero, Option.some.injEq, Sl.d.injEq, Option.bind_some, runE_rt, runE_nx, Ev_ok, wi_cons, wi_nil, List.replicate, decide_true, decide_false, ix, ne, hp]
  have sb := size_big
  refine ⟨votP p many, ?_, fun v hv => (votP_mem.mp hv).1, numP_lt p many, fun ne => ?_⟩
  · unfold m__law_lot
    rw [run3]
    simp only [ev_V, ev_Op, ev_Un, ev_C, ev_E, ev_And, ev_Or, ev_Not, ev_If, ev_eAnd, ev_eOr, ev_eNot, ev_Fn, ev_Cons, ev_Nil, ev_Call, ev_CallN, ev_Yes, ev_Fld, sv_Seq, sv_If, sv_Ret, sv_Asg, sv_Nx, sv_For, gv_N, bind_ok, lift_some, nox_ok1, tb_bl, if_true, if_false, Bool.false_eq_true, List.getElem?_cons_succ, List.getElem?_cons_zero, List.set_cons_succ, List.set_cons_zero, Option.some.injEq, Sl.d.injEq, Option.bind_some, runE_rt, runE_nx, Ev_ok, wi_cons, wi_nil, List.replicate, decide_true, decide_false, ev_Lc, rg, List.length_map, List.length_range, Nat.reduceSub]
    rw [if_pos (by omega), hc2]
    simp only [ev_V, ev_Op, ev_Un, ev_C, ev_E, ev_And, ev_Or, ev_Not, ev_If, ev_eAnd, ev_eOr, ev_eNot, ev_Fn, ev_Cons, ev_Nil, ev_Call, ev_CallN, ev_Yes, ev_Fld, sv_Seq, sv_If, sv_Ret, sv_Asg, sv_Nx, sv_For, gv_N, bind_ok, lift_some, nox_ok1, tb_bl, if_true, if_false, Bool.false_eq_true, List.getElem?_cons_succ, List.getElem?_cons_zero, List.set_cons_succ, List.set_cons_zero, Option.some.injEq, Sl.d.injEq, Option.bind_some, runE_rt, runE_nx, Ev_ok, wi_cons, wi_nil, List.replicate, decide_true, decide_false, f_tupL]
    rfl
  · have qh : 0 < q * h := Int.mul_pos P.pos Q.pos
    show f (numP p many) = _
    by_cases c1 : s * h < g * q
    · have W := C.up _ (up_lt (s * h + g * q) (2 * (q * h)) (by omega))
      have e : numP (fun k => decide (s * h + g * q < wsOf [1] hs k * (2 * (q * h)))) many = numP p many := numP_congr fun v hv => by
        rw [hp, (C.ws hv).1]
        refine decide_eq_decide.mpr ?_
        rw [near_iff]
        have : hx hs v * (2 * (q * h)) = 2 * (hx hs v * (q * h)) := by grind
        omega
      rw [← e, W]
      refine decide_eq_decide.mpr ?_
      have : u * (2 * (q * h)) = 2 * (u * q * h) := by grind
      omega
    · have W := C.lo _ (up_lt (-(s * h + g * q)) (2 * (q * h)) (by omega))
      have e : numP (fun k => decide (-(s * h + g * q) < wsOf [-1] hs k * (2 * (q * h)))) many = numP p many := numP_congr fun v hv => by
        rw [hp, (C.ws hv).2]
        refine decide_eq_decide.mpr ?_
        rw [near_iff]
        have : -hx hs v * (2 * (q * h)) = -(2 * (hx hs v * (q * h))) := by grind
        omega
      rw [← e, W]
      refine decide_eq_decide.mpr ?_
      have : -l * (2 * (q * h)) = -(2 * (l * q * h)) := by grind
      omega
theorem n_optD (a : Option Int) : oNe (optD a) (optD a) = some (.bl false) := by
  cases a <;> exact n_refl rfl
theorem Ln.asked {b c : Nat} {s q g h : Int} (P : Pt b s q) (Q : Pt c g h) (hb : b + 200000000 ≤ N90) (hc : c + 400000 ≤ N90) (nr : Near s q g h) : m__law_asked [councilD hs r many 1, homesD hs, .lst (bookD f (2 ^ many)), .int u, .int l, pair (s, q), pair (g, h)] = .ok (.bl true) := by
  have ol := C.on_line P Q (by omega) hc
  have lv := C.votes P Q hb (by omega) nr
  obtain ⟨n, el, hn, nlt, ef⟩ := C.lot P Q (by omega) (by omega)
  have num := lnumber_eqT (l := n) fun v hv => by have := hn v hv; have := C.hm; omega
  have tb : oIx (.lst (bookD f (2 ^ many))) (nat (numN n)) = some (.bl (f (numN n))) := ixL (book_at nlt)
  have sp := fun ne => spec_of (u := u) (l := l) P Q nr ne
  have sm0 := fun hle => ans_small (U := u * q * h) (L := l * q * h) (S := s * h) (G := g * q) hle
  have qh : 0 < q * h := Int.mul_pos P.pos Q.pos
  have ule : l < u ∨ u * q * h ≤ l * q * h := by
    by_cases k : l < u
    · exact .inl k
    · refine .inr ?_
      have := Int.mul_le_mul_of_nonneg_right (show u ≤ l by omega) (show 0 ≤ q * h by omega)
      rw [Int.mul_assoc, Int.mul_assoc]
      exact this
  have one := fun ne => spec_one (sp ne) ne
  revert ol lv one
  generalize ha : ansZ (u * q * h) (l * q * h) (s * h) (g * q) = a
  intro ol lv one
  have wh : ∀ i : Int, m__law_whole [.int i] = .ok (.bl true) := fun i => rfl
  have third : (s, q) ≠ (g, h) → decide (a = some 1) = f (numN n) := fun ne => by
    have ne2 : g * q ≠ s * h := fun e => ne (pt_uniq C P Q e)
    rw [ef ne2]
    exact decide_eq_decide.mpr (one ne2)
  have q1 : oEq (optD a) (.int 1) = some (.bl (decide (a = some 1))) := by
    cases a with
    | none => rfl
    | some i =>
      show oEq (.int i) (.int 1) = _
      rw [q_int]
      simp
  have c1 : cOr (cE (eOp oNe (eV 7) (eV 8))) (cAnd (cE (eOp oIsNot (eV 8) (eC .non))) (cNot (cE (eCallN m__law_whole (aCons (eV 7) (aNil)))))) [.d (councilD hs r many 1), .d (homesD hs), .d (.lst (bookD f (2 ^ many))), .d (.int u), .d (.int l), .d (pair (s, q)), .d (pair (g, h)), .d (optD a), .d (optD a)] = .ok false := by
    simp only [ev_V, ev_Op, ev_Un, ev_C, ev_E, ev_And, ev_Or, ev_Not, ev_If, ev_eAnd, ev_eOr, ev_eNot, ev_Fn, ev_Cons, ev_Nil, ev_Call, ev_CallN, ev_Yes, ev_Fld, sv_Seq, sv_If, sv_Ret, sv_Asg, sv_Nx, sv_For, gv_N, bind_ok, lift_some, nox_ok1, tb_bl, if_true, if_false, Bool.false_eq_true, List.getElem?_cons_succ, List.getElem?_cons_zero, List.set_cons_succ, List.set_cons_zero, Option.some.injEq, Sl.d.injEq, Option.bind_some, runE_rt, runE_nx, Ev_ok, wi_cons, wi_nil, List.replicate, decide_true, decide_false, n_optD C]
    cases a with
    | none => rfl
    | some i =>
      have k1 : optD (some i) = .int i := rfl
      have k2 : oIsNot (.int i) .non = some (.bl true) := rfl
      simp only [ev_V, ev_Op, ev_Un, ev_C, ev_E, ev_And, ev_Or, ev_Not, ev_If, ev_eAnd, ev_eOr, ev_eNot, ev_Fn, ev_Cons, ev_Nil, ev_Call, ev_CallN, ev_Yes, ev_Fld, sv_Seq, sv_If, sv_Ret, sv_Asg, sv_Nx, sv_For, gv_N, bind_ok, lift_some, nox_ok1, tb_bl, if_true, if_false, Bool.false_eq_true, List.getElem?_cons_succ, List.getElem?_cons_zero, List.set_cons_succ, List.set_cons_zero, Option.some.injEq, Sl.d.injEq, Option.bind_some, runE_rt, runE_nx, Ev_ok, wi_cons, wi_nil, List.replicate, decide_true, decide_false, k1, k2, wh, Bool.not_true]
  have c2 : cAnd (cE (eOp oNe (eV 5) (eV 6))) (cE (eOp oNe (eOp oEq (eV 8) (eC (.int 1))) (eOp oIx (eV 2) (eCallN m__law_number (aCons (eCallN m__law_lot (aCons (eV 1) (aCons (eV 6) (aCons (eV 5) (aNil))))) (aNil)))))) [.d (councilD hs r many 1), .d (homesD hs), .d (.lst (bookD f (2 ^ many))), .d (.int u), .d (.int l), .d (pair (s, q)), .d (pair (g, h)), .d (optD a), .d (optD a)] = .ok false := by
    simp only [ev_V, ev_Op, ev_Un, ev_C, ev_E, ev_And, ev_Or, ev_Not, ev_If, ev_eAnd, ev_eOr, ev_eNot, ev_Fn, ev_Cons, ev_Nil, ev_Call, ev_CallN, ev_Yes, ev_Fld, sv_Seq, sv_If, sv_Ret, sv_Asg, sv_Nx, sv_For, gv_N, bind_ok, lift_some, nox_ok1, tb_bl, if_true, if_false, Bool.false_eq_true, List.getElem?_cons_succ, List.getElem?_cons_zero, List.set_cons_succ, List.set_cons_zero, Option.some.injEq, Sl.d.injEq, Option.bind_some, runE_rt, runE_nx, Ev_ok, wi_cons, wi_nil, List.replicate, decide_true, decide_false, n_pair]
    by_cases z : (s, q) = (g, h)
    · rw [decide_eq_true z]
      simp only [ev_V, ev_Op, ev_Un, ev_C, ev_E, ev_And, ev_Or, ev_Not, ev_If, ev_eAnd, ev_eOr, ev_eNot, ev_Fn, ev_Cons, ev_Nil, ev_Call, ev_CallN, ev_Yes, ev_Fld, sv_Seq, sv_If, sv_Ret, sv_Asg, sv_Nx, sv_For, gv_N, bind_ok, lift_some, nox_ok1, tb_bl, if_true, if_false, Bool.false_eq_true, List.getElem?_cons_succ, List.getElem?_cons_zero, List.set_cons_succ, List.set_cons_zero, Option.some.injEq, Sl.d.injEq, Option.bind_some, runE_rt, runE_nx, Ev_ok, wi_cons, wi_nil, List.replicate, decide_true, decide_false, Bool.not_true]
    · rw [decide_eq_false z]
      simp only [ev_V, ev_Op, ev_Un, ev_C, ev_E, ev_And, ev_Or, ev_Not, ev_If, ev_eAnd, ev_eOr, ev_eNot, ev_Fn, ev_Cons, ev_Nil, ev_Call, ev_CallN, ev_Yes, ev_Fld, sv_Seq, sv_If, sv_Ret, sv_Asg, sv_Nx, sv_For, gv_N, bind_ok, lift_some, nox_ok1, tb_bl, if_true, if_false, Bool.false_eq_true, List.getElem?_cons_succ, List.getElem?_cons_zero, List.set_cons_succ, List.set_cons_zero, Option.some.injEq, Sl.d.injEq, Option.bind_some, runE_rt, runE_nx, Ev_ok, wi_cons, wi_nil, List.replicate, decide_true, decide_false, Bool.not_false, q1, el, num, tb, n_bl, third z, Bool.not_true]
  have c3 : eOr (eOp oGt (eV 3) (eV 4)) (eOr (eOp oIs (eV 8) (eC .non)) (eOp oLt (eV 8) (eC (.int 2)))) [.d (councilD hs r many 1), .d (homesD hs), .d (.lst (bookD f (2 ^ many))), .d (.int u), .d (.int l), .d (pair (s, q)), .d (pair (g, h)), .d (optD a), .d (optD a)] = .ok (.bl true) := by
    simp only [ev_V, ev_Op, ev_Un, ev_C, ev_E, ev_And, ev_Or, ev_Not, ev_If, ev_eAnd, ev_eOr, ev_eNot, ev_Fn, ev_Cons, ev_Nil, ev_Call, ev_CallN, ev_Yes, ev_Fld, sv_Seq, sv_If, sv_Ret, sv_Asg, sv_Nx, sv_For, gv_N, bind_ok, lift_some, nox_ok1, tb_bl, if_true, if_false, Bool.false_eq_true, List.getElem?_cons_succ, List.getElem?_cons_zero, List.set_cons_succ, List.set_cons_zero, Option.some.injEq, Sl.d.injEq, Option.bind_some, runE_rt, runE_nx, Ev_ok, wi_cons, wi_nil, List.replicate, decide_true, decide_false, o_gt]
    rcases ule with k | k
    · rw [decide_eq_true k]
      simp only [ev_V, ev_Op, ev_Un, ev_C, ev_E, ev_And, ev_Or, ev_Not, ev_If, ev_eAnd, ev_eOr, ev_eNot, ev_Fn, ev_Cons, ev_Nil, ev_Call, ev_CallN, ev_Yes, ev_Fld, sv_Seq, sv_If, sv_Ret, sv_Asg, sv_Nx, sv_For, gv_N, bind_ok, lift_some, nox_ok1, tb_bl, if_true, if_false, Bool.false_eq_true, List.getElem?_cons_succ, List.getElem?_cons_zero, List.set_cons_succ, List.set_cons_zero, Option.some.injEq, Sl.d.injEq, Option.bind_some, runE_rt, runE_nx, Ev_ok, wi_cons, wi_nil, List.replicate, decide_true, decide_false]
    · by_cases z : l < u
      · rw [decide_eq_true z]
        simp only [ev_V, ev_Op, ev_Un, ev_C, ev_E, ev_And, ev_Or, ev_Not, ev_If, ev_eAnd, ev_eOr, ev_eNot, ev_Fn, ev_Cons, ev_Nil, ev_Call, ev_CallN, ev_Yes, ev_Fld, sv_Seq, sv_If, sv_Ret, sv_Asg, sv_Nx, sv_For, gv_N, bind_ok, lift_some, nox_ok1, tb_bl, if_true, if_false, Bool.false_eq_true, List.getElem?_cons_succ, List.getElem?_cons_zero, List.set_cons_succ, List.set_cons_zero, Option.some.injEq, Sl.d.injEq, Option.bind_some, runE_rt, runE_nx, Ev_ok, wi_cons, wi_nil, List.replicate, decide_true, decide_false]
      · rw [decide_eq_false z]
        have := sm0 k
        rw [ha] at this
        rcases this with h | h | h <;> rw [h] <;> rfl
  unfold m__law_asked
  rw [run7]
  refine step (ρ' := [.d (councilD hs r many 1), .d (homesD hs), .d (.lst (bookD f (2 ^ many))), .d (.int u), .d (.int l), .d (pair (s, q)), .d (pair (g, h)), .d (optD a), .no]) ?_ ?_
  · simp only [ev_V, ev_Op, ev_Un, ev_C, ev_E, ev_And, ev_Or, ev_Not, ev_If, ev_eAnd, ev_eOr, ev_eNot, ev_Fn, ev_Cons, ev_Nil, ev_Call, ev_CallN, ev_Yes, ev_Fld, sv_Seq, sv_If, sv_Ret, sv_Asg, sv_Nx, sv_For, gv_N, bind_ok, lift_some, nox_ok1, tb_bl, if_true, if_false, Bool.false_eq_true, List.getElem?_cons_succ, List.getElem?_cons_zero, List.set_cons_succ, List.set_cons_zero, Option.some.injEq, Sl.d.injEq, Option.bind_some, runE_rt, runE_nx, Ev_ok, wi_cons, wi_nil, List.replicate, decide_true, decide_false, ol, Nat.reduceSub]
  refine step (ρ' := [.d (councilD hs r many 1), .d (homesD hs), .d (.lst (bookD f (2 ^ many))), .d (.int u), .d (.int l), .d (pair (s, q)), .d (pair (g, h)), .d (optD a), .d (optD a)]) ?_ ?_
  · simp only [ev_V, ev_Op, ev_Un, ev_C, ev_E, ev_And, ev_Or, ev_Not, ev_If, ev_eAnd, ev_eOr, ev_eNot, ev_Fn, ev_Cons, ev_Nil, ev_Call, ev_CallN, ev_Yes, ev_Fld, sv_Seq, sv_If, sv_Ret, sv_Asg, sv_Nx, sv_For, gv_N, bind_ok, lift_some, nox_ok1, tb_bl, if_true, if_false, Bool.false_eq_true, List.getElem?_cons_succ, List.getElem?_cons_zero, List.set_cons_succ, List.set_cons_zero, Option.some.injEq, Sl.d.injEq, Option.bind_some, runE_rt, runE_nx, Ev_ok, wi_cons, wi_nil, List.replicate, decide_true, decide_false, lv]
  refine step (ρ' := [.d (councilD hs r many 1), .d (homesD hs), .d (.lst (bookD f (2 ^ many))), .d (.int u), .d (.int l), .d (pair (s, q)), .d (pair (g, h)), .d (optD a), .d (optD a)]) (by rw [sv_If, c1]; rfl) ?_
  refine step (ρ' := [.d (councilD hs r many 1), .d (homesD hs), .d (.lst (bookD f (2 ^ many))), .d (.int u), .d (.int l), .d (pair (s, q)), .d (pair (g, h)), .d (optD a), .d (optD a)]) (by rw [sv_If, c2]; rfl) ?_
  rw [sv_Ret, c3]
  rfl
end
end L2.DL.MM
/-! goals further out; the plane -/
namespace L2.DL.MM
open PySem PyProof.Rows PySem.Spec
def N33 : Nat := 10 ^ 33
theorem n_far : 1000000 + N33 * 1000 + 400000 ≤ N90 := by decide +kernel
theorem n_mid : 1000000 + 200000000 ≤ N90 := by decide +kernel
section
variable {hs : List (List Int)} {many : Nat} {f : Nat → Bool} {r : D} {u l : Int} (C : Ln hs many f r u l)
include C
theorem Ln.far {s q g h st : Int} (P : Pt 1000000 s q) (Q : Pt 1000000 g h) (nr : Near s q g h) (s0 : 0 ≤ st) (s1 : st.natAbs ≤ 10 ^ 30) : m__law_far [councilD hs r many 1, .int u, .int l, pair (s, q), pair (g, h), .int st] = .ok (.bl true) := by
  have lv := C.votes P Q n_mid (Nat.le_trans (by decide) n_mid) nr
  have qh : 0 < q * h := Int.mul_pos P.pos Q.pos
  have sp := fun ne => spec_of (u := u) (l := l) P Q nr ne
  generalize ha : ansZ (u * q * h) (l * q * h) (s * h) (g * q) = a at lv sp
  have small : a = none → oIs (optD a) .non = some (.bl true) := fun e => by rw [e]; rfl
  unfold m__law_far
  rw [run6]
  refine step (ρ' := [.d (councilD hs r many 1), .d (.int u), .d (.int l), .d (pair (s, q)), .d (pair (g, h)), .d (.int st), .d (optD a), .no, .no]) ?_ ?_
  · simp only [ev_V, ev_Op, ev_Un, ev_C, ev_E, ev_And, ev_Or, ev_Not, ev_If, ev_eAnd, ev_eOr, ev_eNot, ev_Fn, ev_Cons, ev_Nil, ev_Call, ev_CallN, ev_Yes, ev_Fld, sv_Seq, sv_If, sv_Ret, sv_Asg, sv_Nx, sv_For, gv_N, bind_ok, lift_some, nox_ok1, tb_bl, if_true, if_false, Bool.false_eq_true, List.getElem?_cons_succ, List.getElem?_cons_zero, List.set_cons_succ, List.set_cons_zero, Option.some.injEq, Sl.d.injEq, Option.bind_some, runE_rt, runE_nx, Ev_ok, wi_cons, wi_nil, List.replicate, decide_true, decide_false, lv, Nat.reduceSub]
  by_cases c1 : u ≤ l
  · simp only [ev_V, ev_Op, ev_Un, ev_C, ev_E, ev_And, ev_Or, ev_Not, ev_If, ev_eAnd, ev_eOr, ev_eNot, ev_Fn, ev_Cons, ev_Nil, ev_Call, ev_CallN, ev_Yes, ev_Fld, sv_Seq, sv_If, sv_Ret, sv_Asg, sv_Nx, sv_For, gv_N, bind_ok, lift_some, nox_ok1, tb_bl, if_true, if_false, Bool.false_eq_true, List.getElem?_cons_succ, List.getElem?_cons_zero, List.set_cons_succ, List.set_cons_zero, Option.some.injEq, Sl.d.injEq, Option.bind_some, runE_rt, runE_nx, Ev_ok, wi_cons, wi_nil, List.replicate, decide_true, decide_false, o_le, c1]
  cases a with
  | none =>
    have k1 : oIs (optD none) .non = some (.bl true) := rfl
    simp only [ev_V, ev_Op, ev_Un, ev_C, ev_E, ev_And, ev_Or, ev_Not, ev_If, ev_eAnd, ev_eOr, ev_eNot, ev_Fn, ev_Cons, ev_Nil, ev_Call, ev_CallN, ev_Yes, ev_Fld, sv_Seq, sv_If, sv_Ret, sv_Asg, sv_Nx, sv_For, gv_N, bind_ok, lift_some, nox_ok1, tb_bl, if_true, if_false, Bool.false_eq_true, List.getElem?_cons_succ, List.getElem?_cons_zero, List.set_cons_succ, List.set_cons_zero, Option.some.injEq, Sl.d.injEq, Option.bind_some, runE_rt, runE_nx, Ev_ok, wi_cons, wi_nil, List.replicate, decide_true, decide_false, o_le, c1, k1]
  | some Pz =>
    have k0 : optD (some Pz) = .int Pz := rfl
    have k1 : oIs (.int Pz) .non = some (.bl false) := rfl
    by_cases c2 : Pz < 2
    · simp only [ev_V, ev_Op, ev_Un, ev_C, ev_E, ev_And, ev_Or, ev_Not, ev_If, ev_eAnd, ev_eOr, ev_eNot, ev_Fn, ev_Cons, ev_Nil, ev_Call, ev_CallN, ev_Yes, ev_Fld, sv_Seq, sv_If, sv_Ret, sv_Asg, sv_Nx, sv_For, gv_N, bind_ok, lift_some, nox_ok1, tb_bl, if_true, if_false, Bool.false_eq_true, List.getElem?_cons_succ, List.getElem?_cons_zero, List.set_cons_succ, List.set_cons_zero, Option.some.injEq, Sl.d.injEq, Option.bind_some, runE_rt, runE_nx, Ev_ok, wi_cons, wi_nil, List.replicate, decide_true, decide_false, o_le, c1, k0, k1, o_lt, c2]
    have ne : g * q ≠ s * h := fun e => by
      unfold ansZ at ha
      rw [if_pos e] at ha
      have := Option.some.inj ha
      omega
    have sg := sgn_pts Q P (Nat.le_trans (by decide) n_mid) (Nat.le_trans (by decide) n_mid)
    obtain ⟨e, he⟩ : ∃ e : Int, e = cmpI (g * q) (s * h) := ⟨_, rfl⟩
    rw [← he] at sg
    have ev : e = (if s * h < g * q then 1 else -1) := by
      rw [he]
      unfold cmpI
      by_cases z : g * q < s * h
      · rw [if_pos z, if_neg (by omega)]
      · rw [if_neg z, if_pos (by omega), if_pos (by omega)]
    have eb : e.natAbs ≤ 1 := by rw [ev]; split <;> decide
    have m1 : oMul (.int e) (.int 2) = some (.int (e * 2)) := o_mulS (sml (by omega)) (sml (by decide))
    have b2 := ab (a := e * 2) (b := st) (m := 2) (by omega) s1
    have m2 : oMul (.int (e * 2)) (.int st) = some (.int (e * 2 * st)) := o_mulS (sml (by omega)) (sm90 (Nat.le_trans s1 (by decide +kernel)))
    have uul : (u - l).natAbs ≤ 120 := by have := C.ub; have := C.lb; omega
    have b3 := ab (a := e * 2 * st) (b := u - l) b2 uul
    have m3 : oMul (.int (e * 2 * st)) (.int (u - l)) = some (.int (e * 2 * st * (u - l))) := o_mulS (sm90 (Nat.le_trans b2 (by decide +kernel))) (sml (by omega))
    have b4 : (e * 2 * st * (u - l)).natAbs ≤ N33 := Nat.le_trans b3 (by decide +kernel)
    have pl := plus_eq (k := e * 2 * st * (u - l)) Q (Nat.le_trans (by decide) n_mid) (Nat.le_trans b4 (by decide +kernel))
    have Q' := shift_pt Q b4
    have ol := C.on_line P Q' (Nat.le_trans (by decide) n_mid) n_far
    have far := ans_far (U := u * q * h) (L := l * q * h) (S := s * h) (G := g * q) (P := Pz) (k := st) (by
      have := Int.mul_lt_mul_of_pos_right (show l < u by omega) qh
      rw [Int.mul_assoc, Int.mul_assoc]
      exact this) ne ha (by omega) s0
    have eg : (g + e * 2 * st * (u - l) * h) * q = g * q + (if s * h < g * q then 1 else -1) * (st * (2 * (u * q * h - l * q * h))) := by
      rw [← ev]
      grind
    rw [eg, far] at ol
    have m5 : oMul (.int 2) (.int st) = some (.int (2 * st)) := o_mulS (sml (by decide)) (sm90 (Nat.le_trans s1 (by decide +kernel)))
    refine step (ρ' := [.d (councilD hs r many 1), .d (.int u), .d (.int l), .d (pair (s, q)), .d (pair (g, h)), .d (.int st), .d (.int Pz), .no, .no]) ?_ ?_
    · simp only [ev_V, ev_Op, ev_Un, ev_C, ev_E, ev_And, ev_Or, ev_Not, ev_If, ev_eAnd, ev_eOr, ev_eNot, ev_Fn, ev_Cons, ev_Nil, ev_Call, ev_CallN, ev_Yes, ev_Fld, sv_Seq, sv_If, sv_Ret, sv_Asg, sv_Nx, sv_For, gv_N, bind_ok, lift_some, nox_ok1, tb_bl, if_true, if_false, Bool.false_eq_true, List.getElem?_cons_succ, List.getElem?_cons_zero, List.set_cons_succ, List.set_cons_zero, Option.some.injEq, Sl.d.injEq, Option.bind_some, runE_rt, runE_nx, Ev_ok, wi_cons, wi_nil, List.replicate, decide_true, decide_false, o_le, c1, k0, k1, o_lt, c2]
    refine step (ρ' := [.d (councilD hs r many 1), .d (.int u), .d (.int l), .d (pair (s, q)), .d (pair (g, h)), .d (.int st), .d (.int Pz), .d (.int e), .no]) ?_ ?_
    · simp only [ev_V, ev_Op, ev_Un, ev_C, ev_E, ev_And, ev_Or, ev_Not, ev_If, ev_eAnd, ev_eOr, ev_eNot, ev_Fn, ev_Cons, ev_Nil, ev_Call, ev_CallN, ev_Yes, ev_Fld, sv_Seq, sv_If, sv_Ret, sv_Asg, sv_Nx, sv_For, gv_N, bind_ok, lift_some, nox_ok1, tb_bl, if_true, if_false, Bool.false_eq_true, List.getElem?_cons_succ, List.getElem?_cons_zero, List.set_cons_succ, List.set_cons_zero, Option.some.injEq, Sl.d.injEq, Option.bind_some, runE_rt, runE_nx, Ev_ok, wi_cons, wi_nil, List.replicate, decide_true, decide_false, sg]
    refine step (ρ' := [.d (councilD hs r many 1), .d (.int u), .d (.int l), .d (pair (s, q)), .d (pair (g, h)), .d (.int st), .d (.int Pz), .d (.int e), .d (pair (g + e * 2 * st * (u - l) * h, h))]) ?_ ?_
    · simp only [ev_V, ev_Op, ev_Un, ev_C, ev_E, ev_And, ev_Or, ev_Not, ev_If, ev_eAnd, ev_eOr, ev_eNot, ev_Fn, ev_Cons, ev_Nil, ev_Call, ev_CallN, ev_Yes, ev_Fld, sv_Seq, sv_If, sv_Ret, sv_Asg, sv_Nx, sv_For, gv_N, bind_ok, lift_some, nox_ok1, tb_bl, if_true, if_false, Bool.false_eq_true, List.getElem?_cons_succ, List.getElem?_cons_zero, List.set_cons_succ, List.set_cons_zero, Option.some.injEq, Sl.d.injEq, Option.bind_some, runE_rt, runE_nx, Ev_ok, wi_cons, wi_nil, List.replicate, decide_true, decide_false, m1, m2, m3, o_sub, tup2, pl]
    simp only [ev_V, ev_Op, ev_Un, ev_C, ev_E, ev_And, ev_Or, ev_Not, ev_If, ev_eAnd, ev_eOr, ev_eNot, ev_Fn, ev_Cons, ev_Nil, ev_Call, ev_CallN, ev_Yes, ev_Fld, sv_Seq, sv_If, sv_Ret, sv_Asg, sv_Nx, sv_For, gv_N, bind_ok, lift_some, nox_ok1, tb_bl, if_true, if_false, Bool.false_eq_true, List.getElem?_cons_succ, List.getElem?_cons_zero, List.set_cons_succ, List.set_cons_zero, Option.some.injEq, Sl.d.injEq, Option.bind_some, runE_rt, runE_nx, Ev_ok, wi_cons, wi_nil, List.replicate, decide_true, decide_false, ol, m5, o_add]
    show (((lift (oEq (.int (Pz + 2 * st)) (.int (Pz + 2 * st)))).bind _).bind runE) = _
    rw [q_int, decide_eq_true rfl]
    rfl
omit C
theorem wrong_eq {pt : D} : m__law_wrong [councilD hs r many 2, pt] = .ok (.bl true) := by
  have nd : oNe (nat 2) (.int 1) = some (.bl true) := rfl
  have en : m_ends_of [councilD hs r many 2] = .ex 14 [("dimension", nat 2)] := by
    unfold m_ends_of
    rw [run1]
    simp only [ev_V, ev_Op, ev_Un, ev_C, ev_E, ev_And, ev_Or, ev_Not, ev_If, ev_eAnd, ev_eOr, ev_eNot, ev_Fn, ev_Cons, ev_Nil, ev_Call, ev_CallN, ev_Yes, ev_Fld, sv_Seq, sv_If, sv_Ret, sv_Asg, sv_Nx, sv_For, gv_N, bind_ok, lift_some, nox_ok1, tb_bl, if_true, if_false, Bool.false_eq_true, List.getElem?_cons_succ, List.getElem?_cons_zero, List.set_cons_succ, List.set_cons_zero, Option.some.injEq, Sl.d.injEq, Option.bind_some, runE_rt, runE_nx, Ev_ok, wi_cons, wi_nil, List.replicate, decide_true, decide_false, cfld_dim, nd, sv_Raise]
    rfl
  have fl : m_fewest_on_line [councilD hs r many 2, pt, pt] = .ex 14 [("dimension", nat 2)] := by
    unfold m_fewest_on_line
    rw [run3]
    simp only [ev_V, ev_Op, ev_Un, ev_C, ev_E, ev_And, ev_Or, ev_Not, ev_If, ev_eAnd, ev_eOr, ev_eNot, ev_Fn, ev_Cons, ev_Nil, ev_Call, ev_CallN, ev_Yes, ev_Fld, sv_Seq, sv_If, sv_Ret, sv_Asg, sv_Nx, sv_For, gv_N, bind_ok, lift_some, nox_ok1, tb_bl, if_true, if_false, Bool.false_eq_true, List.getElem?_cons_succ, List.getElem?_cons_zero, List.set_cons_succ, List.set_cons_zero, Option.some.injEq, Sl.d.injEq, Option.bind_some, runE_rt, runE_nx, Ev_ok, wi_cons, wi_nil, List.replicate, decide_true, decide_false, en, bind_ex]
  have q2 : oEq (nat 2) (nat 2) = some (.bl true) := rfl
  have x1 : cm_CalmError 14 = some true := rfl
  have x2 : eXi is_WrongDimension 14 = eC (.bl true) := rfl
  unfold m__law_wrong
  rw [run2, sv_Seq]
  unfold sTry
  simp only [ev_Call, ev_V, ev_Op, ev_Un, ev_C, ev_E, ev_And, ev_Or, ev_Not, ev_If, ev_eAnd, ev_eOr, ev_eNot, ev_Fn, ev_Cons, ev_Nil, ev_Call, ev_CallN, ev_Yes, ev_Fld, sv_Seq, sv_If, sv_Ret, sv_Asg, sv_Nx, sv_For, gv_N, bind_ok, lift_some, nox_ok1, tb_bl, if_true, if_false, Bool.false_eq_true, List.getElem?_cons_succ, List.getElem?_cons_zero, List.set_cons_succ, List.set_cons_zero, Option.some.injEq, Sl.d.injEq, Option.bind_some, runE_rt, runE_nx, Ev_ok, wi_cons, wi_nil, List.replicate, decide_true, decide_false, fl, Nat.reduceSub, List.length_cons, List.length_nil, Nat.reduceAdd, Nat.reduceLT, x1, x2]
  have x3 : ∀ ρ : List Sl, eXf xf_dimension 14 [("dimension", nat 2)] "dimension" ρ = .ok (nat 2) := fun ρ => rfl
  simp only [ev_V, ev_Op, ev_Un, ev_C, ev_E, ev_And, ev_Or, ev_Not, ev_If, ev_eAnd, ev_eOr, ev_eNot, ev_Fn, ev_Cons, ev_Nil, ev_Call, ev_CallN, ev_Yes, ev_Fld, sv_Seq, sv_If, sv_Ret, sv_Asg, sv_Nx, sv_For, gv_N, bind_ok, lift_some, nox_ok1, tb_bl, if_true, if_false, Bool.false_eq_true, List.getElem?_cons_succ, List.getElem?_cons_zero, List.set_cons_succ, List.set_cons_zero, Option.some.injEq, Sl.d.injEq, Option.bind_some, runE_rt, runE_nx, Ev_ok, wi_cons, wi_nil, List.replicate, decide_true, decide_false, x3, cfld_dim, q2]
end
end L2.DL.MM
/-! a drawn council on a line -/
namespace L2.DL.MM
open PySem PyProof.Rows PySem.Spec
theorem cell_at (ns : List Int) {k : Nat} (hk : k ≤ 1000) : ∃ c, m__law_cell [script ns, nat k] = .ok (.int c) := cell_eq ns k hk
theorem copy_eq (n : Nat) (hn : n ≤ 1000000) {ρ : List Sl} {src : MI} {i : Nat} {l : List Nat} (hl : l.length ≤ 1000000) (hs : src ρ = .ok (l.map nat)) (hi : i < ρ.length) : eFn fTup (aCons (eLc src [i] (gN i) (cYes) (eV i)) (aNil)) ρ = .ok (lotD l) := by
  have sb := size_big
  have hc : compL (gN i) cYes (eV i) (ρ.set i .no) (l.map nat) = .ok (l.map nat) := by
    refine lc_map nat nat _ fun k _ => ⟨_, rfl, ?_⟩
    rw [ev_V i (d := nat k)]
    rw [List.getElem?_set_self (by simpa using hi)]
  rw [ev_Fn, ev_Cons, ev_Lc, hs]
  simp only [bind_ok, wi_cons, wi_nil, List.length_map]
  rw [if_pos (by omega), hc]
  simp only [ev_V, ev_Op, ev_Un, ev_C, ev_E, ev_And, ev_Or, ev_Not, ev_If, ev_eAnd, ev_eOr, ev_eNot, ev_Fn, ev_Cons, ev_Nil, ev_Call, ev_CallN, ev_Yes, ev_Fld, sv_Seq, sv_If, sv_Ret, sv_Asg, sv_Nx, sv_For, gv_N, bind_ok, lift_some, nox_ok1, tb_bl, if_true, if_false, Bool.false_eq_true, List.getElem?_cons_succ, List.getElem?_cons_zero, List.set_cons_succ, List.set_cons_zero, Option.some.injEq, Sl.d.injEq, Option.bind_some, runE_rt, runE_nx, Ev_ok, wi_cons, wi_nil, List.replicate, decide_true, decide_false, f_tupL]
  rfl
def LineD (d : D) : Prop := ∃ (hs : List (List Int)) (many : Nat) (w : Wd), d = .lst [homesD hs, w.D many, .lst (bookD (w.f many) (2 ^ many))] ∧ Hs hs many 1 60 ∧ 1 ≤ many ∧ many ≤ 9 ∧ w.Ok many ∧ w.dep ≤ 1
theorem council_line (ns : List Int) (at0 : Nat) (hat : at0 ≤ 900) : ∃ d, m__law_line_council [script ns, nat at0] = .ok d ∧ LineD d := by
  suffices main : Ev (m__law_line_council [script ns, nat at0]) LineD from main.get
  have sb := size_big
  obtain ⟨c0, ec0⟩ := cell_at ns (k := at0) (by omega)
  obtain ⟨c1, ec1⟩ := cell_at ns (k := at0 + 1) (by omega)
  obtain ⟨c2, ec2⟩ := cell_at ns (k := at0 + 2) (by omega)
  obtain ⟨row, ft, er⟩ := digits_eq c0 [8, 2, 3] (by decide) (by unfold sizesOk; decide)
  obtain ⟨row2, ft2, er2⟩ := digits_eq c1 wordSizes (by decide) (by unfold sizesOk; decide)
  obtain ⟨row3, ft3, er3⟩ := digits_eq c2 [8, 121, 121, 121, 121, 121, 121, 121, 121, 121] (by decide) (by unfold sizesOk; decide)
  obtain ⟨r0, x0, l0, u0⟩ := ft.at (i := 0) (s := 8) rfl
  obtain ⟨r1, x1, l1, u1⟩ := ft.at (i := 1) (s := 2) rfl
  obtain ⟨r2, x2, l2, u2⟩ := ft.at (i := 2) (s := 3) rfl
  have at0' : oIx (lstI row) (.int 0) = some (.int r0) := ixR (i := 0) x0
  have at1' : oIx (lstI row) (.int 1) = some (.int r1) := ixR (i := 1) x1
  have at2' : oIx (lstI row) (.int 2) = some (.int r2) := ixR (i := 2) x2
  obtain ⟨many, em, m1, m9⟩ : ∃ many : Nat, oIx (.lst [.int 3, .int 4, .int 2, .int 5, .int 1, .int 6, .int 7, .int 9]) (.int r0) = some (nat many) ∧ 1 ≤ many ∧ many ≤ 9 := by
    rcases (show r0 = 0 ∨ r0 = 1 ∨ r0 = 2 ∨ r0 = 3 ∨ r0 = 4 ∨ r0 = 5 ∨ r0 = 6 ∨ r0 = 7 by omega) with h | h | h | h | h | h | h | h <;> subst h
    · exact ⟨3, rfl, by decide, by decide⟩
    · exact ⟨4, rfl, by decide, by decide⟩
    · exact ⟨2, rfl, by decide, by decide⟩
    · exact ⟨5, rfl, by decide, by decide⟩
    · exact ⟨1, rfl, by decide, by decide⟩
    · exact ⟨6, rfl, by decide, by decide⟩
    · exact ⟨7, rfl, by decide, by decide⟩
    · exact ⟨9, rfl, by decide, by decide⟩
  obtain ⟨span, es, s0, s60⟩ : ∃ span : Int, oIx (.lst [.int 12, .int 60, .int 5]) (.int r2) = some (.int span) ∧ 0 ≤ span ∧ span ≤ 60 := by
    rcases (show r2 = 0 ∨ r2 = 1 ∨ r2 = 2 by omega) with h | h | h <;> subst h <;> exact ⟨_, rfl, by decide, by decide⟩
  obtain ⟨w, ew, wo, wd⟩ := words_eq (many := many) m9 m1 ft2
  obtain ⟨q0, y0, _, _⟩ := ft3.at (i := 0) (s := 8) rfl
  obtain ⟨hs, eh, H⟩ := homes_eq (size := 1) m9 m1 (by decide) (by decide) s0 s60 (by have := ft3.len; simp at this; omega) q0 y0
  have a1 : oAdd (nat at0) (.int 1) = some (nat (at0 + 1)) := nat_add at0 1
  have a2 : oAdd (nat at0) (.int 2) = some (nat (at0 + 2)) := nat_add at0 2
  have d1 : m__law_digits [.int c0, .lst [.int 8, .int 2, .int 3]] = .ok (lstI row) := er
  have d2 : m__law_digits [.int c1, lstI wordSizes] = .ok (lstI row2) := er2
  have d3 : m__law_digits [.int c2, .lst [.int 8, .int 121, .int 121, .int 121, .int 121, .int 121, .int 121, .int 121, .int 121, .int 121]] = .ok (lstI row3) := er3
  have k1 : oMul (.lst [.int 31]) (.int 9) = some (.lst [.int 31, .int 31, .int 31, .int 31, .int 31, .int 31, .int 31, .int 31, .int 31]) := rfl
  have k2 : oMul (.lst [.int 512]) (.int 3) = some (.lst [.int 512, .int 512, .int 512]) := rfl
  have k3 : oMul (.lst [.int 121]) (.int 9) = some (.lst [.int 121, .int 121, .int 121, .int 121, .int 121, .int 121, .int 121, .int 121, .int 121]) := rfl
  have lst : ∀ xs : List D, xs.length ≤ 20 → oLst xs = some (.lst xs) := fun xs h => o_lst (by omega)
  have addl : ∀ xs ys : List D, xs.length + ys.length ≤ 20 → oAdd (.lst xs) (.lst ys) = some (.lst (xs ++ ys)) := fun xs ys h => o_addl (by omega)
  have tup : ∀ xs : List D, xs.length ≤ 20 → oTup xs = some (.tup xs) := fun xs h => o_tup (by omega)
  have fin : ∀ (hs' : List (List Int)) (w' : Wd) (a : Sl) (c6 c7 : Sl), Hs hs' many 1 60 → w'.Ok many → w'.dep ≤ 1 → Ev ((sRet (eFn oLst (aCons (eV 5) (aCons (eV 4) (aCons (eCallN m__law_table (aCons (eV 4) (aCons (eV 3) (aNil)))) (aNil))))) [.d (script ns), .d (nat at0), a, .d (nat many), .d (w'.D many), .d (homesD hs'), c6, c7]).bind runE) LineD := fun hs' w' a c6 c7 H' wo' wd' => by
    have tb : m__law_table [w'.D many, nat many] = .ok (.lst (bookD (w'.f many) (2 ^ many))) := table_eq m9 4 w' (by omega) wo'
    refine last_rt (d := .lst [homesD hs', w'.D many, .lst (bookD (w'.f many) (2 ^ many))]) ?_ ⟨hs', many, w', rfl, H', m1, m9, wo', wd'⟩
    simp only [ev_V, ev_Op, ev_Un, ev_C, ev_E, ev_And, ev_Or, ev_Not, ev_If, ev_eAnd, ev_eOr, ev_eNot, ev_Fn, ev_Cons, ev_Nil, ev_Call, ev_CallN, ev_Yes, ev_Fld, sv_Seq, sv_If, sv_Ret, sv_Asg, sv_Nx, sv_For, gv_N, bind_ok, lift_some, nox_ok1, tb_bl, if_true, if_false, Bool.false_eq_true, List.getElem?_cons_succ, List.getElem?_cons_zero, List.set_cons_succ, List.set_cons_zero, Option.some.injEq, Sl.d.injEq, Option.bind_some, runE_rt, runE_nx, Ev_ok, wi_cons, wi_nil, List.replicate, decide_true, decide_false, tb]
    rw [lst _ (by simp)]
    rfl
  unfold m__law_line_council
  rw [run2]
  refine step1 (ρ' := [.d (script ns), .d (nat at0), .d (lstI row), .no, .no, .no, .no, .no]) ?_ ?_
  · simp only [ev_V, ev_Op, ev_Un, ev_C, ev_E, ev_And, ev_Or, ev_Not, ev_If, ev_eAnd, ev_eOr, ev_eNot, ev_Fn, ev_Cons, ev_Nil, ev_Call, ev_CallN, ev_Yes, ev_Fld, sv_Seq, sv_If, sv_Ret, sv_Asg, sv_Nx, sv_For, gv_N, bind_ok, lift_some, nox_ok1, tb_bl, if_true, if_false, Bool.false_eq_true, List.getElem?_cons_succ, List.getElem?_cons_zero, List.set_cons_succ, List.set_cons_zero, Option.some.injEq, Sl.d.injEq, Option.bind_some, runE_rt, runE_nx, Ev_ok, wi_cons, wi_nil, List.replicate, decide_true, decide_false, ec0, lst _ (show [D.int 8, .int 2, .int 3].length ≤ 20 by decide), d1, Nat.reduceSub]
  refine step1 (ρ' := [.d (script ns), .d (nat at0), .d (lstI row), .d (nat many), .no, .no, .no, .no]) ?_ ?_
  · simp only [ev_V, ev_Op, ev_Un, ev_C, ev_E, ev_And, ev_Or, ev_Not, ev_If, ev_eAnd, ev_eOr, ev_eNot, ev_Fn, ev_Cons, ev_Nil, ev_Call, ev_CallN, ev_Yes, ev_Fld, sv_Seq, sv_If, sv_Ret, sv_Asg, sv_Nx, sv_For, gv_N, bind_ok, lift_some, nox_ok1, tb_bl, if_true, if_false, Bool.false_eq_true, List.getElem?_cons_succ, List.getElem?_cons_zero, List.set_cons_succ, List.set_cons_zero, Option.some.injEq, Sl.d.injEq, Option.bind_some, runE_rt, runE_nx, Ev_ok, wi_cons, wi_nil, List.replicate, decide_true, decide_false, lst _ (show [D.int 3, .int 4, .int 2, .int 5, .int 1, .int 6, .int 7, .int 9].length ≤ 20 by decide), at0', em]
  refine step1 (ρ' := [.d (script ns), .d (nat at0), .d (lstI row), .d (nat many), .d (w.D many), .no, .no, .no]) ?_ ?_
  · have ws : oAdd (.lst [.int 12, .int 1000]) (.lst [.int 31, .int 31, .int 31, .int 31, .int 31, .int 31, .int 31, .int 31, .int 31]) = some (.lst ([.int 12, .int 1000] ++ [.int 31, .int 31, .int 31, .int 31, .int 31, .int 31, .int 31, .int 31, .int 31])) := addl _ _ (by decide)
    have ws2 : oAdd (.lst ([.int 12, .int 1000] ++ [.int 31, .int 31, .int 31, .int 31, .int 31, .int 31, .int 31, .int 31, .int 31])) (.lst [.int 512, .int 512, .int 512]) = some (lstI wordSizes) := addl _ _ (by decide)
    simp only [ev_V, ev_Op, ev_Un, ev_C, ev_E, ev_And, ev_Or, ev_Not, ev_If, ev_eAnd, ev_eOr, ev_eNot, ev_Fn, ev_Cons, ev_Nil, ev_Call, ev_CallN, ev_Yes, ev_Fld, sv_Seq, sv_If, sv_Ret, sv_Asg, sv_Nx, sv_For, gv_N, bind_ok, lift_some, nox_ok1, tb_bl, if_true, if_false, Bool.false_eq_true, List.getElem?_cons_succ, List.getElem?_cons_zero, List.set_cons_succ, List.set_cons_zero, Option.some.injEq, Sl.d.injEq, Option.bind_some, runE_rt, runE_nx, Ev_ok, wi_cons, wi_nil, List.replicate, decide_true, decide_false, a1, ec1, lst _ (show [D.int 12, .int 1000].length ≤ 20 by decide), lst _ (show [D.int 31].length ≤ 20 by decide), lst _ (show [D.int 512].length ≤ 20 by decide), k1, k2, ws, ws2, d2, ew]
  refine step1 (ρ' := [.d (script ns), .d (nat at0), .d (lstI row), .d (nat many), .d (w.D many), .d (homesD hs), .no, .no]) ?_ ?_
  · have ws : oAdd (.lst [.int 8]) (.lst [.int 121, .int 121, .int 121, .int 121, .int 121, .int 121, .int 121, .int 121, .int 121]) = some (.lst [.int 8, .int 121, .int 121, .int 121, .int 121, .int 121, .int 121, .int 121, .int 121, .int 121]) := addl _ _ (by decide)
    have eh' : m__law_homes [lstI row3, nat many, .int 1, .int span] = .ok (homesD hs) := eh
    simp only [ev_V, ev_Op, ev_Un, ev_C, ev_E, ev_And, ev_Or, ev_Not, ev_If, ev_eAnd, ev_eOr, ev_eNot, ev_Fn, ev_Cons, ev_Nil, ev_Call, ev_CallN, ev_Yes, ev_Fld, sv_Seq, sv_If, sv_Ret, sv_Asg, sv_Nx, sv_For, gv_N, bind_ok, lift_some, nox_ok1, tb_bl, if_true, if_false, Bool.false_eq_true, List.getElem?_cons_succ, List.getElem?_cons_zero, List.set_cons_succ, List.set_cons_zero, Option.some.injEq, Sl.d.injEq, Option.bind_some, runE_rt, runE_nx, Ev_ok, wi_cons, wi_nil, List.replicate, decide_true, decide_false, a2, ec2, lst _ (show [D.int 8].length ≤ 20 by decide), lst _ (show [D.int 121].length ≤ 20 by decide), lst _ (show [D.int 12, .int 60, .int 5].length ≤ 20 by decide), k3, ws, d3, at2', es, eh']
  have gt : oGt (nat many) (.int 1) = some (.bl (decide (1 < many))) := by
    show some (D.bl (decide ((1 : Int) < (many : Int)))) = _
    congr 2
    (exact decide_eq_decide.mpr (by omega))
  refine stepI (x := decide (r1 = 1) && decide (1 < many)) (by
    simp only [ev_V, ev_Op, ev_Un, ev_C, ev_E, ev_And, ev_Or, ev_Not, ev_If, ev_eAnd, ev_eOr, ev_eNot, ev_Fn, ev_Cons, ev_Nil, ev_Call, ev_CallN, ev_Yes, ev_Fld, sv_Seq, sv_If, sv_Ret, sv_Asg, sv_Nx, sv_For, gv_N, bind_ok, lift_some, nox_ok1, tb_bl, if_true, if_false, Bool.false_eq_true, List.getElem?_cons_succ, List.getElem?_cons_zero, List.set_cons_succ, List.set_cons_zero, Option.some.injEq, Sl.d.injEq, Option.bind_some, runE_rt, runE_nx, Ev_ok, wi_cons, wi_nil, List.replicate, decide_true, decide_false, at1', q_int]
    cases decide (r1 = 1) <;> simp only [ev_V, ev_Op, ev_Un, ev_C, ev_E, ev_And, ev_Or, ev_Not, ev_If, ev_eAnd, ev_eOr, ev_eNot, ev_Fn, ev_Cons, ev_Nil, ev_Call, ev_CallN, ev_Yes, ev_Fld, sv_Seq, sv_If, sv_Ret, sv_Asg, sv_Nx, sv_For, gv_N, bind_ok, lift_some, nox_ok1, tb_bl, if_true, if_false, Bool.false_eq_true, List.getElem?_cons_succ, List.getElem?_cons_zero, List.set_cons_succ, List.set_cons_zero, Option.some.injEq, Sl.d.injEq, Option.bind_some, runE_rt, runE_nx, Ev_ok, wi_cons, wi_nil, List.replicate, decide_true, decide_false, gt, Bool.false_and, Bool.true_and]) (fun hx => ?_) fun _ => step_nx (fin hs w _ _ _ H wo wd)
  obtain ⟨_, hm⟩ := Bool.and_eq_true_iff.mp hx
  have hm := of_decide_eq_true hm
  have f := fmod_in c1 (k := (many : Int) - 1) (by omega)
  obtain ⟨split, hsp⟩ : ∃ split : Nat, (split : Int) = 1 + c1.fmod ((many : Int) - 1) := ⟨(1 + c1.fmod ((many : Int) - 1)).toNat, by omega⟩
  have sp1 : 1 ≤ split := by omega
  have sp2 : split < many := by omega
  have md : oMod (.int c1) (.int ((many : Int) - 1)) = some (.int (c1.fmod ((many : Int) - 1))) := o_mod (by omega)
  have sub : oSub (nat many) (.int 1) = some (.int ((many : Int) - 1)) := rfl
  have add : oAdd (.int 1) (.int (c1.fmod ((many : Int) - 1))) = some (nat split) := by
    rw [o_add, ← hsp]
    rfl
  refine step_asc (step1 (ρ' := [.d (script ns), .d (nat at0), .d (lstI row), .d (nat many), .d (w.D many), .d (homesD hs), .d (nat split), .no]) ?_ ?_)
  · simp only [ev_V, ev_Op, ev_Un, ev_C, ev_E, ev_And, ev_Or, ev_Not, ev_If, ev_eAnd, ev_eOr, ev_eNot, ev_Fn, ev_Cons, ev_Nil, ev_Call, ev_CallN, ev_Yes, ev_Fld, sv_Seq, sv_If, sv_Ret, sv_Asg, sv_Nx, sv_For, gv_N, bind_ok, lift_some, nox_ok1, tb_bl, if_true, if_false, Bool.false_eq_true, List.getElem?_cons_succ, List.getElem?_cons_zero, List.set_cons_succ, List.set_cons_zero, Option.some.injEq, Sl.d.injEq, Option.bind_some, runE_rt, runE_nx, Ev_ok, wi_cons, wi_nil, List.replicate, decide_true, decide_false, a1, ec1, f_intI, sub, md, add]
  obtain ⟨ml, hml⟩ : ∃ m, m = numN (List.range split) := ⟨_, rfl⟩
  obtain ⟨mh, hmh⟩ : ∃ m, m = numN (List.range' split (many - split)) := ⟨_, rfl⟩
  have wok : (Wd.lots [ml, mh]).Ok many := by
    refine ⟨by simp, fun m hmm => ?_, by simp⟩
    have bits : ∀ l : List Nat, l.Nodup → (∀ v ∈ l, v < many) → l ≠ [] → 1 ≤ numN l ∧ numN l < 2 ^ many := fun l hn hl h0 => by
      refine ⟨?_, lt_of_bits fun i hi => by rw [num_bits l hn] at hi; exact hl i (of_decide_eq_true hi)⟩
      cases l with
      | nil => exact absurd rfl h0
      | cons a t =>
        have : (numN (a :: t)).testBit a = true := by rw [num_bits _ hn]; simp
        have := bit_ge this
        have : 0 < 2 ^ a := Nat.pow_pos (by decide)
        omega
    rcases List.mem_cons.mp hmm with h | h
    · rw [h, hml]
      exact bits _ List.nodup_range (fun v hv => by have := List.mem_range.mp hv; omega) (fun e => by
        have := congrArg List.length e
        simp at this
        omega)
    · rw [List.mem_singleton.mp h, hmh]
      exact bits _ List.nodup_range' (fun v hv => by rw [List.mem_range'_1] at hv; omega) (fun e => by
        have := congrArg List.length e
        simp at this
        omega)
  have wD : (Wd.lots [ml, mh]).D many = .tup [.str "lots", .tup [lotD (List.range split), lotD (List.range' split (many - split))]] := by
    show D.tup [.str "lots", .tup [lotD (lotN ml many), lotD (lotN mh many)]] = _
    rw [hml, hmh, lot_lo (by omega), lot_hi (by omega)]
  refine step_asc (step1 (ρ' := [.d (script ns), .d (nat at0), .d (lstI row), .d (nat many), .d ((Wd.lots [ml, mh]).D many), .d (homesD hs), .d (nat split), .no]) ?_ ?_)
  · have cp1 := copy_eq 0 (by omega) (ρ := [.d (script ns), .d (nat at0), .d (lstI row), .d (nat many), .d (w.D many), .d (homesD hs), .d (nat split), .no]) (src := iR1 (aCons (eV 6) (aNil))) (i := 7) (l := List.range split) (by simp; omega) (rg1 (by omega) rfl) (by simp)
    have cp2 := copy_eq 0 (by omega) (ρ := [.d (script ns), .d (nat at0), .d (lstI row), .d (nat many), .d (w.D many), .d (homesD hs), .d (nat split), .no]) (src := iR2 (aCons (eV 6) (aCons (eV 3) (aNil)))) (i := 7) (l := List.range' split (many - split)) (by simp; omega) (rg2 (by omega) (by omega) rfl) (by simp)
    rw [sv_Asg, ev_Fn, ev_Cons, ev_C, ev_Cons, ev_Fn, ev_Cons, cp1, ev_Cons, cp2]
    simp only [ev_V, ev_Op, ev_Un, ev_C, ev_E, ev_And, ev_Or, ev_Not, ev_If, ev_eAnd, ev_eOr, ev_eNot, ev_Fn, ev_Cons, ev_Nil, ev_Call, ev_CallN, ev_Yes, ev_Fld, sv_Seq, sv_If, sv_Ret, sv_Asg, sv_Nx, sv_For, gv_N, bind_ok, lift_some, nox_ok1, tb_bl, if_true, if_false, Bool.false_eq_true, List.getElem?_cons_succ, List.getElem?_cons_zero, List.set_cons_succ, List.set_cons_zero, Option.some.injEq, Sl.d.injEq, Option.bind_some, runE_rt, runE_nx, Ev_ok, wi_cons, wi_nil, List.replicate, decide_true, decide_false, tup _ (show [lotD (List.range split), lotD (List.range' split (many - split))].length ≤ 20 by simp), tup _ (show [D.str "lots", .tup [lotD (List.range split), lotD (List.range' split (many - split))]].length ≤ 20 by simp), wD]
  obtain ⟨hs', eso, H'⟩ := sort_homes H (by decide)
  refine step1 (ρ' := [.d (script ns), .d (nat at0), .d (lstI row), .d (nat many), .d ((Wd.lots [ml, mh]).D many), .d (homesD hs'), .d (nat split), .no]) ?_ (fin hs' _ _ _ _ H' wok (show 0 ≤ 1 by decide))
  have fl : fList [homesD hs] = some (.lst (hs.map tupI)) := rfl
  simp only [ev_V, ev_Op, ev_Un, ev_C, ev_E, ev_And, ev_Or, ev_Not, ev_If, ev_eAnd, ev_eOr, ev_eNot, ev_Fn, ev_Cons, ev_Nil, ev_Call, ev_CallN, ev_Yes, ev_Fld, sv_Seq, sv_If, sv_Ret, sv_Asg, sv_Nx, sv_For, gv_N, bind_ok, lift_some, nox_ok1, tb_bl, if_true, if_false, Bool.false_eq_true, List.getElem?_cons_succ, List.getElem?_cons_zero, List.set_cons_succ, List.set_cons_zero, Option.some.injEq, Sl.d.injEq, Option.bind_some, runE_rt, runE_nx, Ev_ok, wi_cons, wi_nil, List.replicate, decide_true, decide_false, fl, eso, f_tupL]
  rfl
end L2.DL.MM
/-! the law -/
namespace L2.DL.MM
open PySem PyProof.Rows PySem.Spec
theorem pl_near {s q g h : Int} (P : Pl s q) (Q : Pl g h) : Near s q g h := by
  have hq := P.pt.pos
  have hh := Q.pt.pos
  have a1 := Int.mul_le_mul_of_nonneg_right Q.hi (show 0 ≤ q by omega)
  have a2 := Int.mul_le_mul_of_nonneg_right Q.lo (show 0 ≤ q by omega)
  have a3 := Int.mul_le_mul_of_nonneg_right P.hi (show 0 ≤ h by omega)
  have a4 := Int.mul_le_mul_of_nonneg_right P.lo (show 0 ≤ h by omega)
  have qh : 0 < q * h := Int.mul_pos hq hh
  have e1 : 60 * h * q = 60 * (q * h) := by grind
  have e2 : -(60 * h) * q = -(60 * (q * h)) := by grind
  have e3 : 60 * q * h = 60 * (q * h) := by grind
  have e4 : -(60 * q) * h = -(60 * (q * h)) := by grind
  unfold Near
  omega
theorem shift_near {s q k : Int} (hq : 0 < q) (hk : k.natAbs ≤ 68) : Near s q (s + k * q) q := by
  have qq : 0 < q * q := Int.mul_pos hq hq
  have e : (s + k * q) * q - s * q = k * (q * q) := by grind
  have a1 := Int.mul_le_mul_of_nonneg_right (show k ≤ 68 by omega) (show 0 ≤ q * q by omega)
  have a2 := Int.mul_le_mul_of_nonneg_right (show -68 ≤ k by omega) (show 0 ≤ q * q by omega)
  unfold Near
  omega
theorem n_out : 1000000 + 68 * 1000 + 400000 ≤ N90 := by decide +kernel
theorem n_in : 1000000 + 400000 ≤ N90 := by decide +kernel
theorem n_one : 1000000 ≤ N90 := by decide +kernel
theorem gv_U (n : Nat) (hs : MGs) (xs : List D) (ρ : List Sl) : gU n hs (.lst xs) ρ = if xs.length = n then hs xs ρ else none := rfl
theorem p10_9 : oPowD (.int 10) (.int 9) = some (.int 1000000000) := rfl
theorem p10_20 : oPowD (.int 10) (.int 20) = some (.int 100000000000000000000) := rfl
theorem world_eq (ns : List Int) (at0 : Nat) (hat : at0 ≤ 20) : m__law_world [script ns, nat at0] = .ok (.bl true) := by
  suffices main : Ev (m__law_world [script ns, nat at0]) (fun d => d = .bl true) from main.eq
  have sb := size_big
  obtain ⟨d, ed, hs, many, w, rfl, H, m1, m9, wo, wd⟩ := council_line ns at0 (by omega)
  have B := Wd.book wo
  have tup : ∀ xs : List D, xs.length ≤ 20 → oTup xs = some (.tup xs) := fun xs h => o_tup (by omega)
  have lst : ∀ xs : List D, xs.length ≤ 20 → oLst xs = some (.lst xs) := fun xs h => o_lst (by omega)
  obtain ⟨r, er, R⟩ := lrule_eq m9 4 w (by omega) wo
  have er' : m__law_rule [w.D many, nat many] = .ok r := er
  have ec := council_eq H m1 m9 (by decide) (by decide) R
  have flh : fLen [homesD hs] = some (nat many) := by
    show some (D.int _) = _
    rw [List.length_map, H.len]
    rfl
  have smi : ∀ i : Int, i.natAbs ≤ 1 → ∀ x ∈ [i], sm x := fun i hi x hx => by rw [List.mem_singleton.mp hx]; exact sml (by omega)
  obtain ⟨u, eu, Wu, ku, hku, eku⟩ := value_eq (a := [1]) H m1 m9 (by decide) (by decide) rfl (smi 1 (by decide)) B
  obtain ⟨v, ev, Wv, kv, hkv, ekv⟩ := value_eq (a := [-1]) H m1 m9 (by decide) (by decide) rfl (smi (-1) (by decide)) B
  obtain ⟨l, hl⟩ : ∃ l, l = -v := ⟨_, rfl⟩
  have onum : ∀ k, k < many → ∃ x : Int, hs.getD k [] = [x] ∧ x.natAbs ≤ 60 := fun k hk => by
    obtain ⟨h, hh⟩ : ∃ h, hs[k]? = some h := ⟨_, List.getElem?_eq_getElem (by rw [H.len]; omega)⟩
    have e : hs.getD k [] = h := by rw [List.getD_eq_getElem?_getD, hh]; rfl
    obtain ⟨a, b⟩ := H.each h (List.mem_of_getElem? hh)
    match h, a with
    | [x], _ =>
      have := b x (by simp)
      exact ⟨x, e, by omega⟩
  have ub : u.natAbs ≤ 60 := by
    obtain ⟨x, e, hx⟩ := onum ku hku
    rw [eku]
    unfold wsOf dotI
    rw [e]
    simpa using hx
  have lb : l.natAbs ≤ 60 := by
    obtain ⟨x, e, hx⟩ := onum kv hkv
    rw [hl, ekv]
    unfold wsOf dotI
    rw [e]
    simpa using hx
  have C : Ln hs many (w.f many) r u l := ⟨H, m1, m9, R, Wu, by rw [hl, Int.neg_neg]; exact Wv, ub, lb⟩
  obtain ⟨c9, ec9⟩ := cell_at ns (k := at0 + 9) (by omega)
  obtain ⟨row, ft, erow⟩ := digits_eq c9 [9, 9, 1000000000, 1000000000, 1000000000] (by decide) (by unfold sizesOk; decide)
  obtain ⟨r0, x0, l0, u0⟩ := ft.at (i := 0) (s := 9) rfl
  obtain ⟨r1, x1, l1, u1⟩ := ft.at (i := 1) (s := 9) rfl
  obtain ⟨r2, x2, l2, u2⟩ := ft.at (i := 2) (s := 1000000000) rfl
  obtain ⟨r3, x3, l3, u3⟩ := ft.at (i := 3) (s := 1000000000) rfl
  obtain ⟨r4, x4, l4, u4⟩ := ft.at (i := 4) (s := 1000000000) rfl
  have i0 : oIx (lstI row) (.int 0) = some (.int r0) := ixR (i := 0) x0
  have i1 : oIx (lstI row) (.int 1) = some (.int r1) := ixR (i := 1) x1
  have i2 : oIx (lstI row) (.int 2) = some (.int r2) := ixR (i := 2) x2
  have i3 : oIx (lstI row) (.int 3) = some (.int r3) := ixR (i := 3) x3
  have i4 : oIx (lstI row) (.int 4) = some (.int r4) := ixR (i := 4) x4
  have drow : m__law_digits [.int c9, .lst [.int 9, .int 9, .int 1000000000, .int 1000000000, .int 1000000000]] = .ok (lstI row) := erow
  have t1 : oTup [.int 1] = some (tupI [1]) := rfl
  have t2 : oTup [.int (-1)] = some (tupI [-1]) := rfl
  have a9 : oAdd (nat at0) (.int 9) = some (nat (at0 + 9)) := nat_add at0 9
  have a3 : oAdd (nat at0) (.int 3) = some (nat (at0 + 3)) := nat_add at0 3
  unfold m__law_world
  rw [run2]
  refine step1 (ρ' := [.d (script ns), .d (nat at0), .d (homesD hs), .d (w.D many), .d (.lst (bookD (w.f many) (2 ^ many))), .no, .no, .no, .no, .no, .no, .no, .no, .no, .no, .no]) ?_ ?_
  · simp only [ev_V, ev_Op, ev_Un, ev_C, ev_E, ev_And, ev_Or, ev_Not, ev_If, ev_eAnd, ev_eOr, ev_eNot, ev_Fn, ev_Cons, ev_Nil, ev_Call, ev_CallN, ev_Yes, ev_Fld, sv_Seq, sv_If, sv_Ret, sv_Asg, sv_Nx, sv_For, gv_N, bind_ok, lift_some, nox_ok1, tb_bl, if_true, if_false, Bool.false_eq_true, List.getElem?_cons_succ, List.getElem?_cons_zero, List.set_cons_succ, List.set_cons_zero, Option.some.injEq, Sl.d.injEq, Option.bind_some, runE_rt, runE_nx, Ev_ok, wi_cons, wi_nil, List.replicate, decide_true, decide_false, ed, Nat.reduceSub]
    rfl
  refine step1 (ρ' := [.d (script ns), .d (nat at0), .d (homesD hs), .d (w.D many), .d (.lst (bookD (w.f many) (2 ^ many))), .d (councilD hs r many 1), .no, .no, .no, .no, .no, .no, .no, .no, .no, .no]) ?_ ?_
  · simp only [ev_V, ev_Op, ev_Un, ev_C, ev_E, ev_And, ev_Or, ev_Not, ev_If, ev_eAnd, ev_eOr, ev_eNot, ev_Fn, ev_Cons, ev_Nil, ev_Call, ev_CallN, ev_Yes, ev_Fld, sv_Seq, sv_If, sv_Ret, sv_Asg, sv_Nx, sv_For, gv_N, bind_ok, lift_some, nox_ok1, tb_bl, if_true, if_false, Bool.false_eq_true, List.getElem?_cons_succ, List.getElem?_cons_zero, List.set_cons_succ, List.set_cons_zero, Option.some.injEq, Sl.d.injEq, Option.bind_some, runE_rt, runE_nx, Ev_ok, wi_cons, wi_nil, List.replicate, decide_true, decide_false, flh, er', ec]
  refine step1 (ρ' := [.d (script ns), .d (nat at0), .d (homesD hs), .d (w.D many), .d (.lst (bookD (w.f many) (2 ^ many))), .d (councilD hs r many 1), .d (.int u), .no, .no, .no, .no, .no, .no, .no, .no, .no]) ?_ ?_
  · simp only [ev_V, ev_Op, ev_Un, ev_C, ev_E, ev_And, ev_Or, ev_Not, ev_If, ev_eAnd, ev_eOr, ev_eNot, ev_Fn, ev_Cons, ev_Nil, ev_Call, ev_CallN, ev_Yes, ev_Fld, sv_Seq, sv_If, sv_Ret, sv_Asg, sv_Nx, sv_For, gv_N, bind_ok, lift_some, nox_ok1, tb_bl, if_true, if_false, Bool.false_eq_true, List.getElem?_cons_succ, List.getElem?_cons_zero, List.set_cons_succ, List.set_cons_zero, Option.some.injEq, Sl.d.injEq, Option.bind_some, runE_rt, runE_nx, Ev_ok, wi_cons, wi_nil, List.replicate, decide_true, decide_false, t1, eu]
  refine step1 (ρ' := [.d (script ns), .d (nat at0), .d (homesD hs), .d (w.D many), .d (.lst (bookD (w.f many) (2 ^ many))), .d (councilD hs r many 1), .d (.int u), .d (.int l), .no, .no, .no, .no, .no, .no, .no, .no]) ?_ ?_
  · simp only [ev_V, ev_Op, ev_Un, ev_C, ev_E, ev_And, ev_Or, ev_Not, ev_If, ev_eAnd, ev_eOr, ev_eNot, ev_Fn, ev_Cons, ev_Nil, ev_Call, ev_CallN, ev_Yes, ev_Fld, sv_Seq, sv_If, sv_Ret, sv_Asg, sv_Nx, sv_For, gv_N, bind_ok, lift_some, nox_ok1, tb_bl, if_true, if_false, Bool.false_eq_true, List.getElem?_cons_succ, List.getElem?_cons_zero, List.set_cons_succ, List.set_cons_zero, Option.some.injEq, Sl.d.injEq, Option.bind_some, runE_rt, runE_nx, Ev_ok, wi_cons, wi_nil, List.replicate, decide_true, decide_false, o_neg, t2, ev, ← hl]
  refine step1 (ρ' := [.d (script ns), .d (nat at0), .d (homesD hs), .d (w.D many), .d (.lst (bookD (w.f many) (2 ^ many))), .d (councilD hs r many 1), .d (.int u), .d (.int l), .d (lstI row), .no, .no, .no, .no, .no, .no, .no]) ?_ ?_
  · simp only [ev_V, ev_Op, ev_Un, ev_C, ev_E, ev_And, ev_Or, ev_Not, ev_If, ev_eAnd, ev_eOr, ev_eNot, ev_Fn, ev_Cons, ev_Nil, ev_Call, ev_CallN, ev_Yes, ev_Fld, sv_Seq, sv_If, sv_Ret, sv_Asg, sv_Nx, sv_For, gv_N, bind_ok, lift_some, nox_ok1, tb_bl, if_true, if_false, Bool.false_eq_true, List.getElem?_cons_succ, List.getElem?_cons_zero, List.set_cons_succ, List.set_cons_zero, Option.some.injEq, Sl.d.injEq, Option.bind_some, runE_rt, runE_nx, Ev_ok, wi_cons, wi_nil, List.replicate, decide_true, decide_false, a9, ec9, p10_9, lst _ (show [D.int 9, .int 9, .int 1000000000, .int 1000000000, .int 1000000000].length ≤ 20 by simp), drow]
  -- the places
  have mot : Ev (compL (gN 10) cYes (eCallN m__law_motion (aCons (eCallN m__law_digits (aCons (eCallN m__law_cell (aCons (eV 0) (aCons (eOp oAdd (eOp oAdd (eV 1) (eC (.int 3))) (eV 10)) (aNil)))) (aCons (eFn oLst (aCons (eC (.int 12)) (aCons (eC (.int 4001)) (aNil)))) (aNil)))) (aCons (eC (.int 1)) (aCons (eC (.int 14)) (aNil))))) [.d (script ns), .d (nat at0), .d (homesD hs), .d (w.D many), .d (.lst (bookD (w.f many) (2 ^ many))), .d (councilD hs r many 1), .d (.int u), .d (.int l), .d (lstI row), .no, .no, .no, .no, .no, .no, .no] ((List.range 6).map nat)) fun ds => ∃ ys, ds = ys.map pair ∧ All2 (fun _ x => Pl x.1 x.2) (List.range 6) ys := by
    refine lc_ev nat pair (fun _ x => Pl x.1 x.2) _ fun k hk => ⟨_, rfl, ?_⟩
    have hk := List.mem_range.mp hk
    obtain ⟨c, e⟩ := cell_at ns (k := at0 + 3 + k) (by omega)
    obtain ⟨rw', ft', erw⟩ := digits_eq c [12, 4001] (by decide) (by unfold sizesOk; decide)
    obtain ⟨p, q, em, hp⟩ := motion1_eq (room := 14) ft' (by decide) (by decide) (by decide)
    have e' : m__law_digits [.int c, .lst [.int 12, .int 4001]] = .ok (lstI rw') := erw
    simp only [ev_V, ev_Op, ev_Un, ev_C, ev_E, ev_And, ev_Or, ev_Not, ev_If, ev_eAnd, ev_eOr, ev_eNot, ev_Fn, ev_Cons, ev_Nil, ev_Call, ev_CallN, ev_Yes, ev_Fld, sv_Seq, sv_If, sv_Ret, sv_Asg, sv_Nx, sv_For, gv_N, bind_ok, lift_some, nox_ok1, tb_bl, if_true, if_false, Bool.false_eq_true, List.getElem?_cons_succ, List.getElem?_cons_zero, List.set_cons_succ, List.set_cons_zero, Option.some.injEq, Sl.d.injEq, Option.bind_some, runE_rt, runE_nx, Ev_ok, wi_cons, wi_nil, List.replicate, decide_true, decide_false, a3, nat_add, e, lst _ (show [D.int 12, .int 4001].length ≤ 20 by simp), e', em]
    exact ⟨(p, q), rfl, hp⟩
  obtain ⟨ds, eds, ms, rfl, all⟩ := mot.get
  have ml : ms.length = 6 := by rw [all.len]; rfl
  have mpl : ∀ x ∈ ms, Pl x.1 x.2 := fun x hx => by
    obtain ⟨_, _, h⟩ := all.mem x hx
    exact h
  refine step1 (ρ' := [.d (script ns), .d (nat at0), .d (homesD hs), .d (w.D many), .d (.lst (bookD (w.f many) (2 ^ many))), .d (councilD hs r many 1), .d (.int u), .d (.int l), .d (lstI row), .d (.lst (ms.map pair)), .no, .no, .no, .no, .no, .no]) ?_ ?_
  · have rg : iR1 (aCons (eC (.int 6)) (aNil)) [.d (script ns), .d (nat at0), .d (homesD hs), .d (w.D many), .d (.lst (bookD (w.f many) (2 ^ many))), .d (councilD hs r many 1), .d (.int u), .d (.int l), .d (lstI row), .no, .no, .no, .no, .no, .no, .no] = .ok ((List.range 6).map nat) := rg1 (n := 6) (by decide) rfl
    rw [sv_Asg, ev_Lc, rg]
    simp only [ev_V, ev_Op, ev_Un, ev_C, ev_E, ev_And, ev_Or, ev_Not, ev_If, ev_eAnd, ev_eOr, ev_eNot, ev_Fn, ev_Cons, ev_Nil, ev_Call, ev_CallN, ev_Yes, ev_Fld, sv_Seq, sv_If, sv_Ret, sv_Asg, sv_Nx, sv_For, gv_N, bind_ok, lift_some, nox_ok1, tb_bl, if_true, if_false, Bool.false_eq_true, List.getElem?_cons_succ, List.getElem?_cons_zero, List.set_cons_succ, List.set_cons_zero, Option.some.injEq, Sl.d.injEq, Option.bind_some, runE_rt, runE_nx, Ev_ok, wi_cons, wi_nil, List.replicate, decide_true, decide_false, List.length_map, List.length_range]
    rw [if_pos (by omega), eds]
    simp only [ev_V, ev_Op, ev_Un, ev_C, ev_E, ev_And, ev_Or, ev_Not, ev_If, ev_eAnd, ev_eOr, ev_eNot, ev_Fn, ev_Cons, ev_Nil, ev_Call, ev_CallN, ev_Yes, ev_Fld, sv_Seq, sv_If, sv_Ret, sv_Asg, sv_Nx, sv_For, gv_N, bind_ok, lift_some, nox_ok1, tb_bl, if_true, if_false, Bool.false_eq_true, List.getElem?_cons_succ, List.getElem?_cons_zero, List.set_cons_succ, List.set_cons_zero, Option.some.injEq, Sl.d.injEq, Option.bind_some, runE_rt, runE_nx, Ev_ok, wi_cons, wi_nil, List.replicate, decide_true, decide_false]
  obtain ⟨ps, hps, pl9, ppl⟩ : ∃ ps : List (Int × Int), sAsg (eOp oAdd (eV 9) (eFn oLst (aCons (eOp oAdd (eOp oIx (eV 2) (eOp oMod (eFn fInt (aCons (eOp oIx (eV 8) (eC (.int 0))) (aNil))) (eFn fLen (aCons (eV 2) (aNil))))) (eFn oTup (aCons (eC (.int 1)) (aNil)))) (aCons (eFn oTup (aCons (eV 6) (aCons (eC (.int 1)) (aNil)))) (aCons (eFn oTup (aCons (eV 7) (aCons (eC (.int 1)) (aNil)))) (aNil)))))) (gN 9) [.d (script ns), .d (nat at0), .d (homesD hs), .d (w.D many), .d (.lst (bookD (w.f many) (2 ^ many))), .d (councilD hs r many 1), .d (.int u), .d (.int l), .d (lstI row), .d (.lst (ms.map pair)), .no, .no, .no, .no, .no, .no] = .ok (.nx [.d (script ns), .d (nat at0), .d (homesD hs), .d (w.D many), .d (.lst (bookD (w.f many) (2 ^ many))), .d (councilD hs r many 1), .d (.int u), .d (.int l), .d (lstI row), .d (.lst (ps.map pair)), .no, .no, .no, .no, .no, .no]) ∧ ps.length = 9 ∧ ∀ x ∈ ps, Pl x.1 x.2 := by
    have f := fmod_in r0 (k := (many : Int)) (by omega)
    obtain ⟨k, hk⟩ : ∃ k : Nat, (k : Int) = r0.fmod many := ⟨(r0.fmod many).toNat, by omega⟩
    have md : oMod (.int r0) (nat many) = some (nat k) := by
      show oMod (.int r0) (.int (many : Int)) = _
      rw [o_mod (by omega), ← hk]
      rfl
    obtain ⟨x, ex, bx⟩ := onum k (by omega)
    have ix := (home_at H m1 m9 (by decide) (by decide) (a := [1]) rfl (smi 1 (by decide)) (show k < many by omega)).1
    rw [ex] at ix
    have cat : oAdd (tupI [x]) (tupI [1]) = some (pair (x, 1)) := o_addt (by show 1 + 1 ≤ sizeLine; omega)
    refine ⟨ms ++ [(x, 1), (u, 1), (l, 1)], ?_, by simp [ml], fun y hy => ?_⟩
    · have ad : oAdd (.lst (ms.map pair)) (.lst [pair (x, 1), pair (u, 1), pair (l, 1)]) = some (.lst ((ms ++ [(x, 1), (u, 1), (l, 1)]).map pair)) := by
        rw [o_addl (by simp [ml]; omega), List.map_append]
        rfl
      simp only [ev_V, ev_Op, ev_Un, ev_C, ev_E, ev_And, ev_Or, ev_Not, ev_If, ev_eAnd, ev_eOr, ev_eNot, ev_Fn, ev_Cons, ev_Nil, ev_Call, ev_CallN, ev_Yes, ev_Fld, sv_Seq, sv_If, sv_Ret, sv_Asg, sv_Nx, sv_For, gv_N, bind_ok, lift_some, nox_ok1, tb_bl, if_true, if_false, Bool.false_eq_true, List.getElem?_cons_succ, List.getElem?_cons_zero, List.set_cons_succ, List.set_cons_zero, Option.some.injEq, Sl.d.injEq, Option.bind_some, runE_rt, runE_nx, Ev_ok, wi_cons, wi_nil, List.replicate, decide_true, decide_false, i0, f_intI, flh, md, ix, t1, cat, tup2, lst _ (show [pair (x, 1), pair (u, 1), pair (l, 1)].length ≤ 20 by simp), ad]
    · rcases List.mem_append.mp hy with hy | hy
      · exact mpl y hy
      · simp only [List.mem_cons, List.not_mem_nil, or_false] at hy
        rcases hy with h | h | h <;> subst h
        · exact whole_pl bx
        · exact whole_pl ub
        · exact whole_pl lb
  refine step1 hps ?_
  have pAt : ∀ i, i < 9 → ∃ x : Int × Int, oIx (.lst (ps.map pair)) (nat i) = some (pair x) ∧ Pl x.1 x.2 := fun i hi => by
    obtain ⟨x, hx⟩ : ∃ x, ps[i]? = some x := ⟨_, List.getElem?_eq_getElem (by omega)⟩
    exact ⟨x, ixL (by rw [List.getElem?_map, hx]; rfl), ppl x (List.mem_of_getElem? hx)⟩
  have askP : ∀ {x y : Int × Int}, Pl x.1 x.2 → Pl y.1 y.2 → m__law_asked [councilD hs r many 1, homesD hs, .lst (bookD (w.f many) (2 ^ many)), .int u, .int l, pair x, pair y] = .ok (.bl true) := fun {x y} P Q => C.asked P.pt Q.pt n_mid n_in (pl_near P Q)
  refine stepE (P := fun ρ => ∃ z10 z13, ρ = [.d (script ns), .d (nat at0), .d (homesD hs), .d (w.D many), .d (.lst (bookD (w.f many) (2 ^ many))), .d (councilD hs r many 1), .d (.int u), .d (.int l), .d (lstI row), .d (.lst (ps.map pair)), z10, .no, .no, z13, .no, .no]) ?_ ?_
  · have rg : iR1 (aCons (eC (.int 6)) (aNil)) [.d (script ns), .d (nat at0), .d (homesD hs), .d (w.D many), .d (.lst (bookD (w.f many) (2 ^ many))), .d (councilD hs r many 1), .d (.int u), .d (.int l), .d (lstI row), .d (.lst (ps.map pair)), .no, .no, .no, .no, .no, .no] = .ok ((List.range 6).map nat) := rg1 (n := 6) (by decide) rfl
    rw [sv_For, rg, bind_ok]
    refine ev_for nat (List.range 6) (fun _ ρ => ∃ z10 z13, ρ = [.d (script ns), .d (nat at0), .d (homesD hs), .d (w.D many), .d (.lst (bookD (w.f many) (2 ^ many))), .d (councilD hs r many 1), .d (.int u), .d (.int l), .d (lstI row), .d (.lst (ps.map pair)), z10, .no, .no, z13, .no, .no]) ?_ ⟨.no, .no, rfl⟩
    rintro p k q ρ ep ⟨z10, z13, rfl⟩
    have hk : k < 6 := List.mem_range.mp (by rw [ep]; simp)
    refine ⟨[.d (script ns), .d (nat at0), .d (homesD hs), .d (w.D many), .d (.lst (bookD (w.f many) (2 ^ many))), .d (councilD hs r many 1), .d (.int u), .d (.int l), .d (lstI row), .d (.lst (ps.map pair)), .d (nat k), .no, .no, z13, .no, .no], rfl, ?_⟩
    obtain ⟨xa, ea, Pa⟩ := pAt ((k + 1) % 9) (Nat.mod_lt _ (by decide))
    obtain ⟨xb, eb, Pb⟩ := pAt ((k + 4) % 9) (Nat.mod_lt _ (by decide))
    obtain ⟨xc, ek, Pk⟩ := pAt k (by omega)
    have ad1 : oAdd (nat k) (.int 1) = some (nat (k + 1)) := nat_add k 1
    have ad4 : oAdd (nat k) (.int 4) = some (nat (k + 4)) := nat_add k 4
    have md : ∀ j : Nat, oMod (nat j) (.int 9) = some (nat (j % 9)) := fun j => by
      unfold nat
      rw [o_mod (by decide)]
      congr 2
      exact fmod_nat j 9
    have fi : ∀ j : Nat, fInt [nat j] = some (nat j) := fun j => rfl
    have sq : iSq (eFn oLst (aCons (eOp oIx (eV 9) (eOp oMod (eFn fInt (aCons (eOp oAdd (eV 10) (eC (.int 1))) (aNil))) (eC (.int 9)))) (aCons (eOp oIx (eV 9) (eOp oMod (eFn fInt (aCons (eOp oAdd (eV 10) (eC (.int 4))) (aNil))) (eC (.int 9)))) (aCons (eOp oIx (eV 9) (eV 10)) (aNil))))) [.d (script ns), .d (nat at0), .d (homesD hs), .d (w.D many), .d (.lst (bookD (w.f many) (2 ^ many))), .d (councilD hs r many 1), .d (.int u), .d (.int l), .d (lstI row), .d (.lst (ps.map pair)), .d (nat k), .no, .no, z13, .no, .no] = .ok ([xa, xb, xc].map pair) := by
      rw [iv_Sq]
      simp only [ev_V, ev_Op, ev_Un, ev_C, ev_E, ev_And, ev_Or, ev_Not, ev_If, ev_eAnd, ev_eOr, ev_eNot, ev_Fn, ev_Cons, ev_Nil, ev_Call, ev_CallN, ev_Yes, ev_Fld, sv_Seq, sv_If, sv_Ret, sv_Asg, sv_Nx, sv_For, gv_N, bind_ok, lift_some, nox_ok1, tb_bl, if_true, if_false, Bool.false_eq_true, List.getElem?_cons_succ, List.getElem?_cons_zero, List.set_cons_succ, List.set_cons_zero, Option.some.injEq, Sl.d.injEq, Option.bind_some, runE_rt, runE_nx, Ev_ok, wi_cons, wi_nil, List.replicate, decide_true, decide_false, ad1, ad4, fi, md, ea, eb, ek, lst _ (show [pair xa, pair xb, pair xc].length ≤ 20 by simp), it_lst]
      rfl
    rw [sv_For, sq, bind_ok]
    refine (ev_for pair [xa, xb, xc] (fun _ ρ => ∃ z13, ρ = [.d (script ns), .d (nat at0), .d (homesD hs), .d (w.D many), .d (.lst (bookD (w.f many) (2 ^ many))), .d (councilD hs r many 1), .d (.int u), .d (.int l), .d (lstI row), .d (.lst (ps.map pair)), .d (nat k), .no, .no, z13, .no, .no]) ?_ ⟨z13, rfl⟩).imp fun o ⟨ρ', eo, z, eρ⟩ => by rw [eo]; exact ⟨_, z, eρ⟩
    rintro p2 y q2 ρ ep2 ⟨z13, rfl⟩
    have Py : Pl y.1 y.2 := by
      have : y ∈ [xa, xb, xc] := by rw [ep2]; simp
      simp only [List.mem_cons, List.not_mem_nil, or_false] at this
      rcases this with h | h | h <;> subst h <;> assumption
    refine ⟨[.d (script ns), .d (nat at0), .d (homesD hs), .d (w.D many), .d (.lst (bookD (w.f many) (2 ^ many))), .d (councilD hs r many 1), .d (.int u), .d (.int l), .d (lstI row), .d (.lst (ps.map pair)), .d (nat k), .no, .no, .d (pair y), .no, .no], rfl, ?_⟩
    have as := askP Pk Py
    simp only [ev_V, ev_Op, ev_Un, ev_C, ev_E, ev_And, ev_Or, ev_Not, ev_If, ev_eAnd, ev_eOr, ev_eNot, ev_Fn, ev_Cons, ev_Nil, ev_Call, ev_CallN, ev_Yes, ev_Fld, sv_Seq, sv_If, sv_Ret, sv_Asg, sv_Nx, sv_For, gv_N, bind_ok, lift_some, nox_ok1, tb_bl, if_true, if_false, Bool.false_eq_true, List.getElem?_cons_succ, List.getElem?_cons_zero, List.set_cons_succ, List.set_cons_zero, Option.some.injEq, Sl.d.injEq, Option.bind_some, runE_rt, runE_nx, Ev_ok, wi_cons, wi_nil, List.replicate, decide_true, decide_false, ek, as, Bool.not_true]
    exact ⟨_, rfl⟩
  rintro ρ ⟨z10, z13, rfl⟩
  obtain ⟨st, hst⟩ : ∃ st, st = r2 * 100000000000000000000 + r3 * 1000000000 + r4 := ⟨_, rfl⟩
  refine step1 (ρ' := [.d (script ns), .d (nat at0), .d (homesD hs), .d (w.D many), .d (.lst (bookD (w.f many) (2 ^ many))), .d (councilD hs r many 1), .d (.int u), .d (.int l), .d (lstI row), .d (.lst (ps.map pair)), z10, .d (.int st), .no, z13, .no, .no]) ?_ ?_
  · have m2 : oMul (.int r2) (.int 100000000000000000000) = some (.int (r2 * 100000000000000000000)) := o_mulS (sml (by omega)) (sml (by decide))
    have m3 : oMul (.int r3) (.int 1000000000) = some (.int (r3 * 1000000000)) := o_mulS (sml (by omega)) (sml (by decide))
    simp only [ev_V, ev_Op, ev_Un, ev_C, ev_E, ev_And, ev_Or, ev_Not, ev_If, ev_eAnd, ev_eOr, ev_eNot, ev_Fn, ev_Cons, ev_Nil, ev_Call, ev_CallN, ev_Yes, ev_Fld, sv_Seq, sv_If, sv_Ret, sv_Asg, sv_Nx, sv_For, gv_N, bind_ok, lift_some, nox_ok1, tb_bl, if_true, if_false, Bool.false_eq_true, List.getElem?_cons_succ, List.getElem?_cons_zero, List.set_cons_succ, List.set_cons_zero, Option.some.injEq, Sl.d.injEq, Option.bind_some, runE_rt, runE_nx, Ev_ok, wi_cons, wi_nil, List.replicate, decide_true, decide_false, i2, i3, i4, f_intI, p10_20, p10_9, m2, m3, o_add, hst]
  refine stepE (P := fun ρ => ∃ z10 z14, ρ = [.d (script ns), .d (nat at0), .d (homesD hs), .d (w.D many), .d (.lst (bookD (w.f many) (2 ^ many))), .d (councilD hs r many 1), .d (.int u), .d (.int l), .d (lstI row), .d (.lst (ps.map pair)), z10, .d (.int st), .no, z13, z14, .no]) ?_ ?_
  · have rg : iR1 (aCons (eC (.int 3)) (aNil)) [.d (script ns), .d (nat at0), .d (homesD hs), .d (w.D many), .d (.lst (bookD (w.f many) (2 ^ many))), .d (councilD hs r many 1), .d (.int u), .d (.int l), .d (lstI row), .d (.lst (ps.map pair)), z10, .d (.int st), .no, z13, .no, .no] = .ok ((List.range 3).map nat) := rg1 (n := 3) (by decide) rfl
    rw [sv_For, rg, bind_ok]
    refine ev_for nat (List.range 3) (fun _ ρ => ∃ z10 z14, ρ = [.d (script ns), .d (nat at0), .d (homesD hs), .d (w.D many), .d (.lst (bookD (w.f many) (2 ^ many))), .d (councilD hs r many 1), .d (.int u), .d (.int l), .d (lstI row), .d (.lst (ps.map pair)), z10, .d (.int st), .no, z13, z14, .no]) ?_ ⟨z10, .no, rfl⟩
    rintro p k q ρ ep ⟨z10, z14, rfl⟩
    have hk : k < 3 := List.mem_range.mp (by rw [ep]; simp)
    refine ⟨[.d (script ns), .d (nat at0), .d (homesD hs), .d (w.D many), .d (.lst (bookD (w.f many) (2 ^ many))), .d (councilD hs r many 1), .d (.int u), .d (.int l), .d (lstI row), .d (.lst (ps.map pair)), .d (nat k), .d (.int st), .no, z13, z14, .no], rfl, ?_⟩
    obtain ⟨xa, ea, Pa⟩ := pAt k (by omega)
    obtain ⟨xb, eb, Pb⟩ := pAt (k + 3) (by omega)
    have ad3 : oAdd (nat k) (.int 3) = some (nat (k + 3)) := nat_add k 3
    have far : ∀ s : Int, 0 ≤ s → s.natAbs ≤ 10 ^ 30 → m__law_far [councilD hs r many 1, .int u, .int l, pair xa, pair xb, .int s] = .ok (.bl true) := fun s h0 h1 => C.far Pa.pt Pb.pt (pl_near Pa Pb) h0 h1
    have f1 := far (1 + r1) (by omega) (by omega)
    have f2 := far st (by omega) (by omega)
    obtain ⟨sg, esg, hsg⟩ : ∃ s : Int, oIx (.lst [.int 1, .int (-1)]) (nat (k % 2)) = some (.int s) ∧ (s = 1 ∨ s = -1) := by
      rcases (show k % 2 = 0 ∨ k % 2 = 1 by omega) with h | h <;> rw [h]
      · exact ⟨1, rfl, .inl rfl⟩
      · exact ⟨-1, rfl, .inr rfl⟩
    have mk2 : oMod (nat k) (.int 2) = some (nat (k % 2)) := by
      unfold nat
      rw [o_mod (by decide)]
      congr 2
      exact fmod_nat k 2
    have fi : ∀ j : Nat, fInt [nat j] = some (nat j) := fun j => rfl
    have mm : oMul (.int (60 + r1)) (.int sg) = some (.int ((60 + r1) * sg)) := o_mulS (sml (by omega)) (sml (by omega))
    have kb : ((60 + r1) * sg).natAbs ≤ 68 := by rcases hsg with h | h <;> rw [h] <;> omega
    have plus := plus_eq (k := (60 + r1) * sg) Pa.pt n_one (Nat.le_trans kb (Nat.le_trans (by decide) n1000))
    have as := C.asked Pa.pt (shift_pt Pa.pt kb) n_mid n_out (shift_near Pa.pt.pos kb)
    have exa : pair xa = pair (xa.1, xa.2) := rfl
    rw [exa] at f1 f2 ea
    simp only [ev_V, ev_Op, ev_Un, ev_C, ev_E, ev_And, ev_Or, ev_Not, ev_If, ev_eAnd, ev_eOr, ev_eNot, ev_Fn, ev_Cons, ev_Nil, ev_Call, ev_CallN, ev_Yes, ev_Fld, sv_Seq, sv_If, sv_Ret, sv_Asg, sv_Nx, sv_For, gv_N, bind_ok, lift_some, nox_ok1, tb_bl, if_true, if_false, Bool.false_eq_true, List.getElem?_cons_succ, List.getElem?_cons_zero, List.set_cons_succ, List.set_cons_zero, Option.some.injEq, Sl.d.injEq, Option.bind_some, runE_rt, runE_nx, Ev_ok, wi_cons, wi_nil, List.replicate, decide_true, decide_false, ea, eb, ad3, i1, f_intI, o_add, f1, f2, Bool.not_true, lst _ (show [D.int 1, .int (-1)].length ≤ 20 by simp), o_neg, fi, mk2, esg, mm, tup2, plus, as]
    exact ⟨_, _, rfl⟩
  rintro ρ ⟨z10', z14, rfl⟩
  -- the plane
  obtain ⟨hs2, hhs2⟩ : ∃ hs2, hs2 = hs.map (fun h => h ++ [0]) := ⟨_, rfl⟩
  have H2 : Hs hs2 many 2 60 := by
    refine ⟨by rw [hhs2, List.length_map]; exact H.len, fun h hh => ?_⟩
    rw [hhs2] at hh
    obtain ⟨h', hm, rfl⟩ := List.mem_map.mp hh
    obtain ⟨a, b⟩ := H.each h' hm
    refine ⟨by rw [List.length_append, a]; rfl, fun x hx => ?_⟩
    (rcases List.mem_append.mp hx with hx | hx)
    · exact b x hx
    · rw [List.mem_singleton.mp hx]; omega
  have ec2 := council_eq H2 m1 m9 (by decide) (by decide) R
  refine step1 (ρ' := [.d (script ns), .d (nat at0), .d (homesD hs), .d (w.D many), .d (.lst (bookD (w.f many) (2 ^ many))), .d (councilD hs r many 1), .d (.int u), .d (.int l), .d (lstI row), .d (.lst (ps.map pair)), z10', .d (.int st), .d (councilD hs2 r many 2), z13, z14, .no]) ?_ ?_
  · have hc : compL (gN 15) cYes (eOp oAdd (eV 15) (eFn oTup (aCons (eC (.int 0)) (aNil)))) [.d (script ns), .d (nat at0), .d (homesD hs), .d (w.D many), .d (.lst (bookD (w.f many) (2 ^ many))), .d (councilD hs r many 1), .d (.int u), .d (.int l), .d (lstI row), .d (.lst (ps.map pair)), z10', .d (.int st), .no, z13, z14, .no] (hs.map tupI) = .ok (hs2.map tupI) := by
      rw [lc_map tupI (fun h => tupI (h ++ [0])), hhs2, List.map_map]
      · rfl
      · intro h hh
        refine ⟨_, rfl, ?_⟩
        have t0 : oTup [.int 0] = some (tupI [0]) := rfl
        have hl := (H.each h hh).1
        have cat : oAdd (tupI h) (tupI [0]) = some (tupI (h ++ [0])) := by
          show oAdd (.tup (h.map D.int)) (.tup [.int 0]) = _
          rw [o_addt (by rw [List.length_map, hl]; show 1 + 1 ≤ sizeLine; omega)]
          show some (D.tup _) = some (D.tup _)
          rw [List.map_append]
          rfl
        simp only [ev_V, ev_Op, ev_Un, ev_C, ev_E, ev_And, ev_Or, ev_Not, ev_If, ev_eAnd, ev_eOr, ev_eNot, ev_Fn, ev_Cons, ev_Nil, ev_Call, ev_CallN, ev_Yes, ev_Fld, sv_Seq, sv_If, sv_Ret, sv_Asg, sv_Nx, sv_For, gv_N, bind_ok, lift_some, nox_ok1, tb_bl, if_true, if_false, Bool.false_eq_true, List.getElem?_cons_succ, List.getElem?_cons_zero, List.set_cons_succ, List.set_cons_zero, Option.some.injEq, Sl.d.injEq, Option.bind_some, runE_rt, runE_nx, Ev_ok, wi_cons, wi_nil, List.replicate, decide_true, decide_false, t0, cat]
    have it : itemsD (homesD hs) = some (hs.map tupI) := rfl
    simp only [ev_V, ev_Op, ev_Un, ev_C, ev_E, ev_And, ev_Or, ev_Not, ev_If, ev_eAnd, ev_eOr, ev_eNot, ev_Fn, ev_Cons, ev_Nil, ev_Call, ev_CallN, ev_Yes, ev_Fld, sv_Seq, sv_If, sv_Ret, sv_Asg, sv_Nx, sv_For, gv_N, bind_ok, lift_some, nox_ok1, tb_bl, if_true, if_false, Bool.false_eq_true, List.getElem?_cons_succ, List.getElem?_cons_zero, List.set_cons_succ, List.set_cons_zero, Option.some.injEq, Sl.d.injEq, Option.bind_some, runE_rt, runE_nx, Ev_ok, wi_cons, wi_nil, List.replicate, decide_true, decide_false, ev_Lc, iv_Sq, it, List.length_map, H.len]
    rw [if_pos (by omega), hc]
    have ft2 : fTup [.lst (hs2.map tupI)] = some (homesD hs2) := rfl
    simp only [ev_V, ev_Op, ev_Un, ev_C, ev_E, ev_And, ev_Or, ev_Not, ev_If, ev_eAnd, ev_eOr, ev_eNot, ev_Fn, ev_Cons, ev_Nil, ev_Call, ev_CallN, ev_Yes, ev_Fld, sv_Seq, sv_If, sv_Ret, sv_Asg, sv_Nx, sv_For, gv_N, bind_ok, lift_some, nox_ok1, tb_bl, if_true, if_false, Bool.false_eq_true, List.getElem?_cons_succ, List.getElem?_cons_zero, List.set_cons_succ, List.set_cons_zero, Option.some.injEq, Sl.d.injEq, Option.bind_some, runE_rt, runE_nx, Ev_ok, wi_cons, wi_nil, List.replicate, decide_true, decide_false, ft2, cfld_rule, ec2]
  have wr := wrong_eq (hs := hs2) (r := r) (many := many) (pt := .tup [.int 1, .int 2, .int 3])
  refine last_rt (d := .bl true) ?_ rfl
  simp only [ev_V, ev_Op, ev_Un, ev_C, ev_E, ev_And, ev_Or, ev_Not, ev_If, ev_eAnd, ev_eOr, ev_eNot, ev_Fn, ev_Cons, ev_Nil, ev_Call, ev_CallN, ev_Yes, ev_Fld, sv_Seq, sv_If, sv_Ret, sv_Asg, sv_Nx, sv_For, gv_N, bind_ok, lift_some, nox_ok1, tb_bl, if_true, if_false, Bool.false_eq_true, List.getElem?_cons_succ, List.getElem?_cons_zero, List.set_cons_succ, List.set_cons_zero, Option.some.injEq, Sl.d.injEq, Option.bind_some, runE_rt, runE_nx, Ev_ok, wi_cons, wi_nil, List.replicate, decide_true, decide_false, tup _ (show [D.int 1, .int 2, .int 3].length ≤ 20 by simp), wr]
theorem law_true (ns : List Int) : m_law [script ns] = .ok (.bl true) := by
  have w0 : m__law_world [script ns, .int 0] = .ok (.bl true) := world_eq ns 0 (by decide)
  have w1 : m__law_world [script ns, .int 10] = .ok (.bl true) := world_eq ns 10 (by decide)
  unfold m_law
  rw [run1]
  simp only [ev_V, ev_Op, ev_Un, ev_C, ev_E, ev_And, ev_Or, ev_Not, ev_If, ev_eAnd, ev_eOr, ev_eNot, ev_Fn, ev_Cons, ev_Nil, ev_Call, ev_CallN, ev_Yes, ev_Fld, sv_Seq, sv_If, sv_Ret, sv_Asg, sv_Nx, sv_For, gv_N, bind_ok, lift_some, nox_ok1, tb_bl, if_true, if_false, Bool.false_eq_true, List.getElem?_cons_succ, List.getElem?_cons_zero, List.set_cons_succ, List.set_cons_zero, Option.some.injEq, Sl.d.injEq, Option.bind_some, runE_rt, runE_nx, Ev_ok, wi_cons, wi_nil, List.replicate, decide_true, decide_false, w0, w1]
end L2.DL.MM
open PySem PySem.W PyProof.Rows PySem.Calls
theorem PySem.Challenge.cw_calmspot_k87_fewest_on_a_line_holds : PySem.Challenge.rw_calmspot_k87_fewest_on_a_line.Holds := by
  w_on; o_law
  refine HandSHeadRun.head_imp (r := OpenLaw.row PySem.Challenge.rw_calmspot_k87_fewest_on_a_line) (q := L2.DL.MM.vw) (H := L2.DL.MM.hk) (ob := L2.DL.MM.ob) (M := 40000) (loose := L2.DL.MM.lo) (d := HandSHeadRun.topDef (OpenLaw.row PySem.Challenge.rw_calmspot_k87_fewest_on_a_line).prog 72) (kwd := []) L2.DL.MM.ob_eq
    L2.DL.MM.run (by kernel_rfl) (by kernel_rfl) (by kernel_rfl) (by rfl) (by first | assumption | decide +kernel) (by decide +kernel) ⟨rfl, rfl, rfl, rfl, rfl, by decide +kernel⟩ ?hw ?hc
  case hw => w_witness2
  case hc =>
    refine L2.DL.walk_w (l := PySem.Challenge.rw_calmspot_k87_fewest_on_a_line) (most := 63) (lev := 13) (x := "script") (CXw := fun w => L2.CX PySem.Challenge.rw_calmspot_k87_fewest_on_a_line.prog w) rfl (by decide) (by kernel_rfl) ⟨rfl, by decide, by decide⟩ ?F (fun _ _ _ _ _ z => L2.DL.cx_none z)
    intro w mg fa h Y G hmg0
    obtain ⟨K, KX, c⟩ := Y
    have named : mg ("law" : PySem.Str) = some (.ref fa) := by
      have e : (HandSHeadRun.topDef (OpenLaw.row PySem.Challenge.rw_calmspot_k87_fewest_on_a_line).prog 72).name = ("law" : PySem.Str) := by kernel_rfl
      rw [← e]
      exact hmg0
    cases named.symm.trans (L2.DL.MM.law_at (w := w) KX G c)
    obtain ⟨fd, hb, hF⟩ := L2.DL.MM.cal (P := (PySem.Challenge.rw_calmspot_k87_fewest_on_a_line).prog) (w := w) KX G c
    exact ⟨K, fd, _, KX, hb, fun H a ns hl _ hS => L2.DL.law_sp (L2.DL.MM.law_true ns) hS, fun base _ _ => hF base⟩
