import PyProof.Rows.All
import Wide.All
import OpenK.AllK
import Wide.FinOn
import HandS.ForMost
import HandS.ForExc
import HandS.Deep
import HandS.CallSlots
import HandS.TupAny
import HandS.TupLe
import HandS.Flow
import HandS.Conv
import HandS.IsInst
import HandS.Walk
import HandS.Comp
import HandS.TryOnly
import HandS.TryMany
import HandS.More
import KE.SortData
import KE.DataMinMax
import KE.DataCmp
import HandS.Dict
import KE.KRevSl
import PySem.Challenge.RW_schedkinds_k05_arrows_and_chains
set_option Elab.async false
set_option linter.all false
set_option maxRecDepth 100000
/-! G1: values, the small heap, worlds, how they stand for HandS' abstract heap. -/
namespace G
open PySem PySem.Spec PyProof.Rows L2

inductive DKey where
  | k (a : Key) | t (ks : List Key)
  deriving DecidableEq

inductive Val where
  | non | bl (b : Bool) | int (i : Int) | str (s : Str) | tup (xs : List Val) | lst (xs : List Val) | rol (xs : List Val) | ref (n : Nat) | fn (k : Nat) | ty (n : String)
  | dct (ks : List DKey) (vs : List Val)

inductive Ob where
  | lst (xs : List Val) | dct (ks : List DKey) (vs : List Val)

abbrev St := L2.St
abbrev Sl := List (Option Val)
abbrev Mu := List Ob
/-- an exception: its class by number, its fields -/
structure Exn where
  c : Nat
  fs : List (Str × Val)

inductive Res (α : Type) where
  | ok (a : α) (μ : Mu) | exc (e : Exn) (μ : Mu) | stuck
inductive Flow where
  | nx (σ : Sl) (μ : Mu) | rt (v : Val) (μ : Mu) | bk (σ : Sl) (μ : Mu) | ct (σ : Sl) (μ : Mu) | exc (e : Exn) (σ : Sl) (μ : Mu) | stuck
abbrev M (α : Type) := Sl → Mu → Res α
abbrev B := Sl → Mu → Flow
abbrev Sem := List Val → Mu → Res Val

/-! ### what is known of the text's own things -/
structure Ct where
  K : PySem.W.Frag
  /-- the defs and classes that are used as values, by number -/
  fa : Nat → Option Addr
  /-- the classes of exceptions, by number -/
  ca : Nat → Option Addr

structure Wd where
  ρ : List Addr
  μ : Mu
  H : Hp
  rs : List Addr

/-- a list of the written part -/
def StL (K : PySem.W.Frag) (a : Addr) (xs : List V) : Prop :=
  ∃ (o : Obj) (its : Array Value) (n : Nat), K.lookup a = some o ∧ o.cls = .type "list" ∧ o.dict = none ∧ o.data = .seq its n ∧ its.size ≤ sizeLine ∧ Vals xs its.toList
/-- a list that nobody changes -/
def ImL (w : Wd) (a : Addr) (ys : List V) : Prop := w.H a = some (.lst ys) ∧ a ∉ w.ρ ∧ a ∉ w.rs
/-- a list that is locked: the script's, the written part's -/
def RoL (c : Ct) (w : Wd) (a : Addr) (ys : List V) : Prop := (∃ o, w.H a = some (.frz o (.lst ys))) ∨ StL c.K a ys
theorem ImL.sq {K : PySem.W.Frag} {w : Wd} {a : Addr} {ys : List V} (h : ImL w a ys) : SqL K w.H a ys := .inl (.inl h.1)
theorem RoL.sq {c : Ct} {w : Wd} {a : Addr} {ys : List V} (h : RoL c w a ys) : SqL c.K w.H a ys := h.elim (fun h => .inl (.inr h)) .inr
/-- what a dict's object holds -/
def DcH (H : Hp) (a : Addr) (ks : List DKey) (ys : List V) : Prop :=
  (∃ kk : List Key, ks = kk.map .k ∧ kk.length = ys.length ∧ H a = some (.dK (kk.zip ys))) ∨ (∃ kt : List (List Key), ks = kt.map .t ∧ (kt.length = ys.length ∧ kt ≠ []) ∧ H a = some (.dT (kt.zip ys)))
def ImD (c : Ct) (w : Wd) (a : Addr) (ks : List DKey) (ys : List V) : Prop := DcH w.H a ks ys ∧ a ∉ w.ρ ∧ a ∉ w.rs

mutual
def RV (c : Ct) (w : Wd) : Val → V → Prop
  | .non, v => v = .non
  | .bl b, v => v = .bl b
  | .int i, v => v = .int i
  | .str s, v => v = .str s
  | .tup xs, v => ∃ a ys, v = .ref a ∧ SqT c.K w.H a ys ∧ RVs c w xs ys
  | .lst xs, v => ∃ a ys, v = .ref a ∧ ImL w a ys ∧ RVs c w xs ys
  | .rol xs, v => ∃ a ys, v = .ref a ∧ RoL c w a ys ∧ RVs c w xs ys
  | .ref n, v => ∃ a, v = .ref a ∧ w.ρ[n]? = some a
  | .fn k, v => ∃ a, v = .ref a ∧ c.fa k = some a
  | .ty n, v => v = .ty n
  | .dct ks vs, v => ∃ a ys, v = .ref a ∧ ImD c w a ks ys ∧ RVs c w vs ys
def RVs (c : Ct) (w : Wd) : List Val → List V → Prop
  | [], ys => ys = []
  | x :: xs, ys => ∃ y r, ys = y :: r ∧ RV c w x y ∧ RVs c w xs r
end

def RO (c : Ct) (w : Wd) (a : Addr) : Ob → Prop
  | .lst xs => ∃ ys, w.H a = some (.lst ys) ∧ RVs c w xs ys
  | .dct ks vs => ∃ ys, DcH w.H a ks ys ∧ RVs c w vs ys

structure Sim (c : Ct) (w : Wd) : Prop where
  len : w.ρ.length = w.μ.length
  nd : w.ρ.Nodup
  ob : ∀ (i : Nat) (a : Addr) (o : Ob), w.ρ[i]? = some a → w.μ[i]? = some o → RO c w a o
  rs : ∀ a ∈ w.rs, a ∉ w.ρ ∧ ∃ o, w.H a = some o

/-- how a world goes on -/
structure Ext (w w' : Wd) : Prop where
  pre : ∃ δ, w'.ρ = w.ρ ++ δ ∧ ∀ a ∈ δ, w.H a = none
  rs : w'.rs = w.rs
  keep : ∀ a o, w.H a = some o → a ∉ w.ρ → w'.H a = some o
  there : ∀ a, w.H a ≠ none → w'.H a ≠ none

/-- .. where more may be kept back -/
structure ExtR (w w' : Wd) : Prop where
  pre : ∃ δ, w'.ρ = w.ρ ++ δ ∧ ∀ a ∈ δ, w.H a = none
  rs : ∀ a, a ∈ w'.rs → a ∈ w.rs ∨ w.H a = none
  keep : ∀ a o, w.H a = some o → a ∉ w.ρ → w'.H a = some o
theorem Ext.r {w w' : Wd} (e : Ext w w') : ExtR w w' := ⟨e.pre, fun a h => .inl (by rw [← e.rs]; exact h), e.keep⟩
section
variable {c : Ct} {w w' w1 w2 w3 : Wd}
theorem Ext.refl (w : Wd) : Ext w w := ⟨⟨[], by simp, fun _ h => nomatch h⟩, rfl, fun _ _ h _ => h, fun _ h => h⟩
theorem ExtR.notin (e : ExtR w w') {a : Addr} {o : HO} (h : w.H a = some o) (n : a ∉ w.ρ) : a ∉ w'.ρ := by
  obtain ⟨δ, p1, q1⟩ := e.pre
  rw [p1]
  intro h'
  rcases List.mem_append.mp h' with h' | h'
  · exact n h'
  · rw [q1 a h'] at h; exact nomatch h
theorem Ext.notin (e : Ext w w') {a : Addr} {o : HO} (h : w.H a = some o) (n : a ∉ w.ρ) : a ∉ w'.ρ := e.r.notin h n
theorem Ext.trans (e : Ext w1 w2) (e' : Ext w2 w3) : Ext w1 w3 := by
  obtain ⟨δ, p1, q1⟩ := e.pre
  obtain ⟨δ', p2, q2⟩ := e'.pre
  refine ⟨⟨δ ++ δ', by rw [p2, p1, List.append_assoc], fun a h => ?_⟩, e'.rs.trans e.rs, fun a o h1 h2 => e'.keep a o (e.keep a o h1 h2) (e.notin h1 h2), fun a h => e'.there a (e.there a h)⟩
  rcases List.mem_append.mp h with h | h
  · exact q1 a h
  · cases q : w1.H a with
    | none => rfl
    | some o => exact absurd (q2 a h) (e.there a (by rw [q]; exact fun z => nomatch z))
theorem ExtR.pre_get (e : ExtR w w') {n : Nat} {a : Addr} (h : w.ρ[n]? = some a) : w'.ρ[n]? = some a := by
  obtain ⟨δ, p1, _⟩ := e.pre
  rw [p1, List.getElem?_append_left (by exact (List.getElem?_eq_some_iff.mp h).1)]
  exact h
end
theorem Ext.pre_get {w w' : Wd} (e : Ext w w') {n : Nat} {a : Addr} (h : w.ρ[n]? = some a) : w'.ρ[n]? = some a := e.r.pre_get h
/-! ### RV goes on -/
theorem Sim.mem {c : Ct} {w : Wd} (s : Sim c w) {a : Addr} (h : a ∈ w.ρ) : ∃ (i : Nat) (o : Ob), w.ρ[i]? = some a ∧ w.μ[i]? = some o ∧ RO c w a o := by
  obtain ⟨i, hi⟩ := List.getElem?_of_mem h
  have hl : i < w.μ.length := by rw [← s.len]; exact (List.getElem?_eq_some_iff.mp hi).1
  exact ⟨i, w.μ[i], hi, List.getElem?_eq_getElem hl, s.ob i a _ hi (List.getElem?_eq_getElem hl)⟩
/-- what of the world a tuple, a list that stands, leans on -/
theorem RO.notTup {c : Ct} {w : Wd} {a : Addr} {o : Ob} (h : RO c w a o) : ∀ ys, ¬ Rd w.H a (.tup ys) := by
  intro ys h'
  cases o with
  | lst xs =>
    obtain ⟨zs, hz, _⟩ := h
    rcases h' with h' | ⟨_, h'⟩ <;> (rw [hz] at h'; exact nomatch h')
  | dct ks vs =>
    obtain ⟨zs, hz, _⟩ := h
    rcases hz with ⟨_, _, _, hz⟩ | ⟨_, _, _, hz⟩ <;> rcases h' with h' | ⟨_, h'⟩ <;> (rw [hz] at h'; exact nomatch h')
section
variable {c : Ct} {w w' : Wd} {a : Addr}
theorem rd_none {H : Hp} {a : Addr} {o : HO} (h : Rd H a o) (n : H a = none) : False := by
  rcases h with h | ⟨q, h⟩ <;> (rw [n] at h; cases h)
theorem ExtR.rd (e : ExtR w w') {o : HO} (h : Rd w.H a o) (n : a ∉ w.ρ) : Rd w'.H a o ∧ a ∉ w'.ρ := by
  rcases h with h | ⟨q, h⟩
  · exact ⟨.inl (e.keep a _ h n), e.notin h n⟩
  · exact ⟨.inr ⟨q, e.keep a _ h n⟩, e.notin h n⟩
theorem ExtR.sqT (s : Sim c w) (e : ExtR w w') {ys : List V} (h : SqT c.K w.H a ys) : SqT c.K w'.H a ys := by
  rcases h with h | h
  · refine .inl (e.rd h fun hm => ?_).1
    obtain ⟨i, o, _, _, r⟩ := s.mem hm
    exact r.notTup ys h
  · exact .inr h
theorem ExtR.imL (e : ExtR w w') {ys : List V} (h : ImL w a ys) : ImL w' a ys :=
  ⟨e.keep a _ h.1 h.2.1, e.notin h.1 h.2.1, fun hm => (e.rs a hm).elim h.2.2 fun z => by rw [h.1] at z; cases z⟩
theorem ExtR.roL (s : Sim c w) (e : ExtR w w') {ys : List V} (h : RoL c w a ys) : RoL c w' a ys := by
  rcases h with ⟨o, h⟩ | h
  · refine .inl ⟨o, e.keep a _ h fun hm => ?_⟩
    obtain ⟨i, q, _, _, r⟩ := s.mem hm
    cases q with
    | lst xs => obtain ⟨zs, hz, _⟩ := r; rw [hz] at h; cases h
    | dct ks vs => obtain ⟨zs, hz, _⟩ := r; rcases hz with ⟨_, _, _, hz⟩ | ⟨_, _, _, hz⟩ <;> (rw [hz] at h; cases h)
  · exact .inr h
theorem DcH.some {H : Hp} {ks : List DKey} {ys : List V} (h : DcH H a ks ys) : ∃ o, H a = some o := by
  rcases h with ⟨_, _, _, h⟩ | ⟨_, _, _, h⟩ <;> exact ⟨_, h⟩
theorem ExtR.imD (e : ExtR w w') {ks : List DKey} {ys : List V} (h : ImD c w a ks ys) : ImD c w' a ks ys := by
  obtain ⟨h, n, r⟩ := h
  obtain ⟨o, ho⟩ := h.some
  refine ⟨?_, e.notin ho n, fun hm => (e.rs a hm).elim r fun z => by rw [ho] at z; cases z⟩
  rcases h with ⟨kk, h1, h2, h4⟩ | ⟨kk, h1, h2, h4⟩
  · exact .inl ⟨kk, h1, h2, e.keep a _ h4 n⟩
  · exact .inr ⟨kk, h1, h2, e.keep a _ h4 n⟩
mutual
theorem RV.extR (s : Sim c w) (e : ExtR w w') : ∀ (x : Val) (v : V), RV c w x v → RV c w' x v
  | .non, _, h => h
  | .bl _, _, h => h
  | .int _, _, h => h
  | .str _, _, h => h
  | .tup xs, _, ⟨a, ys, e1, e2, e3⟩ => ⟨a, ys, e1, e.sqT s e2, RVs.extR s e xs ys e3⟩
  | .lst xs, _, ⟨a, ys, e1, e2, e3⟩ => ⟨a, ys, e1, e.imL e2, RVs.extR s e xs ys e3⟩
  | .rol xs, _, ⟨a, ys, e1, e2, e3⟩ => ⟨a, ys, e1, e.roL s e2, RVs.extR s e xs ys e3⟩
  | .ref n, _, ⟨a, e1, e2⟩ => ⟨a, e1, e.pre_get e2⟩
  | .fn _, _, h => h
  | .ty _, _, h => h
  | .dct ks vs, _, ⟨a, ys, e1, e2, e3⟩ => ⟨a, ys, e1, e.imD e2, RVs.extR s e vs ys e3⟩
theorem RVs.extR (s : Sim c w) (e : ExtR w w') : ∀ (xs : List Val) (ys : List V), RVs c w xs ys → RVs c w' xs ys
  | [], _, h => h
  | x :: xs, _, ⟨y, r, e1, e2, e3⟩ => ⟨y, r, e1, RV.extR s e x y e2, RVs.extR s e xs r e3⟩
end
theorem Ext.sqT (s : Sim c w) (e : Ext w w') {ys : List V} (h : SqT c.K w.H a ys) : SqT c.K w'.H a ys := e.r.sqT s h
theorem Ext.imL (e : Ext w w') {ys : List V} (h : ImL w a ys) : ImL w' a ys := e.r.imL h
theorem RV.ext (s : Sim c w) (e : Ext w w') (x : Val) (v : V) (h : RV c w x v) : RV c w' x v := RV.extR s e.r x v h
theorem RVs.ext (s : Sim c w) (e : Ext w w') (xs : List Val) (ys : List V) (h : RVs c w xs ys) : RVs c w' xs ys := RVs.extR s e.r xs ys h
end

/-! ### slots -/
def RSl (c : Ct) (w : Wd) : Sl → St → Prop
  | [], σ => σ = []
  | none :: sl, σ => ∃ y r, σ = y :: r ∧ RSl c w sl r
  | some x :: sl, σ => ∃ y r, σ = some y :: r ∧ RV c w x y ∧ RSl c w sl r
section
variable {c : Ct} {w w' : Wd}
theorem RSl.ext (s : Sim c w) (e : Ext w w') : ∀ {sl : Sl} {σ : St}, RSl c w sl σ → RSl c w' sl σ
  | [], _, h => h
  | none :: sl, _, ⟨y, r, e1, e2⟩ => ⟨y, r, e1, RSl.ext s e e2⟩
  | some x :: sl, _, ⟨y, r, e1, e2, e3⟩ => ⟨y, r, e1, RV.ext s e x y e2, RSl.ext s e e3⟩
theorem RSl.get : ∀ {sl : Sl} {σ : St} {i : Nat} {x : Val}, RSl c w sl σ → sl[i]? = some (some x) → ∃ y, σ[i]? = some (some y) ∧ RV c w x y
  | none :: sl, _, 0, x, _, h => by simp at h
  | some x :: sl, _, 0, _, ⟨y, r, e1, e2, _⟩, h => by
    simp at h; subst h; subst e1
    exact ⟨y, by simp, e2⟩
  | none :: sl, _, i + 1, x, ⟨y, r, e1, e2⟩, h => by
    subst e1
    obtain ⟨z, h1, h2⟩ := RSl.get (i := i) e2 (by simpa using h)
    exact ⟨z, by simpa using h1, h2⟩
  | some _ :: sl, _, i + 1, x, ⟨y, r, e1, _, e2⟩, h => by
    subst e1
    obtain ⟨z, h1, h2⟩ := RSl.get (i := i) e2 (by simpa using h)
    exact ⟨z, by simpa using h1, h2⟩
theorem RSl.len : ∀ {sl : Sl} {σ : St}, RSl c w sl σ → σ.length = sl.length
  | [], _, h => by rw [h]; rfl
  | none :: sl, _, ⟨y, r, e1, e2⟩ => by rw [e1]; simp [RSl.len e2]
  | some x :: sl, _, ⟨y, r, e1, _, e2⟩ => by rw [e1]; simp [RSl.len e2]
theorem RSl.set {x : Val} {v : V} (rv : RV c w x v) : ∀ {sl : Sl} {σ : St} (i : Nat), RSl c w sl σ → RSl c w (sl.set i (some x)) (σ.set i (some v))
  | [], _, _, h => by rw [h]; simp [RSl]
  | none :: sl, _, 0, ⟨y, r, e1, e2⟩ => by subst e1; exact ⟨v, r, rfl, rv, e2⟩
  | some _ :: sl, _, 0, ⟨y, r, e1, _, e2⟩ => by subst e1; exact ⟨v, r, rfl, rv, e2⟩
  | none :: sl, _, i + 1, ⟨y, r, e1, e2⟩ => by subst e1; exact ⟨y, r.set i (some v), rfl, RSl.set rv i e2⟩
  | some _ :: sl, _, i + 1, ⟨y, r, e1, e2, e3⟩ => by subst e1; exact ⟨y, r.set i (some v), rfl, e2, RSl.set rv i e3⟩
/-- slots forgotten -/
def wipeS (σ : Sl) : List Nat → Sl
  | [] => σ
  | v :: vs => (wipeS σ vs).set v none
theorem RSl.set0 : ∀ {sl : Sl} {σ : St} (i : Nat) (z : Option V), RSl c w sl σ → RSl c w (sl.set i none) (σ.set i z)
  | [], _, _, _, h => by rw [h]; simp [RSl]
  | none :: sl, _, 0, z, ⟨y, r, e1, e2⟩ => by subst e1; exact ⟨z, r, rfl, e2⟩
  | some _ :: sl, _, 0, z, ⟨y, r, e1, _, e2⟩ => by subst e1; exact ⟨z, r, rfl, e2⟩
  | none :: sl, _, i + 1, z, ⟨y, r, e1, e2⟩ => by subst e1; exact ⟨y, r.set i z, rfl, RSl.set0 i z e2⟩
  | some _ :: sl, _, i + 1, z, ⟨y, r, e1, e2, e3⟩ => by subst e1; exact ⟨y, r.set i z, rfl, e2, RSl.set0 i z e3⟩
theorem RSl.wipe {sl : Sl} {σ : St} (h : RSl c w sl σ) : ∀ vs : List Nat, RSl c w (wipeS sl vs) (L2.wipe σ vs)
  | [] => h
  | v :: vs => RSl.set0 v none (RSl.wipe h vs)
end

/-! ### exceptions -/
/-- an exception as HandS tells it -/
def RX (c : Ct) (w : Wd) (e : Exn) (cls : Value) (d : Option Addr) : Prop :=
  ∃ C, c.ca e.c = some C ∧ cls = .ref C ∧ ((e.fs = [] ∧ d = none) ∨ ∃ dx ys, d = some dx ∧ e.fs ≠ [] ∧ ys.length = e.fs.length ∧ w.H dx = some (.xd ((e.fs.map (·.1)).zip ys)) ∧ RVs c w (e.fs.map (·.2)) ys)

/-! ### what is wanted of an end -/
def Post (c : Ct) (w : Wd) (r : Res Val) (Q : VK) (E : XK) : Prop := match r with
  | .ok v μ' => ∀ w', w'.μ = μ' → Ext w w' → Sim c w' → ∀ x, RV c w' v x → Q x w'.H
  | .exc e μ' => ∀ w', w'.μ = μ' → Ext w w' → Sim c w' → ∀ cls d, RX c w' e cls d → E cls d w'.H
  | .stuck => False
def PostB (c : Ct) (w : Wd) (r : Res Bool) (Q : Bool → Hp → Prop) (E : XK) : Prop := match r with
  | .ok b μ' => ∀ w', w'.μ = μ' → Ext w w' → Sim c w' → Q b w'.H
  | .exc e μ' => ∀ w', w'.μ = μ' → Ext w w' → Sim c w' → ∀ cls d, RX c w' e cls d → E cls d w'.H
  | .stuck => False
def PostL (c : Ct) (w : Wd) (r : Res (List Val)) (Q : List V → Hp → Prop) (E : XK) : Prop := match r with
  | .ok vs μ' => ∀ w', w'.μ = μ' → Ext w w' → Sim c w' → ∀ xs, RVs c w' vs xs → Q xs w'.H
  | .exc e μ' => ∀ w', w'.μ = μ' → Ext w w' → Sim c w' → ∀ cls d, RX c w' e cls d → E cls d w'.H
  | .stuck => False
/-- a new list -/
def PostF (c : Ct) (w : Wd) (r : Res (List Val)) (Q : VK) (E : XK) : Prop := match r with
  | .ok vs μ' => ∀ w', w'.μ = μ' → Ext w w' → Sim c w' → ∀ D ys, w'.H D = none → RVs c w' vs ys → Q (.ref D) (upd w'.H D (.lst ys))
  | .exc e μ' => ∀ w', w'.μ = μ' → Ext w w' → Sim c w' → ∀ cls d, RX c w' e cls d → E cls d w'.H
  | .stuck => False
def PostS (c : Ct) (w : Wd) (r : Flow) (D : Ends) (W : WX) : Prop := match r with
  | .nx sl μ' => ∀ w', w'.μ = μ' → Ext w w' → Sim c w' → ∀ σ, RSl c w' sl σ → D.nx σ w'.H
  | .rt v μ' => ∀ w', w'.μ = μ' → Ext w w' → Sim c w' → ∀ x, RV c w' v x → D.rt x w'.H
  | .bk sl μ' => ∀ w', w'.μ = μ' → Ext w w' → Sim c w' → ∀ σ, RSl c w' sl σ → D.bk σ w'.H
  | .ct sl μ' => ∀ w', w'.μ = μ' → Ext w w' → Sim c w' → ∀ σ, RSl c w' sl σ → D.ct σ w'.H
  | .exc e sl μ' => ∀ w', w'.μ = μ' → Ext w w' → Sim c w' → ∀ σ cls d, RSl c w' sl σ → RX c w' e cls d → W cls d σ w'.H
  | .stuck => False
section
variable {c : Ct} {w w1 : Wd}
theorem Post.ext {r : Res Val} {Q : VK} {E : XK} (h : Post c w r Q E) (e : Ext w w1) : Post c w1 r Q E := by
  cases r with
  | ok v μ => exact fun w' a b d x r => h w' a (e.trans b) d x r
  | exc x μ => exact fun w' a b d cls dd r => h w' a (e.trans b) d cls dd r
  | stuck => exact h
theorem PostB.ext {r : Res Bool} {Q : Bool → Hp → Prop} {E : XK} (h : PostB c w r Q E) (e : Ext w w1) : PostB c w1 r Q E := by
  cases r with
  | ok v μ => exact fun w' a b d => h w' a (e.trans b) d
  | exc x μ => exact fun w' a b d cls dd r => h w' a (e.trans b) d cls dd r
  | stuck => exact h
theorem PostL.ext {r : Res (List Val)} {Q : List V → Hp → Prop} {E : XK} (h : PostL c w r Q E) (e : Ext w w1) : PostL c w1 r Q E := by
  cases r with
  | ok v μ => exact fun w' a b d x r => h w' a (e.trans b) d x r
  | exc x μ => exact fun w' a b d cls dd r => h w' a (e.trans b) d cls dd r
  | stuck => exact h
theorem PostF.ext {r : Res (List Val)} {Q : VK} {E : XK} (h : PostF c w r Q E) (e : Ext w w1) : PostF c w1 r Q E := by
  cases r with
  | ok v μ => exact fun w' a b d x r => h w' a (e.trans b) d x r
  | exc x μ => exact fun w' a b d cls dd r => h w' a (e.trans b) d cls dd r
  | stuck => exact h
theorem PostS.ext {r : Flow} {D : Ends} {W : WX} (h : PostS c w r D W) (e : Ext w w1) : PostS c w1 r D W := by
  cases r with
  | nx v μ => exact fun w' a b d x r => h w' a (e.trans b) d x r
  | rt v μ => exact fun w' a b d x r => h w' a (e.trans b) d x r
  | bk v μ => exact fun w' a b d x r => h w' a (e.trans b) d x r
  | ct v μ => exact fun w' a b d x r => h w' a (e.trans b) d x r
  | exc x v μ => exact fun w' a b d σ cls dd r r2 => h w' a (e.trans b) d σ cls dd r r2
  | stuck => exact h
end

/-! ### the readings -/
def TE' (c : Ct) (W : WX) (m : M Val) : TE := fun σ H Q => ∃ w sl, w.H = H ∧ Sim c w ∧ RSl c w sl σ ∧ Post c w (m sl w.μ) Q (fun cls d H' => W cls d σ H')
def TT' (c : Ct) (W : WX) (m : M Bool) : TT := fun σ H Q => ∃ w sl, w.H = H ∧ Sim c w ∧ RSl c w sl σ ∧ PostB c w (m sl w.μ) Q (fun cls d H' => W cls d σ H')
def TA' (c : Ct) (W : WX) (m : M (List Val)) : TA := fun σ H Q => ∃ w sl, w.H = H ∧ Sim c w ∧ RSl c w sl σ ∧ PostL c w (m sl w.μ) Q (fun cls d H' => W cls d σ H')
def TF' (c : Ct) (W : WX) (m : M (List Val)) : TE := fun σ H Q => ∃ w sl, w.H = H ∧ Sim c w ∧ RSl c w sl σ ∧ PostF c w (m sl w.μ) Q (fun cls d H' => W cls d σ H')
def TS' (c : Ct) (W : WX) (m : B) : TS := fun D σ H => ∃ w sl, w.H = H ∧ Sim c w ∧ RSl c w sl σ ∧ PostS c w (m sl w.μ) D W
end G

/-! G2: expressions: readings lifted. -/
namespace G
open PySem PySem.Spec PyProof.Rows L2

/-! ### worlds that go on -/
section
variable {c : Ct} {w w' : Wd} {p : Addr} {ho : HO}
theorem fresh_ext (n : w.H p = none) : Ext w { w with H := upd w.H p ho } :=
  ⟨⟨[], by simp, fun _ h => nomatch h⟩, rfl, fun a o h _ => by show upd w.H p ho a = _; rw [upd_ne (ne_of_none h n)]; exact h, fun a h => by
    show upd w.H p ho a ≠ none
    by_cases e : a = p
    · rw [e, upd_same]; exact fun z => nomatch z
    · rw [upd_ne e]; exact h⟩
theorem RO.some {a : Addr} {o : Ob} (h : RO c w a o) : ∃ x, w.H a = some x := by
  cases o with
  | lst xs => obtain ⟨ys, e, _⟩ := h; exact ⟨_, e⟩
  | dct ks vs => obtain ⟨ys, e, _⟩ := h; exact e.some
theorem DcH.congr {H H' : Hp} {a : Addr} {ks : List DKey} {ys : List V} (e : H' a = H a) (h : DcH H a ks ys) : DcH H' a ks ys := by
  rcases h with ⟨kk, h1, h2, h4⟩ | ⟨kk, h1, h2, h4⟩
  · exact .inl ⟨kk, h1, h2, e.trans h4⟩
  · exact .inr ⟨kk, h1, h2, e.trans h4⟩
theorem RO.go {a : Addr} {o : Ob} (s : Sim c w) (e : Ext w w') (k : w'.H a = w.H a) (h : RO c w a o) : RO c w' a o := by
  cases o with
  | lst xs => obtain ⟨ys, q, r⟩ := h; exact ⟨ys, k.trans q, RVs.ext s e _ _ r⟩
  | dct ks vs => obtain ⟨ys, q, r⟩ := h; exact ⟨ys, q.congr k, RVs.ext s e _ _ r⟩
theorem Sim.ne_new (s : Sim c w) (n : w.H p = none) {a : Addr} (h : a ∈ w.ρ) : a ≠ p := by
  obtain ⟨_, _, _, _, r⟩ := s.mem h
  obtain ⟨x, hx⟩ := r.some
  exact ne_of_none hx n
theorem fresh_sim (s : Sim c w) (n : w.H p = none) : Sim c { w with H := upd w.H p ho } :=
  ⟨s.len, s.nd, fun i a o h1 h2 => (s.ob i a o h1 h2).go s (fresh_ext n) (upd_ne (s.ne_new n (List.mem_of_getElem? h1))), fun a h => by
    obtain ⟨h1, xs, h2⟩ := s.rs a h
    exact ⟨h1, xs, by show upd w.H p ho a = _; rw [upd_ne (ne_of_none h2 n)]; exact h2⟩⟩
theorem alloc_ext {o : Ob} (n : w.H p = none) : Ext w { w with ρ := w.ρ ++ [p], μ := w.μ ++ [o], H := upd w.H p ho } :=
  ⟨⟨[p], rfl, fun a h => by rw [List.mem_singleton.mp h]; exact n⟩, rfl, (fresh_ext n).keep, (fresh_ext n).there⟩
theorem alloc_sim {o : Ob} (s : Sim c w) (n : w.H p = none) (h : RO c { w with ρ := w.ρ ++ [p], μ := w.μ ++ [o], H := upd w.H p ho } p o) (hr : p ∉ w.rs) : Sim c { w with ρ := w.ρ ++ [p], μ := w.μ ++ [o], H := upd w.H p ho } := by
  refine ⟨by simp [s.len], ?_, fun i a o' h1 h2 => ?_, fun a ha => ?_⟩
  · rw [List.nodup_append]
    refine ⟨s.nd, by simp, fun a ha b hb => ?_⟩
    rw [List.mem_singleton.mp hb]
    exact s.ne_new n ha
  · have h1 : (w.ρ ++ [p])[i]? = some a := h1
    have h2 : (w.μ ++ [o])[i]? = some o' := h2
    by_cases hi : i < w.ρ.length
    · rw [List.getElem?_append_left hi] at h1
      rw [List.getElem?_append_left (by rw [← s.len]; exact hi)] at h2
      exact (s.ob i a o' h1 h2).go s (alloc_ext n) (upd_ne (s.ne_new n (List.mem_of_getElem? h1)))
    · rw [List.getElem?_append_right (by omega)] at h1
      rw [List.getElem?_append_right (by rw [← s.len]; omega)] at h2
      have e : i - w.ρ.length = 0 := by
        have := (List.getElem?_eq_some_iff.mp h1).1
        simp at this; omega
      rw [e] at h1
      rw [← s.len, e] at h2
      simp at h1 h2
      subst h1 h2
      exact h
  · obtain ⟨h1, xs, h2⟩ := s.rs a ha
    refine ⟨fun hm => ?_, xs, by show upd w.H p ho a = _; rw [upd_ne (ne_of_none h2 n)]; exact h2⟩
    rcases List.mem_append.mp hm with hm | hm
    · exact h1 hm
    · rw [List.mem_singleton.mp hm] at ha; exact hr ha
theorem Sim.rs_new (s : Sim c w) (n : w.H p = none) : p ∉ w.rs := fun h => by
  obtain ⟨_, xs, h2⟩ := s.rs p h
  rw [n] at h2; exact nomatch h2
theorem nodup_get {l : List Addr} (h : l.Nodup) {i j : Nat} {a : Addr} (h1 : l[i]? = some a) (h2 : l[j]? = some a) : i = j := by
  obtain ⟨l1, e1⟩ := List.getElem?_eq_some_iff.mp h1
  obtain ⟨l2, e2⟩ := List.getElem?_eq_some_iff.mp h2
  exact (List.getElem_inj h).mp (e1.trans e2.symm)
theorem set_ext {n : Nat} {o : Ob} (h : w.ρ[n]? = some p) : Ext w { w with μ := w.μ.set n o, H := upd w.H p ho } :=
  ⟨⟨[], by simp, fun _ h => nomatch h⟩, rfl, fun a o' h1 h2 => by
    have : a ≠ p := fun e => h2 (by rw [e]; exact List.mem_of_getElem? h)
    show upd w.H p ho a = _
    rw [upd_ne this]; exact h1, fun a h' => by
    show upd w.H p ho a ≠ none
    by_cases e : a = p
    · rw [e, upd_same]; exact fun z => nomatch z
    · rw [upd_ne e]; exact h'⟩
theorem set_sim {n : Nat} {o : Ob} (s : Sim c w) (h : w.ρ[n]? = some p) (ro : RO c { w with μ := w.μ.set n o, H := upd w.H p ho } p o) : Sim c { w with μ := w.μ.set n o, H := upd w.H p ho } := by
  refine ⟨by simp [s.len], s.nd, fun i a o' h1 h2 => ?_, fun a ha => ?_⟩
  · have h1 : w.ρ[i]? = some a := h1
    have h2 : (w.μ.set n o)[i]? = some o' := h2
    by_cases e : i = n
    · subst e
      rw [h] at h1
      cases h1
      rw [List.getElem?_set_self (by have := (List.getElem?_eq_some_iff.mp h2).1; simpa using this)] at h2
      cases h2
      exact ro
    · rw [List.getElem?_set_ne (Ne.symm e)] at h2
      exact (s.ob i a o' h1 h2).go s (set_ext h) (upd_ne fun z => e (nodup_get s.nd h1 (z ▸ h)))
  · obtain ⟨h1, xs, h2⟩ := s.rs a ha
    refine ⟨h1, xs, ?_⟩
    show upd w.H p ho a = _
    rw [upd_ne fun z => h1 (by rw [z]; exact List.mem_of_getElem? h)]
    exact h2
end

/-! ### Val's lengths, places -/
section
variable {c : Ct} {w : Wd}
theorem RVs.length : ∀ {xs : List Val} {ys : List V}, RVs c w xs ys → xs.length = ys.length
  | [], _, h => by rw [h]; rfl
  | x :: xs, _, ⟨y, r, e, _, h⟩ => by rw [e]; simp [RVs.length h]
theorem RVs.get : ∀ {xs : List Val} {ys : List V} {i : Nat} {x : Val}, RVs c w xs ys → xs[i]? = some x → ∃ y, ys[i]? = some y ∧ RV c w x y
  | [], _, _, _, _, h => by simp at h
  | x :: xs, _, 0, _, ⟨y, r, e, q, _⟩, h => by simp at h; subst h; subst e; exact ⟨y, by simp, q⟩
  | x :: xs, _, i + 1, _, ⟨y, r, e, _, q⟩, h => by
    subst e
    obtain ⟨z, h1, h2⟩ := RVs.get (i := i) q (by simpa using h)
    exact ⟨z, by simpa using h1, h2⟩
theorem RVs.append : ∀ {xs xs' : List Val} {ys ys' : List V}, RVs c w xs ys → RVs c w xs' ys' → RVs c w (xs ++ xs') (ys ++ ys')
  | [], _, _, _, h, h' => by rw [h]; exact h'
  | x :: xs, _, _, _, ⟨y, r, e, q, h⟩, h' => by subst e; exact ⟨y, r ++ _, rfl, q, RVs.append h h'⟩
theorem RVs.take : ∀ {xs : List Val} {ys : List V} (n : Nat), RVs c w xs ys → RVs c w (xs.take n) (ys.take n)
  | [], _, n, h => by rw [h]; cases n <;> exact (rfl : ([] : List V) = [])
  | x :: xs, _, 0, _ => (rfl : ([] : List V) = [])
  | x :: xs, _, n + 1, ⟨y, r, e, q, h⟩ => by subst e; exact ⟨y, r.take n, rfl, q, RVs.take n h⟩
theorem RVs.drop : ∀ {xs : List Val} {ys : List V} (n : Nat), RVs c w xs ys → RVs c w (xs.drop n) (ys.drop n)
  | [], _, n, h => by rw [h]; cases n <;> exact (rfl : ([] : List V) = [])
  | x :: xs, _, 0, h => h
  | x :: xs, _, n + 1, ⟨y, r, e, q, h⟩ => by subst e; exact RVs.drop n h
theorem RVs.set {x : Val} {v : V} (rv : RV c w x v) : ∀ {xs : List Val} {ys : List V} (i : Nat), RVs c w xs ys → RVs c w (xs.set i x) (ys.set i v)
  | [], _, _, h => by rw [h]; exact (rfl : ([] : List V) = [])
  | _ :: xs, _, 0, ⟨y, r, e, _, h⟩ => by subst e; exact ⟨v, r, rfl, rv, h⟩
  | _ :: xs, _, i + 1, ⟨y, r, e, q, h⟩ => by subst e; exact ⟨y, r.set i v, rfl, q, RVs.set rv i h⟩
theorem RVs.reverse {xs : List Val} {ys : List V} (h : RVs c w xs ys) : RVs c w xs.reverse ys.reverse := by
  induction xs generalizing ys with
  | nil => rw [h]; exact (rfl : ([] : List V) = [])
  | cons x xs ih =>
    obtain ⟨y, r, e, q, h⟩ := h
    subst e
    rw [List.reverse_cons, List.reverse_cons]
    exact (ih h).append ⟨y, [], rfl, q, rfl⟩
theorem RVs.eraseIdx : ∀ {xs : List Val} {ys : List V} (i : Nat), RVs c w xs ys → RVs c w (xs.eraseIdx i) (ys.eraseIdx i)
  | [], _, _, h => by rw [h]; exact (rfl : ([] : List V) = [])
  | _ :: xs, _, 0, ⟨y, r, e, _, h⟩ => by subst e; exact h
  | _ :: xs, _, i + 1, ⟨y, r, e, q, h⟩ => by subst e; exact ⟨y, r.eraseIdx i, rfl, q, RVs.eraseIdx i h⟩
theorem RVs.dropLast {xs : List Val} {ys : List V} (h : RVs c w xs ys) : RVs c w xs.dropLast ys.dropLast := by
  rw [List.dropLast_eq_take, List.dropLast_eq_take, h.length]
  exact h.take _
end

/-! ### what a list at hand is -/
/-- a mutable thing's contents -/
def look (μ : Mu) : Val → Val
  | .ref n => match μ[n]? with
    | some (.lst xs) => .lst xs
    | some (.dct ks vs) => .dct ks vs
    | none => .ref n
  | .rol xs => .lst xs
  | v => v
/-- items of a list or a tuple at hand -/
def seqOf (μ : Mu) (v : Val) : Option (List Val) := match look μ v with
  | .lst xs => some xs
  | .tup xs => some xs
  | _ => none
section
variable {c : Ct} {w : Wd} {x : Val} {v : V}
theorem look_lst (s : Sim c w) (r : RV c w x v) {xs : List Val} (h : look w.μ x = .lst xs) : ∃ a ys, v = .ref a ∧ SqL c.K w.H a ys ∧ RVs c w xs ys := by
  cases x with
  | ref n =>
    obtain ⟨a, e, hn⟩ := r
    have hl : n < w.μ.length := by rw [← s.len]; exact (List.getElem?_eq_some_iff.mp hn).1
    have hg := List.getElem?_eq_getElem hl
    have ro := s.ob n a _ hn hg
    simp only [look, hg] at h
    revert h ro
    cases w.μ[n] with
    | lst zs => intro ro h; cases h; obtain ⟨ys, q, r⟩ := ro; exact ⟨a, ys, e, SqL.of q, r⟩
    | dct ks vs => intro _ h; cases h
  | lst zs =>
    cases h
    obtain ⟨a, ys, e, q, r⟩ := r
    exact ⟨a, ys, e, q.sq, r⟩
  | rol zs =>
    cases h
    obtain ⟨a, ys, e, q, r⟩ := r
    exact ⟨a, ys, e, q.sq, r⟩
  | non => cases h
  | bl _ => cases h
  | int _ => cases h
  | str _ => cases h
  | tup _ => cases h
  | fn _ => cases h
  | ty _ => cases h
  | dct _ _ => cases h
theorem look_tup (s : Sim c w) (r : RV c w x v) {xs : List Val} (h : look w.μ x = .tup xs) : ∃ a ys, v = .ref a ∧ SqT c.K w.H a ys ∧ RVs c w xs ys := by
  cases x with
  | ref n =>
    unfold look at h
    dsimp only at h
    split at h <;> cases h
  | tup zs =>
    cases h
    obtain ⟨a, ys, e, q, r⟩ := r
    exact ⟨a, ys, e, q, r⟩
  | non => cases h
  | bl _ => cases h
  | int _ => cases h
  | str _ => cases h
  | lst _ => cases h
  | rol _ => cases h
  | fn _ => cases h
  | ty _ => cases h
  | dct _ _ => cases h
theorem look_int (r : RV c w x v) {i : Int} (h : look w.μ x = .int i) : v = .int i := by
  cases x with
  | ref n => unfold look at h; dsimp only at h; split at h <;> cases h
  | int j => cases h; exact r
  | non => cases h
  | bl _ => cases h
  | str _ => cases h
  | lst _ => cases h
  | tup _ => cases h
  | rol _ => cases h
  | fn _ => cases h
  | ty _ => cases h
  | dct _ _ => cases h
theorem look_bl (r : RV c w x v) {i : Bool} (h : look w.μ x = .bl i) : v = .bl i := by
  cases x with
  | ref n => unfold look at h; dsimp only at h; split at h <;> cases h
  | bl j => cases h; exact r
  | non => cases h
  | int _ => cases h
  | str _ => cases h
  | lst _ => cases h
  | tup _ => cases h
  | rol _ => cases h
  | fn _ => cases h
  | ty _ => cases h
  | dct _ _ => cases h
theorem look_str (r : RV c w x v) {i : Str} (h : look w.μ x = .str i) : v = .str i := by
  cases x with
  | ref n => unfold look at h; dsimp only at h; split at h <;> cases h
  | str j => cases h; exact r
  | non => cases h
  | int _ => cases h
  | bl _ => cases h
  | lst _ => cases h
  | tup _ => cases h
  | rol _ => cases h
  | fn _ => cases h
  | ty _ => cases h
  | dct _ _ => cases h
theorem seqOf_sq (s : Sim c w) (r : RV c w x v) {xs : List Val} (h : seqOf w.μ x = some xs) : ∃ a ys, v = .ref a ∧ (SqL c.K w.H a ys ∨ SqT c.K w.H a ys) ∧ RVs c w xs ys := by
  unfold seqOf at h
  revert h
  cases e : look w.μ x with
  | lst zs => intro h; cases h; obtain ⟨a, ys, h1, h2, h3⟩ := look_lst s r e; exact ⟨a, ys, h1, .inl h2, h3⟩
  | tup zs => intro h; cases h; obtain ⟨a, ys, h1, h2, h3⟩ := look_tup s r e; exact ⟨a, ys, h1, .inr h2, h3⟩
  | non => intro h; cases h
  | bl _ => intro h; cases h
  | int _ => intro h; cases h
  | str _ => intro h; cases h
  | ref _ => intro h; cases h
  | rol _ => intro h; cases h
  | fn _ => intro h; cases h
  | ty _ => intro h; cases h
  | dct _ _ => intro h; cases h
end

/-! ### ends -/
section
variable {c : Ct} {w : Wd} {Q : VK} {E : XK}
theorem Post.here {v : Val} {x : V} (h : Post c w (.ok v w.μ) Q E) (s : Sim c w) (r : RV c w v x) : Q x w.H := h w rfl (Ext.refl w) s x r
theorem Post.tup {vs : List Val} {ys : List V} {p : Addr} (h : Post c w (.ok (.tup vs) w.μ) Q E) (s : Sim c w) (r : RVs c w vs ys) (n : w.H p = none) : Q (.ref p) (upd w.H p (.tup ys)) :=
  h { w with H := upd w.H p (.tup ys) } rfl (fresh_ext n) (fresh_sim s n) _ ⟨p, ys, rfl, SqT.of upd_same, RVs.ext s (fresh_ext n) _ _ r⟩
theorem Post.lst {vs : List Val} {ys : List V} {p : Addr} (h : Post c w (.ok (.lst vs) w.μ) Q E) (s : Sim c w) (r : RVs c w vs ys) (n : w.H p = none) : Q (.ref p) (upd w.H p (.lst ys)) :=
  h { w with H := upd w.H p (.lst ys) } rfl (fresh_ext n) (fresh_sim s n) _ ⟨p, ys, rfl, ⟨upd_same, fun hm => s.ne_new n hm rfl, s.rs_new n⟩, RVs.ext s (fresh_ext n) _ _ r⟩
theorem _root_.L2.PE.imp {X : Cx} {e : Expr} {t t' : TE} (h : PE X e t) (k : ∀ σ H Q, t' σ H Q → t σ H Q) : PE X e t' := ⟨fun pins s σ H Q I hw => h.run pins s σ H Q I (k σ H Q hw)⟩
theorem _root_.L2.PT.imp {X : Cx} {e : Expr} {t t' : TT} (h : PT X e t) (k : ∀ σ H Q, t' σ H Q → t σ H Q) : PT X e t' := ⟨fun pins s σ H Q I hw => h.run pins s σ H Q I (k σ H Q hw)⟩
theorem _root_.L2.PW.imp {X : Cx} {e : Expr} {t t' : TT} (h : PW X e t) (k : ∀ σ H Q, t' σ H Q → t σ H Q) : PW X e t' := ⟨fun wh pins s σ H Q I hw => h.run wh pins s σ H Q I (k σ H Q hw)⟩
theorem _root_.L2.PA.imp {X : Cx} {e : List Expr} {t t' : TA} (h : PA X e t) (k : ∀ σ H Q, t' σ H Q → t σ H Q) : PA X e t' := ⟨fun p pins s σ H Q I hw => h.run p pins s σ H Q I (k σ H Q hw)⟩
theorem _root_.L2.PS.imp {X : Cx} {e : Stmt} {t t' : TS} (h : PS X e t) (k : ∀ D σ H, t' D σ H → t D σ H) : PS X e t' := ⟨fun pins s σ H D I hw => h.run pins s σ H D I (k D σ H hw)⟩
theorem _root_.L2.PSs.imp {X : Cx} {e : List Stmt} {t t' : TS} (h : PSs X e t) (k : ∀ D σ H, t' D σ H → t D σ H) : PSs X e t' := ⟨fun pins s σ H D I hw => h.run pins s σ H D I (k D σ H hw)⟩
end

/-! ### the pieces of programs -/
def mvar (i : Nat) : M Val := fun sl μ => match sl[i]? with
  | some (some v) => .ok v μ
  | _ => .stuck
def mcst (v : Val) : M Val := fun _ μ => .ok v μ
/-- in a row -/
def andThen {α β : Type} (m : M α) (f : α → M β) : M β := fun sl μ => match m sl μ with
  | .ok a μ' => f a sl μ'
  | .exc e μ' => .exc e μ'
  | .stuck => .stuck
def mop2 (g : Val → Val → Mu → Res Val) (a b : M Val) : M Val := andThen a fun x => andThen b fun y => fun _ μ => g x y μ
def mop1 (g : Val → Mu → Res Val) (a : M Val) : M Val := andThen a fun x => fun _ μ => g x μ
def mimm (m : M (List Val)) : M Val := andThen m fun vs => fun _ μ => .ok (.lst vs) μ
def mmut (m : M (List Val)) : M Val := andThen m fun vs => fun _ μ => .ok (.ref μ.length) (μ ++ [.lst vs])

section
variable {c : Ct} {W : WX} {X : Cx} {a b : Expr} {ma mb : M Val} {pos : Pos}
/-- from a reading to what follows in a row -/
theorem te_then {β : Type} {w : Wd} {sl : Sl} {σ : St} {f : Val → M β} {R : Wd → Res β → Prop} {m : M Val}
    (hs : Sim c w) (hsl : RSl c w sl σ)
    (hexc : ∀ e μ', R w (.exc e μ') → ∀ w', w'.μ = μ' → Ext w w' → Sim c w' → ∀ cls d, RX c w' e cls d → W cls d σ w'.H)
    (hstuck : ¬ R w .stuck)
    (h : R w (andThen m f sl w.μ)) {K : VK}
    (k : ∀ v w', Ext w w' → Sim c w' → RSl c w' sl σ → R w (f v sl w'.μ) → ∀ x, RV c w' v x → K x w'.H) : TE' c W m σ w.H K := by
  refine ⟨w, sl, rfl, hs, hsl, ?_⟩
  unfold andThen at h
  cases e : m sl w.μ with
  | ok v μ' =>
    rw [e] at h
    intro w' hμ ext sim x rx
    subst hμ
    exact k v w' ext sim (hsl.ext hs ext) h x rx
  | exc x μ' =>
    rw [e] at h
    exact fun w' hμ ext sim cls d r => hexc x μ' h w' hμ ext sim cls d r
  | stuck => rw [e] at h; exact absurd h hstuck
theorem exc_post {w : Wd} {Q : VK} {σ : St} : ∀ e μ', Post c w (.exc e μ') Q (fun cls d H' => W cls d σ H') → ∀ w', w'.μ = μ' → Ext w w' → Sim c w' → ∀ cls d, RX c w' e cls d → W cls d σ w'.H := fun _ _ h => h
end
section
variable {c : Ct} {W : WX} {X : Cx} {a b : Expr} {ma mb : M Val} {pos : Pos}
theorem ge_var {i : Nat} {x : Str} (hN : X.N[i]? = some x) (hv : Vis X.env.scope x) (hd : (x == ("__debug__" : Str)) = false := by decide) (hcd : (x == ("__classdict__" : Str)) = false := by decide) : PE X (.Name x pos) (TE' c W (mvar i)) := by
  refine (pe_var hN hv hd hcd).imp fun σ H Q ⟨w, sl, e, s, rs, h⟩ => ?_
  subst e
  unfold mvar at h
  cases q : sl[i]? with
  | none => rw [q] at h; exact h.elim
  | some o =>
    cases o with
    | none => rw [q] at h; exact h.elim
    | some v =>
      rw [q] at h
      obtain ⟨y, h1, h2⟩ := rs.get q
      exact ⟨y, h1, h.here s h2⟩
theorem ge_cst {e : Expr} {v : Val} {x : V} (h : PE X e (tC x)) (r : ∀ w, RV c w v x) : PE X e (TE' c W (mcst v)) := by
  refine h.imp fun σ H Q ⟨w, sl, e, s, rs, h⟩ => ?_
  subst e
  exact h.here s (r w)
theorem ge_int {i j} : PE X (.Constant (.int i) j pos) (TE' c W (mcst (.int i))) := ge_cst pe_int fun _ => rfl
theorem ge_bl {b j} : PE X (.Constant (.bool b) j pos) (TE' c W (mcst (.bl b))) := ge_cst pe_bl fun _ => rfl
theorem ge_non {j} : PE X (.Constant .none j pos) (TE' c W (mcst .non)) := ge_cst pe_non fun _ => rfl
theorem ge_str {x j} : PE X (.Constant (.str x) j pos) (TE' c W (mcst (.str x))) := ge_cst pe_str fun _ => rfl

/-! ### operators -/
/-- an operator by values -/
def OpG (c : Ct) (X : Cx) (f : Value → Value → PySem.Sem Value) (g : Val → Val → Mu → Res Val) : Prop :=
  OpR X f fun x y H Q => ∃ w a b, w.H = H ∧ Sim c w ∧ RV c w a x ∧ RV c w b y ∧ Post c w (g a b w.μ) Q fun _ _ _ => False
/-- g never raises -/
def NoExc2 (g : Val → Val → Mu → Res Val) : Prop := ∀ a b μ e μ', g a b μ ≠ .exc e μ'
theorem Post.noexc {w : Wd} {r : Res Val} {Q : VK} {E E' : XK} (h : Post c w r Q E) (n : ∀ e μ', r ≠ .exc e μ') : Post c w r Q E' := by
  cases r with
  | ok v μ => exact h
  | exc e μ => exact absurd rfl (n e μ)
  | stuck => exact h
theorem lift2 {g : Val → Val → Mu → Res Val} (n : NoExc2 g) {σ : St} {H : Hp} {Q : VK} (h : TE' c W (mop2 g ma mb) σ H Q) :
    TE' c W ma σ H fun x H1 => TE' c W mb σ H1 fun y H2 => ∃ w a b, w.H = H2 ∧ Sim c w ∧ RV c w a x ∧ RV c w b y ∧ Post c w (g a b w.μ) Q fun _ _ _ => False := by
  obtain ⟨w, sl, e, s, rs, h⟩ := h
  subst e
  refine te_then (R := fun w r => Post c w r Q fun cls d H' => W cls d σ H') s rs exc_post (fun z => z) h fun v w1 e1 s1 rs1 h1 x rx => ?_
  have h1 := h1.ext e1
  refine te_then (R := fun w r => Post c w r Q fun cls d H' => W cls d σ H') s1 rs1 exc_post (fun z => z) h1 fun u w2 e2 s2 rs2 h2 y ry => ?_
  exact ⟨w2, v, u, rfl, s2, RV.ext s1 e2 _ _ rx, ry, (h2.ext e2).noexc (n _ _ _)⟩
theorem ge_op {op : Operator} {g : Val → Val → Mu → Res Val} (ho : OpG c X (binaryOp op) g) (n : NoExc2 g) (ha : PE X a (TE' c W ma)) (hb : PE X b (TE' c W mb)) : PE X (.BinOp a op b pos) (TE' c W (mop2 g ma mb)) :=
  (pe_op ho ha hb).imp fun _ _ _ h => lift2 n h
theorem ge_cmp {op : CmpOp} {g : Val → Val → Mu → Res Val} (ho : OpG c X (compareOp op) g) (n : NoExc2 g) (ha : PE X a (TE' c W ma)) (hb : PE X b (TE' c W mb)) (hm : behindInMarks op b = false) : PE X (.Compare a [op] [b] pos) (TE' c W (mop2 g ma mb)) :=
  (pe_cmpR ho ha hb hm).imp fun _ _ _ h => lift2 n h
end
end G

/-! G3: operators by values. -/
namespace G
open PySem PySem.Spec PyProof.Rows L2

def LIM : Nat := 16777216
theorem LIM_eq : LIM = sizeLine := by rw [sizeLine_eq]; rfl

/-! ### data -/
mutual
def toD : Val → PyData
  | .non => .none
  | .bl b => .bool b
  | .int i => .int i
  | .str s => .str s
  | .tup xs => .tuple (toDs xs)
  | .lst xs => .list (toDs xs)
  | .rol _ => .none
  | .ref _ => .none
  | .fn _ => .none
  | .ty _ => .none
  | .dct _ _ => .none
def toDs : List Val → List PyData
  | [] => []
  | x :: xs => toD x :: toDs xs
end
mutual
/-- data: its depth, if it is data -/
def dep : Val → Option Nat
  | .non => some 0
  | .bl _ => some 0
  | .int _ => some 0
  | .str s => if PyData.strOk s then some 0 else none
  | .tup xs => (deps xs).map (· + 1)
  | .lst xs => (deps xs).map (· + 1)
  | .rol _ => none
  | .ref _ => none
  | .fn _ => none
  | .ty _ => none
  | .dct _ _ => none
def deps : List Val → Option Nat
  | [] => some 0
  | x :: xs => match dep x, deps xs with
    | some a, some b => some (max a b)
    | _, _ => none
end
/-- data at most 60 deep -/
def shp (x : Val) : Bool := match dep x with
  | some n => decide (n ≤ 60)
  | none => false
mutual
def veq : Val → Val → Bool
  | .non, .non => true
  | .bl a, .bl b => a == b
  | .bl a, .int j => (if a then 1 else 0) == j
  | .int i, .bl b => i == (if b then 1 else 0)
  | .int i, .int j => i == j
  | .str x, .str y => x == y
  | .lst xs, .lst ys => veqs xs ys
  | .tup xs, .tup ys => veqs xs ys
  | _, _ => false
def veqs : List Val → List Val → Bool
  | [], [] => true
  | x :: xs, y :: ys => veq x y && veqs xs ys
  | _, _ => false
end
mutual
theorem dep_lay : ∀ (x : Val) (n : Nat), dep x = some n → (toD x).canLay0 = true ∧ (toD x).depth ≤ n
  | .non, n, h => ⟨rfl, Nat.zero_le _⟩
  | .bl _, n, h => ⟨rfl, Nat.zero_le _⟩
  | .int _, n, h => ⟨rfl, Nat.zero_le _⟩
  | .str s, n, h => by
    simp only [dep] at h
    split at h
    · rename_i hs
      exact ⟨by simp only [toD, PyData.canLay0]; exact hs, Nat.zero_le _⟩
    · cases h
  | .tup xs, n, h => by
    simp only [dep, Option.map_eq_some_iff] at h
    obtain ⟨m, h, e⟩ := h
    have := deps_lay xs m h
    simp only [toD, PyData.canLay0, PyData.depth]
    exact ⟨this.1, by omega⟩
  | .lst xs, n, h => by
    simp only [dep, Option.map_eq_some_iff] at h
    obtain ⟨m, h, e⟩ := h
    have := deps_lay xs m h
    simp only [toD, PyData.canLay0, PyData.depth]
    exact ⟨this.1, by omega⟩
  | .rol _, n, h => nomatch h
  | .ref _, n, h => nomatch h
  | .fn _, n, h => nomatch h
  | .ty _, n, h => nomatch h
  | .dct _ _, n, h => nomatch h
theorem deps_lay : ∀ (xs : List Val) (n : Nat), deps xs = some n → PyData.canLayAll0 (toDs xs) = true ∧ PyData.depthAll (toDs xs) ≤ n
  | [], n, h => ⟨rfl, Nat.zero_le _⟩
  | x :: xs, n, h => by
    simp only [deps] at h
    cases e1 : dep x with
    | none => rw [e1] at h; cases h
    | some a =>
      cases e2 : deps xs with
      | none => rw [e1, e2] at h; cases h
      | some b =>
        rw [e1, e2] at h
        cases h
        have h1 := dep_lay x a e1
        have h2 := deps_lay xs b e2
        simp only [toDs, PyData.canLayAll0, PyData.depthAll, h1.1, h2.1]
        exact ⟨rfl, by omega⟩
end
theorem shp_shaped {x : Val} (h : shp x = true) : SeqAt.shaped (toD x) = true := by
  unfold shp at h
  cases e : dep x with
  | none => rw [e] at h; cases h
  | some n =>
    rw [e] at h
    have := dep_lay x n e
    have h := of_decide_eq_true h
    unfold SeqAt.shaped
    rw [this.1, Bool.true_and]
    exact decide_eq_true (by omega)
mutual
theorem eqv_veq : ∀ (x y : Val) (n m : Nat), dep x = some n → dep y = some m → PyData.eqv (toD x) (toD y) = veq x y
  | .tup xs, y, n, m, hx, hy => by
    simp only [dep, Option.map_eq_some_iff] at hx
    obtain ⟨k, hx, _⟩ := hx
    cases y with
    | tup ys =>
      simp only [dep, Option.map_eq_some_iff] at hy
      obtain ⟨k', hy, _⟩ := hy
      simp only [toD, PyData.eqv, veq]
      exact eqvs_veqs xs ys k k' hx hy
    | _ => first | (simp [toD, PyData.eqv, veq]; done) | cases hy
  | .lst xs, y, n, m, hx, hy => by
    simp only [dep, Option.map_eq_some_iff] at hx
    obtain ⟨k, hx, _⟩ := hx
    cases y with
    | lst ys =>
      simp only [dep, Option.map_eq_some_iff] at hy
      obtain ⟨k', hy, _⟩ := hy
      simp only [toD, PyData.eqv, veq]
      exact eqvs_veqs xs ys k k' hx hy
    | _ => first | (simp [toD, PyData.eqv, veq]; done) | cases hy
  | .non, y, _, _, _, hy => by cases y <;> first | (simp [toD, PyData.eqv, veq]; done) | cases hy
  | .bl _, y, _, _, _, hy => by cases y <;> first | (simp [toD, PyData.eqv, veq]; done) | cases hy
  | .int _, y, _, _, _, hy => by cases y <;> first | (simp [toD, PyData.eqv, veq]; done) | cases hy
  | .str _, y, _, _, _, hy => by cases y <;> first | (simp [toD, PyData.eqv, veq]; done) | cases hy
  | .rol _, _, _, _, h, _ => nomatch h
  | .ref _, _, _, _, h, _ => nomatch h
  | .fn _, _, _, _, h, _ => nomatch h
  | .ty _, _, _, _, h, _ => nomatch h
  | .dct _ _, _, _, _, h, _ => nomatch h
theorem eqvs_veqs : ∀ (xs ys : List Val) (n m : Nat), deps xs = some n → deps ys = some m → PyData.eqvAll (toDs xs) (toDs ys) = veqs xs ys
  | [], [], _, _, _, _ => by simp [toDs, PyData.eqvAll, veqs]
  | [], _ :: _, _, _, _, _ => by simp [toDs, PyData.eqvAll, veqs]
  | _ :: _, [], _, _, _, _ => by simp [toDs, PyData.eqvAll, veqs]
  | x :: xs, y :: ys, n, m, hx, hy => by
    simp only [deps] at hx hy
    cases e1 : dep x with
    | none => rw [e1] at hx; cases hx
    | some a =>
      cases e2 : deps xs with
      | none => rw [e1, e2] at hx; cases hx
      | some b =>
        cases e3 : dep y with
        | none => rw [e3] at hy; cases hy
        | some a' =>
          cases e4 : deps ys with
          | none => rw [e3, e4] at hy; cases hy
          | some b' =>
            simp only [toDs, PyData.eqvAll, veqs, eqv_veq x y a a' e1 e3, eqvs_veqs xs ys b b' e2 e4]
end
theorem shp_dep {x : Val} (h : shp x = true) : ∃ n, dep x = some n := by
  unfold shp at h
  cases e : dep x with
  | none => rw [e] at h; cases h
  | some n => exact ⟨n, rfl⟩
theorem eqv_of_shp {x y : Val} (hx : shp x = true) (hy : shp y = true) : PyData.eqv (toD x) (toD y) = veq x y := by
  obtain ⟨n, hn⟩ := shp_dep hx
  obtain ⟨m, hm⟩ := shp_dep hy
  exact eqv_veq x y n m hn hm
section
variable {c : Ct} {w : Wd}
mutual
theorem RV.dp : ∀ (x : Val) (v : V) (n : Nat), RV c w x v → dep x = some n → Dp c.K w.H v (toD x)
  | .non, _, _, h, _ => by rw [show _ = V.non from h]; exact .non
  | .bl b, _, _, h, _ => by rw [show _ = V.bl b from h]; exact .bl b
  | .int b, _, _, h, _ => by rw [show _ = V.int b from h]; exact .int b
  | .str b, _, _, h, _ => by rw [show _ = V.str b from h]; exact .str b
  | .tup xs, _, n, ⟨a, ys, e, h, r⟩, hd => by
    simp only [dep, Option.map_eq_some_iff] at hd
    obtain ⟨k, hd, _⟩ := hd
    subst e
    exact .tup h (RVs.dp xs ys k r hd)
  | .lst xs, _, n, ⟨a, ys, e, h, r⟩, hd => by
    simp only [dep, Option.map_eq_some_iff] at hd
    obtain ⟨k, hd, _⟩ := hd
    subst e
    exact .lst h.sq (RVs.dp xs ys k r hd)
  | .rol _, _, _, _, h => nomatch h
  | .ref _, _, _, _, h => nomatch h
  | .fn _, _, _, _, h => nomatch h
  | .ty _, _, _, _, h => nomatch h
  | .dct _ _, _, _, _, h => nomatch h
theorem RVs.dp : ∀ (xs : List Val) (ys : List V) (n : Nat), RVs c w xs ys → deps xs = some n → DpAll c.K w.H ys (toDs xs)
  | [], _, _, h, _ => by rw [show _ = [] from h]; exact .nil
  | x :: xs, _, n, ⟨y, r, e, h1, h2⟩, hd => by
    simp only [deps] at hd
    cases e1 : dep x with
    | none => rw [e1] at hd; cases hd
    | some a =>
      cases e2 : deps xs with
      | none => rw [e1, e2] at hd; cases hd
      | some b =>
        subst e
        exact .cons (RV.dp x y a h1 e1) (RVs.dp xs r b h2 e2)
end
/-- what is at hand, as data -/
theorem look_dp {x : Val} {v : V} (s : Sim c w) (r : RV c w x v) (h : shp (look w.μ x) = true) : Dp c.K w.H v (toD (look w.μ x)) := by
  obtain ⟨n, hn⟩ := shp_dep h
  cases e : look w.μ x with
  | lst xs =>
    obtain ⟨a, ys, e1, h1, h2⟩ := look_lst s r e
    rw [e] at hn
    simp only [dep, Option.map_eq_some_iff] at hn
    obtain ⟨k, hn, _⟩ := hn
    subst e1
    exact .lst h1 (RVs.dp xs ys k h2 hn)
  | tup xs =>
    obtain ⟨a, ys, e1, h1, h2⟩ := look_tup s r e
    rw [e] at hn
    simp only [dep, Option.map_eq_some_iff] at hn
    obtain ⟨k, hn, _⟩ := hn
    subst e1
    exact .tup h1 (RVs.dp xs ys k h2 hn)
  | int i => rw [look_int r e]; exact .int i
  | bl i => rw [look_bl r e]; exact .bl i
  | str i => rw [look_str r e]; exact .str i
  | non =>
    cases x with
    | non => rw [show v = V.non from r]; exact .non
    | ref n => simp only [look] at e; split at e <;> cases e
    | _ => cases e
  | rol _ => rw [e] at hn; cases hn
  | ref _ => rw [e] at hn; cases hn
  | fn _ => rw [e] at hn; cases hn
  | ty _ => rw [e] at hn; cases hn
  | dct _ _ => rw [e] at hn; cases hn
end

/-! ### ==, != -/
def vEq (x y : Val) (μ : Mu) : Res Val := if shp (look μ x) && shp (look μ y) then .ok (.bl (veq (look μ x) (look μ y))) μ else .stuck
def vNe (x y : Val) (μ : Mu) : Res Val := if shp (look μ x) && shp (look μ y) then .ok (.bl (!veq (look μ x) (look μ y))) μ else .stuck
theorem nx_Eq : NoExc2 vEq := fun a b μ e μ' h => by unfold vEq at h; split at h <;> cases h
theorem nx_Ne : NoExc2 vNe := fun a b μ e μ' h => by unfold vNe at h; split at h <;> cases h
section
variable {c : Ct} {X : Cx}
/-- room that every call leaves -/
theorem og_Eq (hK : X.K = c.K) (hu : X.A.units + 64 < cLine) : OpG c X (compareOp .Eq) vEq := by
  intro pins s σ H x y v u Q I rx ry ⟨w, a, b, e, sm, r1, r2, h⟩
  subst e
  unfold vEq at h
  split at h
  · rename_i hs
    obtain ⟨h1, h2⟩ := Bool.and_eq_true_iff.mp hs
    refine op_eqD hu pins s σ w.H x y v u Q I rx ry ⟨_, _, by rw [hK]; exact look_dp sm r1 h1, by rw [hK]; exact look_dp sm r2 h2, shp_shaped h1, shp_shaped h2, ?_⟩
    rw [eqv_of_shp h1 h2]
    exact h.here sm rfl
  · exact h.elim
theorem og_Ne (hK : X.K = c.K) (hu : X.A.units + 64 < cLine) : OpG c X (compareOp .NotEq) vNe := by
  intro pins s σ H x y v u Q I rx ry ⟨w, a, b, e, sm, r1, r2, h⟩
  subst e
  unfold vNe at h
  split at h
  · rename_i hs
    obtain ⟨h1, h2⟩ := Bool.and_eq_true_iff.mp hs
    refine op_neD hu pins s σ w.H x y v u Q I rx ry ⟨_, _, by rw [hK]; exact look_dp sm r1 h1, by rw [hK]; exact look_dp sm r2 h2, shp_shaped h1, shp_shaped h2, ?_⟩
    rw [eqv_of_shp h1 h2]
    exact h.here sm rfl
  · exact h.elim

/-! ### + - * // % -/
def vAdd (x y : Val) (μ : Mu) : Res Val := match look μ x, look μ y with
  | .int i, .int j => .ok (.int (i + j)) μ
  | .int i, .bl k => .ok (.int (i + b2i k)) μ
  | .str s, .str t => if s.length + t.length ≤ LIM then .ok (.str (s ++ t)) μ else .stuck
  | .tup a, .tup b => if a.length + b.length ≤ LIM then .ok (.tup (a ++ b)) μ else .stuck
  | _, _ => .stuck
def vSub (x y : Val) (μ : Mu) : Res Val := match x, y with
  | .int i, .int j => .ok (.int (i - j)) μ
  | _, _ => .stuck
def vMul (x y : Val) (μ : Mu) : Res Val := match x, y with
  | .int i, .int j => if (-(2 ^ 64) < i ∧ i < 2 ^ 64) ∨ (-(2 ^ 64) < j ∧ j < 2 ^ 64) then .ok (.int (i * j)) μ else .stuck
  | _, _ => .stuck
def vFdiv (x y : Val) (μ : Mu) : Res Val := match x, y with
  | .int i, .int j => if j ≠ 0 ∧ j.natAbs < 1073741824 then .ok (.int (i.fdiv j)) μ else .stuck
  | _, _ => .stuck
def vMod (x y : Val) (μ : Mu) : Res Val := match x, y with
  | .int i, .int j => if j ≠ 0 then .ok (.int (i.fmod j)) μ else .stuck
  | _, _ => .stuck
theorem nx_Add : NoExc2 vAdd := fun a b μ e μ' h => by unfold vAdd at h; split at h <;> first | cases h | (split at h <;> cases h)
theorem nx_Sub : NoExc2 vSub := fun a b μ e μ' h => by unfold vSub at h; split at h <;> cases h
theorem nx_Mul : NoExc2 vMul := fun a b μ e μ' h => by unfold vMul at h; split at h <;> first | cases h | (split at h <;> cases h)
theorem nx_Fdiv : NoExc2 vFdiv := fun a b μ e μ' h => by unfold vFdiv at h; split at h <;> first | cases h | (split at h <;> cases h)
theorem nx_Mod : NoExc2 vMod := fun a b μ e μ' h => by unfold vMod at h; split at h <;> first | cases h | (split at h <;> cases h)
theorem og_Add (hK : X.K = c.K) : OpG c X (binaryOp .Add) vAdd := by
  intro pins s σ H x y v u Q I rx ry ⟨w, a, b, e, sm, r1, r2, h⟩
  subst e
  unfold vAdd at h
  split at h
  · rename_i i j e1 e2
    exact op_add pins s σ w.H x y v u Q I rx ry ⟨i, j, look_int r1 e1, look_int r2 e2, h.here sm rfl⟩
  · rename_i i j e1 e2
    exact op_add_ib pins s σ w.H x y v u Q I rx ry ⟨i, j, look_int r1 e1, look_bl r2 e2, h.here sm rfl⟩
  · rename_i i j e1 e2
    split at h
    · rename_i hl
      exact op_add_str pins s σ w.H x y v u Q I rx ry ⟨i, j, look_str r1 e1, look_str r2 e2, by rw [← LIM_eq]; exact hl, h.here sm rfl⟩
    · exact h.elim
  · rename_i i j e1 e2
    split at h
    · rename_i hl
      obtain ⟨p, xs, f1, f2, f3⟩ := look_tup sm r1 e1
      obtain ⟨q, ys, g1, g2, g3⟩ := look_tup sm r2 e2
      refine op_catA pins s σ w.H x y v u Q I rx ry ⟨p, q, xs, ys, f1, g1, by rw [hK]; exact f2, by rw [hK]; exact g2, by rw [← LIM_eq, ← f3.length, ← g3.length]; exact hl, fun z => ?_, fun z1 z2 => ?_, fun _ _ r n => ?_⟩
      · subst z
        have : i = [] := List.eq_nil_of_length_eq_zero f3.length
        subst this
        exact h.here sm ⟨q, ys, rfl, g2, g3⟩
      · subst z2
        have : j = [] := List.eq_nil_of_length_eq_zero g3.length
        subst this
        rw [List.append_nil] at h
        exact h.here sm ⟨p, xs, rfl, f2, f3⟩
      · exact h.tup sm (f3.append g3) n
    · exact h.elim
  · exact h.elim
theorem og_Sub : OpG c X (binaryOp .Sub) vSub := by
  intro pins s σ H x y v u Q I rx ry ⟨w, a, b, e, sm, r1, r2, h⟩
  subst e
  unfold vSub at h
  split at h
  · rename_i i j
    exact op_sub pins s σ w.H x y v u Q I rx ry ⟨i, j, r1, r2, h.here sm rfl⟩
  · exact h.elim
theorem og_Mul : OpG c X (binaryOp .Mult) vMul := by
  intro pins s σ H x y v u Q I rx ry ⟨w, a, b, e, sm, r1, r2, h⟩
  subst e
  unfold vMul at h
  split at h
  · rename_i i j
    split at h
    · rename_i hc
      exact op_mul pins s σ w.H x y v u Q I rx ry ⟨i, j, r1, r2, hc, h.here sm rfl⟩
    · exact h.elim
  · exact h.elim
theorem og_Fdiv : OpG c X (binaryOp .FloorDiv) vFdiv := by
  intro pins s σ H x y v u Q I rx ry ⟨w, a, b, e, sm, r1, r2, h⟩
  subst e
  unfold vFdiv at h
  split at h
  · rename_i i j
    split at h
    · rename_i hc
      exact op_fdivN pins s σ w.H x y v u Q I rx ry ⟨i, j, r1, r2, hc, h.here sm rfl⟩
    · exact h.elim
  · exact h.elim
theorem og_Mod : OpG c X (binaryOp .Mod) vMod := by
  intro pins s σ H x y v u Q I rx ry ⟨w, a, b, e, sm, r1, r2, h⟩
  subst e
  unfold vMod at h
  split at h
  · rename_i i j
    split at h
    · rename_i hc
      exact op_modN pins s σ w.H x y v u Q I rx ry ⟨i, j, r1, r2, hc, h.here sm rfl⟩
    · exact h.elim
  · exact h.elim
end
end G

/-! G4: tests, and, or, displays, subscripts, slices. -/
namespace G
open PySem PySem.Spec PyProof.Rows L2

/-! ### truth -/
def vtruth (μ : Mu) (v : Val) : Option Bool := match look μ v with
  | .non => some false
  | .bl b => some b
  | .int i => some (i != 0)
  | .str s => if s.length ≤ LIM then some ((s.length : Int) != 0) else none
  | .lst xs => some !xs.isEmpty
  | .tup xs => some !xs.isEmpty
  | _ => none
section
variable {c : Ct} {w : Wd}
theorem RVs.isEmpty {xs : List Val} {ys : List V} (h : RVs c w xs ys) : xs.isEmpty = ys.isEmpty := by
  have := h.length
  cases xs <;> cases ys <;> simp at this ⊢
theorem vtruth_tru {x : Val} {v : V} {k : Bool} (s : Sim c w) (r : RV c w x v) (h : vtruth w.μ x = some k) : TruV c.K v w.H k := by
  unfold vtruth at h
  split at h
  · rename_i e
    cases h
    have : v = .non := by
      cases x with
      | non => exact r
      | ref n => simp only [look] at e; split at e <;> cases e
      | _ => cases e
    subst this; exact (rfl : false = false)
  · rename_i e; cases h; rw [look_bl r e]; exact (rfl : k = k)
  · rename_i e; cases h; rw [look_int r e]; exact rfl
  · rename_i e
    split at h
    · rename_i hl; cases h; rw [look_str r e]; exact ⟨by rw [← LIM_eq]; exact hl, rfl⟩
    · cases h
  · rename_i e
    cases h
    obtain ⟨a, ys, e1, h1, h2⟩ := look_lst s r e
    subst e1
    exact .inl ⟨ys, h1, by rw [h2.isEmpty]⟩
  · rename_i e
    cases h
    obtain ⟨a, ys, e1, h1, h2⟩ := look_tup s r e
    subst e1
    exact .inr (.inl ⟨ys, h1, by rw [h2.isEmpty]⟩)
  · cases h
end
def mtruth (m : M Val) : M Bool := andThen m fun v => fun _ μ => match vtruth μ v with
  | some b => .ok b μ
  | none => .stuck
def tand (a b : M Bool) : M Bool := andThen a fun k => if k then b else fun _ μ => .ok false μ
def tor (a b : M Bool) : M Bool := andThen a fun k => if k then fun _ μ => .ok true μ else b
def tnot (a : M Bool) : M Bool := andThen a fun k => fun _ μ => .ok (!k) μ
def tife (t a b : M Bool) : M Bool := andThen t fun k => if k then a else b
def mife (t : M Bool) (a b : M Val) : M Val := andThen t fun k => if k then a else b
def mnot (a : M Val) : M Val := andThen a fun v => fun _ μ => match vtruth μ v with
  | some b => .ok (.bl (!b)) μ
  | none => .stuck
def mand (a b : M Val) : M Val := andThen a fun v => fun sl μ => match vtruth μ v with
  | some true => b sl μ
  | some false => .ok v μ
  | none => .stuck
def mor (a b : M Val) : M Val := andThen a fun v => fun sl μ => match vtruth μ v with
  | some true => .ok v μ
  | some false => b sl μ
  | none => .stuck

section
variable {c : Ct} {W : WX} {X : Cx} {a b e : Expr} {ma mb m : M Val} {ta tb t : M Bool} {pos : Pos} {rest : List Expr}
theorem excB_post {w : Wd} {Q : Bool → Hp → Prop} {σ : St} : ∀ e μ', PostB c w (.exc e μ') Q (fun cls d H' => W cls d σ H') → ∀ w', w'.μ = μ' → Ext w w' → Sim c w' → ∀ cls d, RX c w' e cls d → W cls d σ w'.H := fun _ _ h => h
/-- from a test to what follows in a row -/
theorem tt_then {β : Type} {w : Wd} {sl : Sl} {σ : St} {f : Bool → M β} {R : Wd → Res β → Prop} {m : M Bool}
    (hs : Sim c w) (hsl : RSl c w sl σ)
    (hexc : ∀ e μ', R w (.exc e μ') → ∀ w', w'.μ = μ' → Ext w w' → Sim c w' → ∀ cls d, RX c w' e cls d → W cls d σ w'.H)
    (hstuck : ¬ R w .stuck)
    (h : R w (andThen m f sl w.μ)) {K : Bool → Hp → Prop}
    (k : ∀ v w', Ext w w' → Sim c w' → RSl c w' sl σ → R w (f v sl w'.μ) → K v w'.H) : TT' c W m σ w.H K := by
  refine ⟨w, sl, rfl, hs, hsl, ?_⟩
  unfold andThen at h
  cases e : m sl w.μ with
  | ok v μ' =>
    rw [e] at h
    intro w' hμ ext sim
    subst hμ
    exact k v w' ext sim (hsl.ext hs ext) h
  | exc x μ' =>
    rw [e] at h
    exact fun w' hμ ext sim cls d r => hexc x μ' h w' hμ ext sim cls d r
  | stuck => rw [e] at h; exact absurd h hstuck
/-- a value's truth as a test; he: by intro _; rfl -/
theorem gt_truth (hK : X.K = c.K) (ha : PE X a (TE' c W ma)) (he : ∀ whole, isTrue a X.env whole = (do let v ← whole; standAt a.pos; holding [v] (truthy v))) : PT X a (TT' c W (mtruth ma)) := by
  refine (pt_truth ha he).imp fun σ H Q ⟨w, sl, e, s, rs, h⟩ => ?_
  subst e
  refine te_then (R := fun w r => PostB c w r Q fun cls d H' => W cls d σ H') s rs excB_post (fun z => z) h fun v w1 e1 s1 rs1 h1 x rx => ?_
  cases q : vtruth w1.μ v with
  | none => rw [q] at h1; exact h1.elim
  | some k =>
    rw [q] at h1
    exact ⟨k, by rw [hK]; exact vtruth_tru s1 rx q, h1 w1 rfl e1 s1⟩
/-- a comparison's answer as a test: it is a bool -/
theorem gt_bool {t0 : TE} (h : PT X a (tTest t0)) (k : ∀ σ H Q, TE' c W ma σ H Q → t0 σ H Q) : PT X a (TT' c W (mtruth (andThen ma fun v => fun _ μ => match v with | .bl b => .ok (.bl b) μ | _ => .stuck))) := by
  refine h.imp fun σ H Q ⟨w, sl, e, s, rs, h⟩ => k σ H _ ?_
  subst e
  refine ⟨w, sl, rfl, s, rs, ?_⟩
  unfold mtruth andThen at h
  cases q : ma sl w.μ with
  | ok v μ' =>
    rw [q] at h
    intro w' hμ ext sim x rx
    cases v with
    | bl b =>
      subst hμ
      exact ⟨b, rx, h w' rfl ext sim⟩
    | _ => exact h.elim
  | exc x μ' =>
    rw [q] at h
    exact h
  | stuck => rw [q] at h; exact h.elim
/-- .. with the answer taken as it is -/
def mbool (m : M Val) : M Bool := andThen m fun v => fun _ μ => match v with
  | .bl b => .ok b μ
  | _ => .stuck
theorem gt_bool' {t0 : TE} (h : PT X a (tTest t0)) (k : ∀ σ H Q, TE' c W ma σ H Q → t0 σ H Q) : PT X a (TT' c W (mbool ma)) := by
  refine h.imp fun σ H Q ⟨w, sl, e, s, rs, h⟩ => k σ H _ ?_
  subst e
  refine ⟨w, sl, rfl, s, rs, ?_⟩
  unfold mbool andThen at h
  cases q : ma sl w.μ with
  | ok v μ' =>
    rw [q] at h
    intro w' hμ ext sim x rx
    cases v with
    | bl b =>
      subst hμ
      exact ⟨b, rx, h w' rfl ext sim⟩
    | _ => exact h.elim
  | exc x μ' =>
    rw [q] at h
    exact h
  | stuck => rw [q] at h; exact h.elim
theorem gt_cmp {op : CmpOp} {g : Val → Val → Mu → Res Val} (ho : OpG c X (compareOp op) g) (n : NoExc2 g) (ha : PE X a (TE' c W ma)) (hb : PE X b (TE' c W mb)) (hm : behindInMarks op b = false) : PT X (.Compare a [op] [b] pos) (TT' c W (mbool (mop2 g ma mb))) :=
  gt_bool' (pt_cmpR ho ha hb hm) fun _ _ _ h => lift2 n h

/-! ### and, or, not, if else -/
theorem gw_and1 (ha : PT X a (TT' c W ta)) : PW X (.BoolOp .And [a] pos) (TT' c W ta) := pw_and1 ha
theorem gw_or1 (ha : PT X a (TT' c W ta)) : PW X (.BoolOp .Or [a] pos) (TT' c W ta) := pw_or1 ha
theorem gw_and (ha : PT X a (TT' c W ta)) (hb : PW X (.BoolOp .And (b :: rest) pos) (TT' c W tb)) : PW X (.BoolOp .And (a :: b :: rest) pos) (TT' c W (tand ta tb)) := by
  refine (pw_and ha hb).imp fun σ H Q ⟨w, sl, e, s, rs, h⟩ => ?_
  subst e
  refine tt_then (R := fun w r => PostB c w r Q fun cls d H' => W cls d σ H') s rs excB_post (fun z => z) h fun v w1 e1 s1 rs1 h1 => ?_
  cases v with
  | true => exact iteT ⟨w1, sl, rfl, s1, rs1, h1.ext e1⟩
  | false => exact iteF (h1 w1 rfl e1 s1)
theorem gw_or (ha : PT X a (TT' c W ta)) (hb : PW X (.BoolOp .Or (b :: rest) pos) (TT' c W tb)) : PW X (.BoolOp .Or (a :: b :: rest) pos) (TT' c W (tor ta tb)) := by
  refine (pw_or ha hb).imp fun σ H Q ⟨w, sl, e, s, rs, h⟩ => ?_
  subst e
  refine tt_then (R := fun w r => PostB c w r Q fun cls d H' => W cls d σ H') s rs excB_post (fun z => z) h fun v w1 e1 s1 rs1 h1 => ?_
  cases v with
  | false => exact iteF ⟨w1, sl, rfl, s1, rs1, h1.ext e1⟩
  | true => exact iteT (h1 w1 rfl e1 s1)
theorem gt_not (ha : PT X a (TT' c W ta)) : PT X (.UnaryOp .Not a pos) (TT' c W (tnot ta)) := by
  refine (pt_not ha).imp fun σ H Q ⟨w, sl, e, s, rs, h⟩ => ?_
  subst e
  refine tt_then (R := fun w r => PostB c w r Q fun cls d H' => W cls d σ H') s rs excB_post (fun z => z) h fun v w1 e1 s1 rs1 h1 => ?_
  exact h1 w1 rfl e1 s1
theorem pt_ifExp {t u v : TT} {x y z : Expr} (hx : PT X x t) (hy : PT X y u) (hz : PT X z v) : PT X (.IfExp x y z pos) (fun σ H Q => t σ H fun c H1 => if c = true then u σ H1 Q else v σ H1 Q) := by
  refine ⟨fun pins s σ H Q I h => ?_⟩
  show wpAny _ _ (isTrue x X.env (eval x X.env) >>= fun c => if c = true then isTrue y X.env (eval y X.env) else isTrue z X.env (eval z X.env)) _ _ _
  refine wpAny_bind (thn (hx.run pins s σ H _ I h) fun c s1 ⟨H1, I1, q1⟩ => ?_)
  cases c with
  | true => exact hy.run pins s1 σ H1 Q I1 q1
  | false => exact hz.run pins s1 σ H1 Q I1 q1
theorem gt_ife (ht : PT X e (TT' c W t)) (ha : PT X a (TT' c W ta)) (hb : PT X b (TT' c W tb)) : PT X (.IfExp e a b pos) (TT' c W (tife t ta tb)) := by
  refine (pt_ifExp ht ha hb).imp fun σ H Q ⟨w, sl, e, s, rs, h⟩ => ?_
  subst e
  refine tt_then (R := fun w r => PostB c w r Q fun cls d H' => W cls d σ H') s rs excB_post (fun z => z) h fun v w1 e1 s1 rs1 h1 => ?_
  cases v with
  | true => exact iteT ⟨w1, sl, rfl, s1, rs1, h1.ext e1⟩
  | false => exact iteF ⟨w1, sl, rfl, s1, rs1, h1.ext e1⟩
theorem ge_ife (ht : PT X e (TT' c W t)) (ha : PE X a (TE' c W ma)) (hb : PE X b (TE' c W mb)) : PE X (.IfExp e a b pos) (TE' c W (mife t ma mb)) := by
  refine (pe_ifExp ht ha hb).imp fun σ H Q ⟨w, sl, e, s, rs, h⟩ => ?_
  subst e
  refine tt_then (R := fun w r => Post c w r Q fun cls d H' => W cls d σ H') s rs exc_post (fun z => z) h fun v w1 e1 s1 rs1 h1 => ?_
  cases v with
  | true => exact iteT ⟨w1, sl, rfl, s1, rs1, h1.ext e1⟩
  | false => exact iteF ⟨w1, sl, rfl, s1, rs1, h1.ext e1⟩
theorem ge_not (hK : X.K = c.K) (ha : PE X a (TE' c W ma)) : PE X (.UnaryOp .Not a pos) (TE' c W (mnot ma)) := by
  refine (pe_notT ha).imp fun σ H Q ⟨w, sl, e, s, rs, h⟩ => ?_
  subst e
  refine te_then (R := fun w r => Post c w r Q fun cls d H' => W cls d σ H') s rs exc_post (fun z => z) h fun v w1 e1 s1 rs1 h1 x rx => ?_
  cases q : vtruth w1.μ v with
  | none => rw [q] at h1; exact h1.elim
  | some k =>
    rw [q] at h1
    exact ⟨k, by rw [hK]; exact vtruth_tru s1 rx q, (h1.ext e1).here s1 rfl⟩
theorem ge_one {op} (h : PE X a (TE' c W ma)) : PE X (.BoolOp op [a] pos) (TE' c W ma) := pe_one h
theorem ge_and (hK : X.K = c.K) (ha : PE X a (TE' c W ma)) (hb : PE X (.BoolOp .And (b :: rest) pos) (TE' c W mb)) : PE X (.BoolOp .And (a :: b :: rest) pos) (TE' c W (mand ma mb)) := by
  refine (pe_andT ha hb).imp fun σ H Q ⟨w, sl, e, s, rs, h⟩ => ?_
  subst e
  refine te_then (R := fun w r => Post c w r Q fun cls d H' => W cls d σ H') s rs exc_post (fun z => z) h fun v w1 e1 s1 rs1 h1 x rx => ?_
  cases q : vtruth w1.μ v with
  | none => rw [q] at h1; exact h1.elim
  | some k =>
    rw [q] at h1
    refine ⟨k, by rw [hK]; exact vtruth_tru s1 rx q, ?_⟩
    cases k with
    | true => exact iteT ⟨w1, sl, rfl, s1, rs1, h1.ext e1⟩
    | false => exact iteF ((h1.ext e1).here s1 rx)
theorem ge_or (hK : X.K = c.K) (ha : PE X a (TE' c W ma)) (hb : PE X (.BoolOp .Or (b :: rest) pos) (TE' c W mb)) : PE X (.BoolOp .Or (a :: b :: rest) pos) (TE' c W (mor ma mb)) := by
  refine (pe_orT ha hb).imp fun σ H Q ⟨w, sl, e, s, rs, h⟩ => ?_
  subst e
  refine te_then (R := fun w r => Post c w r Q fun cls d H' => W cls d σ H') s rs exc_post (fun z => z) h fun v w1 e1 s1 rs1 h1 x rx => ?_
  cases q : vtruth w1.μ v with
  | none => rw [q] at h1; exact h1.elim
  | some k =>
    rw [q] at h1
    refine ⟨k, by rw [hK]; exact vtruth_tru s1 rx q, ?_⟩
    cases k with
    | true => exact iteT ((h1.ext e1).here s1 rx)
    | false => exact iteF ⟨w1, sl, rfl, s1, rs1, h1.ext e1⟩

/-! ### argument lists, displays -/
def anil : M (List Val) := fun _ μ => .ok [] μ
def acons (a : M Val) (r : M (List Val)) : M (List Val) := andThen a fun v => andThen r fun vs => fun _ μ => .ok (v :: vs) μ
theorem excL_post {w : Wd} {Q : List V → Hp → Prop} {σ : St} : ∀ e μ', PostL c w (.exc e μ') Q (fun cls d H' => W cls d σ H') → ∀ w', w'.μ = μ' → Ext w w' → Sim c w' → ∀ cls d, RX c w' e cls d → W cls d σ w'.H := fun _ _ h => h
theorem ga_nil : PA X [] (TA' c W anil) := by
  refine pa_nil.imp fun σ H Q ⟨w, sl, e, s, rs, h⟩ => ?_
  subst e
  exact h w rfl (Ext.refl w) s [] rfl
/-- from an argument list to what follows -/
theorem ta_then {β : Type} {w : Wd} {sl : Sl} {σ : St} {f : List Val → M β} {R : Wd → Res β → Prop} {m : M (List Val)}
    (hs : Sim c w) (hsl : RSl c w sl σ)
    (hexc : ∀ e μ', R w (.exc e μ') → ∀ w', w'.μ = μ' → Ext w w' → Sim c w' → ∀ cls d, RX c w' e cls d → W cls d σ w'.H)
    (hstuck : ¬ R w .stuck)
    (h : R w (andThen m f sl w.μ)) {K : List V → Hp → Prop}
    (k : ∀ v w', Ext w w' → Sim c w' → RSl c w' sl σ → R w (f v sl w'.μ) → ∀ x, RVs c w' v x → K x w'.H) : TA' c W m σ w.H K := by
  refine ⟨w, sl, rfl, hs, hsl, ?_⟩
  unfold andThen at h
  cases e : m sl w.μ with
  | ok v μ' =>
    rw [e] at h
    intro w' hμ ext sim x rx
    subst hμ
    exact k v w' ext sim (hsl.ext hs ext) h x rx
  | exc x μ' =>
    rw [e] at h
    exact fun w' hμ ext sim cls d r => hexc x μ' h w' hμ ext sim cls d r
  | stuck => rw [e] at h; exact absurd h hstuck
theorem ga_cons {es : List Expr} {mr : M (List Val)} (ha : PE X a (TE' c W ma)) (hr : PA X es (TA' c W mr)) (hs : starEach (a :: es) X.env = (false, eval a X.env) :: starEach es X.env := by rfl) : PA X (a :: es) (TA' c W (acons ma mr)) := by
  refine (pa_cons ha hr hs).imp fun σ H Q ⟨w, sl, e, s, rs, h⟩ => ?_
  subst e
  refine te_then (R := fun w r => PostL c w r Q fun cls d H' => W cls d σ H') s rs excL_post (fun z => z) h fun v w1 e1 s1 rs1 h1 x rx => ?_
  refine ta_then (R := fun w r => PostL c w r Q fun cls d H' => W cls d σ H') s1 rs1 excL_post (fun z => z) (h1.ext e1) fun vs w2 e2 s2 rs2 h2 xs rxs => ?_
  exact h2 w2 rfl e2 s2 (x :: xs) ⟨x, xs, rfl, RV.ext s1 e2 _ _ rx, rxs⟩
def mtup (m : M (List Val)) : M Val := andThen m fun vs => fun _ μ => if vs.length ≤ LIM then .ok (.tup vs) μ else .stuck
def mlst (m : M (List Val)) : M (List Val) := andThen m fun vs => fun _ μ => if vs.length ≤ LIM then .ok vs μ else .stuck
theorem ge_tup {es : List Expr} {k} {mr : M (List Val)} (h : PA X es (TA' c W mr)) : PE X (.Tuple es k pos) (TE' c W (mtup mr)) := by
  refine (pe_tup h).imp fun σ H Q ⟨w, sl, e, s, rs, h⟩ => ?_
  subst e
  refine ta_then (R := fun w r => Post c w r Q fun cls d H' => W cls d σ H') s rs exc_post (fun z => z) h fun vs w1 e1 s1 rs1 h1 xs rx => ?_
  split at h1
  · rename_i hl
    exact ⟨by rw [← LIM_eq, ← rx.length]; exact hl, fun p n => (h1.ext e1).tup s1 rx n⟩
  · exact h1.elim
theorem excF_post {w : Wd} {Q : VK} {σ : St} : ∀ e μ', PostF c w (.exc e μ') Q (fun cls d H' => W cls d σ H') → ∀ w', w'.μ = μ' → Ext w w' → Sim c w' → ∀ cls d, RX c w' e cls d → W cls d σ w'.H := fun _ _ h => h
theorem PostF.new {w : Wd} {vs : List Val} {ys : List V} {p : Addr} {Q : VK} {E : XK} (h : PostF c w (.ok vs w.μ) Q E) (s : Sim c w) (r : RVs c w vs ys) (n : w.H p = none) : Q (.ref p) (upd w.H p (.lst ys)) := h w rfl (Ext.refl w) s p ys n r
theorem gf_lst {es : List Expr} {mr : M (List Val)} (h : PA X es (TA' c W mr)) : PE X (.List es pos) (TF' c W (mlst mr)) := by
  refine (pe_lst h).imp fun σ H Q ⟨w, sl, e, s, rs, h⟩ => ?_
  subst e
  refine ta_then (R := fun w r => PostF c w r Q fun cls d H' => W cls d σ H') s rs excF_post (fun z => z) h fun vs w1 e1 s1 rs1 h1 xs rx => ?_
  split at h1
  · rename_i hl
    exact ⟨by rw [← LIM_eq, ← rx.length]; exact hl, fun p n => (h1.ext e1).new s1 rx n⟩
  · exact h1.elim
/-- a new list as one that nobody changes -/
theorem ge_imm {m : M (List Val)} (h : PE X a (TF' c W m)) : PE X a (TE' c W (mimm m)) := by
  refine h.imp fun σ H Q ⟨w, sl, e, s, rs, h⟩ => ⟨w, sl, e, s, rs, ?_⟩
  unfold mimm andThen at h
  cases q : m sl w.μ with
  | ok vs μ' =>
    rw [q] at h
    intro w' hμ ext sim D ys n r
    subst hμ
    exact Post.lst (h.ext ext) sim r n
  | exc x μ' => rw [q] at h; exact h
  | stuck => rw [q] at h; exact h
/-- .. as one that is changed -/
theorem ge_mut {m : M (List Val)} (h : PE X a (TF' c W m)) : PE X a (TE' c W (mmut m)) := by
  refine h.imp fun σ H Q ⟨w, sl, e, s, rs, h⟩ => ⟨w, sl, e, s, rs, ?_⟩
  unfold mmut andThen at h
  cases q : m sl w.μ with
  | ok vs μ' =>
    rw [q] at h
    intro w' hμ ext sim D ys n r
    subst hμ
    have e1 : Ext w' { w' with ρ := w'.ρ ++ [D], μ := w'.μ ++ [.lst vs], H := upd w'.H D (.lst ys) } := alloc_ext n
    refine h _ rfl (ext.trans e1) (alloc_sim sim n ⟨ys, upd_same, RVs.ext sim e1 _ _ r⟩ (sim.rs_new n)) _ ⟨D, rfl, ?_⟩
    show (w'.ρ ++ [D])[w'.μ.length]? = some D
    rw [← sim.len]
    simp
  | exc x μ' => rw [q] at h; exact h
  | stuck => rw [q] at h; exact h

/-! ### subscripts -/
def vIdx (x y : Val) (μ : Mu) : Res Val := match look μ x, y with
  | .lst xs, .int i => (match atI xs i with | some v => .ok v μ | none => .stuck)
  | .tup xs, .int i => (match atI xs i with | some v => .ok v μ | none => .stuck)
  | .str s, .int i => if s.length ≤ LIM then (match atI s.cps.toList i with | some k => .ok (.str ⟨#[k]⟩) μ | none => .stuck) else .stuck
  | _, _ => .stuck
theorem nx_Idx : NoExc2 vIdx := fun a b μ e μ' h => by
  unfold vIdx at h
  split at h
  · split at h <;> cases h
  · split at h <;> cases h
  · split at h
    · split at h <;> cases h
    · cases h
  · cases h
theorem atI_rv {w : Wd} {xs : List Val} {ys : List V} {i : Int} {v : Val} (r : RVs c w xs ys) (h : atI xs i = some v) : ∃ y, atI ys i = some y ∧ RV c w v y := by
  unfold atI at h ⊢
  rw [← r.length]
  cases e : ixN xs.length i with
  | none => rw [e] at h; cases h
  | some j =>
    rw [e] at h
    exact r.get (i := j) h
/-- o[i] by values -/
def IxG (c : Ct) (X : Cx) (g : Val → Val → Mu → Res Val) : Prop :=
  IxR X fun x y H Q => ∃ w a b, w.H = H ∧ Sim c w ∧ RV c w a x ∧ RV c w b y ∧ Post c w (g a b w.μ) Q fun _ _ _ => False
theorem ig_Idx (hK : X.K = c.K) : IxG c X vIdx := by
  intro ev es pins s σ H x y v u Q I rx ry ⟨w, a, b, e, sm, r1, r2, h⟩ hs
  subst e
  unfold vIdx at h
  split at h
  · rename_i xs i e1
    split at h
    · rename_i q hq
      obtain ⟨p, ys, f1, f2, f3⟩ := look_lst sm r1 e1
      obtain ⟨z, hz, rz⟩ := atI_rv f3 hq
      refine ix_list ev es pins s σ w.H x y v u Q I rx ry ⟨p, ys, i, z, f1, r2, by rw [hK]; exact f2, hz, h.here sm rz⟩ hs
    · exact h.elim
  · rename_i xs i e1
    split at h
    · rename_i q hq
      obtain ⟨p, ys, f1, f2, f3⟩ := look_tup sm r1 e1
      obtain ⟨z, hz, rz⟩ := atI_rv f3 hq
      refine ix_tup ev es pins s σ w.H x y v u Q I rx ry ⟨p, ys, i, z, f1, r2, by rw [hK]; exact f2, hz, h.here sm rz⟩ hs
    · exact h.elim
  · rename_i xs i e1
    split at h
    · rename_i hl
      split at h
      · rename_i q hq
        refine ix_str ev es pins s σ w.H x y v u Q I rx ry ⟨xs, i, q, look_str r1 e1, r2, by rw [← LIM_eq]; exact hl, hq, h.here sm rfl⟩ hs
      · exact h.elim
    · exact h.elim
  · exact h.elim
theorem ge_ix {g : Val → Val → Mu → Res Val} (hr : IxG c X g) (n : NoExc2 g) (ha : PE X a (TE' c W ma)) (hb : PE X b (TE' c W mb)) (hs : PlainIx b) : PE X (.Subscript a b pos) (TE' c W (mop2 g ma mb)) :=
  (pe_ix hr ha hb hs).imp fun _ _ _ h => lift2 n h

/-! ### slices -/
def vCut (xs : List Val) (lo hi : Option Int) : List Val := (xs.drop (HT.sIx xs.length 0 lo)).take (HT.sIx xs.length xs.length hi - HT.sIx xs.length 0 lo)
theorem vCut_rv {w : Wd} {xs : List Val} {ys : List V} (r : RVs c w xs ys) (lo hi : Option Int) : RVs c w (vCut xs lo hi) (cutV ys lo hi) := by
  unfold vCut cutV
  rw [r.length]
  exact (r.drop _).take _
theorem vCut_whole {xs : List Val} {lo hi : Option Int} (h : HT.sIx xs.length 0 lo = 0 ∧ HT.sIx xs.length xs.length hi = xs.length) : vCut xs lo hi = xs := by
  unfold vCut
  rw [h.1, h.2]
  simp
/-- a slice of a tuple, a text -/
def vSlice (x : Val) (lo hi : Option Int) (μ : Mu) : Res Val := match look μ x with
  | .tup xs => .ok (.tup (vCut xs lo hi)) μ
  | .str s => if s.length ≤ LIM then .ok (.str (cutS s lo hi)) μ else .stuck
  | .lst xs => .ok (.lst (vCut xs lo hi)) μ
  | _ => .stuck
/-- .. of a list, a new one -/
def vSliceL (x : Val) (lo hi : Option Int) (μ : Mu) : Res (List Val) := match look μ x with
  | .lst xs => .ok (vCut xs lo hi) μ
  | _ => .stuck
def SlG (c : Ct) (X : Cx) (g : Val → Option Int → Option Int → Mu → Res Val) : Prop :=
  SlR X fun x lo hi H Q => ∃ w a, w.H = H ∧ Sim c w ∧ RV c w a x ∧ Post c w (g a lo hi w.μ) Q fun _ _ _ => False
theorem sg_Slice (hK : X.K = c.K) : SlG c X vSlice := by
  intro pins s σ H x v vl vu lo hi sl Q I rx hs pl pu ⟨w, a, e, sm, r1, h⟩
  subst e
  unfold vSlice at h
  split at h
  · rename_i xs e1
    obtain ⟨p, ys, f1, f2, f3⟩ := look_tup sm r1 e1
    refine sl_tupA pins s σ w.H x v vl vu lo hi sl Q I rx hs pl pu ⟨p, ys, f1, by rw [hK]; exact f2, fun hw => ?_, fun _ q n => h.tup sm (vCut_rv f3 lo hi) n⟩
    rw [← f3.length] at hw
    rw [vCut_whole hw] at h
    exact h.here sm ⟨p, ys, rfl, f2, f3⟩
  · rename_i z e1
    split at h
    · rename_i hl
      exact sl_str pins s σ w.H x v vl vu lo hi sl Q I rx hs pl pu ⟨z, look_str r1 e1, by rw [← LIM_eq]; exact hl, h.here sm rfl⟩
    · exact h.elim
  · rename_i xs e1
    obtain ⟨p, ys, f1, f2, f3⟩ := look_lst sm r1 e1
    exact sl_list pins s σ w.H x v vl vu lo hi sl Q I rx hs pl pu ⟨p, ys, f1, by rw [hK]; exact f2, fun q n => h.lst sm (vCut_rv f3 lo hi) n⟩
  · exact h.elim
/-- a part of a slice -/
def TO' (c : Ct) (W : WX) (m : M (Option Int)) : St → Hp → (Option Int → Hp → Prop) → Prop := fun σ H Q => ∃ w sl, w.H = H ∧ Sim c w ∧ RSl c w sl σ ∧ match m sl w.μ with
  | .ok b μ' => ∀ w', w'.μ = μ' → Ext w w' → Sim c w' → Q b w'.H
  | .exc e μ' => ∀ w', w'.μ = μ' → Ext w w' → Sim c w' → ∀ cls d, RX c w' e cls d → W cls d σ w'.H
  | .stuck => False
def onone : M (Option Int) := fun _ μ => .ok none μ
def osome (m : M Val) : M (Option Int) := andThen m fun v => fun _ μ => match v with
  | .int i => .ok (some i) μ
  | _ => .stuck
theorem _root_.L2.PO.imp {e : Option Expr} {t t' : TO} (h : PO X e t) (k : ∀ σ H Q, t' σ H Q → t σ H Q) : PO X e t' := ⟨fun pins s σ H Q I hw => h.run pins s σ H Q I (k σ H Q hw)⟩
theorem go_none : PO X none (TO' c W onone) := po_none.imp fun σ H Q ⟨w, sl, e, s, rs, h⟩ => by
  subst e
  exact h w rfl (Ext.refl w) s
theorem go_some (ha : PE X a (TE' c W ma)) : PO X (some a) (TO' c W (osome ma)) := (po_some ha).imp fun σ H Q ⟨w, sl, e, s, rs, h⟩ => by
  subst e
  refine ⟨w, sl, rfl, s, rs, ?_⟩
  unfold osome andThen at h
  cases q : ma sl w.μ with
  | ok v μ' =>
    rw [q] at h
    intro w' hμ ext sim x rx
    cases v with
    | int i =>
      subst hμ
      exact ⟨i, rx, h w' rfl ext sim⟩
    | _ => exact h.elim
  | exc x μ' => rw [q] at h; exact h
  | stuck => rw [q] at h; exact h
def mslice (g : Val → Option Int → Option Int → Mu → Res Val) (a : M Val) (lo hi : M (Option Int)) : M Val := andThen a fun x => andThen lo fun l => andThen hi fun u => fun _ μ => g x l u μ
theorem to_then {β : Type} {w : Wd} {sl : Sl} {σ : St} {f : Option Int → M β} {R : Wd → Res β → Prop} {m : M (Option Int)}
    (hs : Sim c w) (hsl : RSl c w sl σ)
    (hexc : ∀ e μ', R w (.exc e μ') → ∀ w', w'.μ = μ' → Ext w w' → Sim c w' → ∀ cls d, RX c w' e cls d → W cls d σ w'.H)
    (hstuck : ¬ R w .stuck)
    (h : R w (andThen m f sl w.μ)) {K : Option Int → Hp → Prop}
    (k : ∀ v w', Ext w w' → Sim c w' → RSl c w' sl σ → R w (f v sl w'.μ) → K v w'.H) : TO' c W m σ w.H K := by
  refine ⟨w, sl, rfl, hs, hsl, ?_⟩
  unfold andThen at h
  cases e : m sl w.μ with
  | ok v μ' =>
    rw [e] at h
    intro w' hμ ext sim
    subst hμ
    exact k v w' ext sim (hsl.ext hs ext) h
  | exc x μ' =>
    rw [e] at h
    exact fun w' hμ ext sim cls d r => hexc x μ' h w' hμ ext sim cls d r
  | stuck => rw [e] at h; exact absurd h hstuck
theorem ge_slice {g : Val → Option Int → Option Int → Mu → Res Val} {lo hi : Option Expr} {ml mh : M (Option Int)} {p2 : Pos} (hr : SlG c X g) (n : ∀ a l u μ e μ', g a l u μ ≠ .exc e μ') (ha : PE X a (TE' c W ma)) (hl : PO X lo (TO' c W ml)) (hh : PO X hi (TO' c W mh)) :
    PE X (.Subscript a (.Slice lo hi none p2) pos) (TE' c W (mslice g ma ml mh)) := by
  refine (pe_slice hr ha hl hh).imp fun σ H Q ⟨w, sl, e, s, rs, h⟩ => ?_
  subst e
  refine te_then (R := fun w r => Post c w r Q fun cls d H' => W cls d σ H') s rs exc_post (fun z => z) h fun v w1 e1 s1 rs1 h1 x rx => ?_
  refine to_then (R := fun w r => Post c w r Q fun cls d H' => W cls d σ H') s1 rs1 exc_post (fun z => z) (h1.ext e1) fun l w2 e2 s2 rs2 h2 => ?_
  refine to_then (R := fun w r => Post c w r Q fun cls d H' => W cls d σ H') s2 rs2 exc_post (fun z => z) (h2.ext e2) fun u w3 e3 s3 rs3 h3 => ?_
  exact ⟨w3, v, rfl, s3, RV.ext s1 (e2.trans e3) _ _ rx, (h3.ext e3).noexc (n _ _ _ _)⟩
theorem nx_Slice : ∀ a l u μ e μ', vSlice a l u μ ≠ .exc e μ' := fun a l u μ e μ' h => by
  unfold vSlice at h
  split at h
  · cases h
  · split at h <;> cases h
  · cases h
  · cases h
end
end G

/-! G5: built-in functions by values. -/
namespace G
open PySem PySem.Spec PyProof.Rows L2

/-- a built-in by values -/
def CaG (c : Ct) (X : Cx) (f : Value) (g : List Val → Mu → Res Val) : Prop :=
  CallR X f fun xs H Q => ∃ w vs, w.H = H ∧ Sim c w ∧ RVs c w vs xs ∧ Post c w (g vs w.μ) Q fun _ _ _ => False
/-- .. that gives a new list -/
def CaF (c : Ct) (X : Cx) (f : Value) (g : List Val → Mu → Res (List Val)) : Prop :=
  CallR X f fun xs H Q => ∃ w vs, w.H = H ∧ Sim c w ∧ RVs c w vs xs ∧ PostF c w (g vs w.μ) Q fun _ _ _ => False
def NoExc {α β : Type} (g : α → Mu → Res β) : Prop := ∀ a μ e μ', g a μ ≠ .exc e μ'
def mcall {α : Type} (g : List Val → Mu → Res α) (as : M (List Val)) : M α := andThen as fun vs => fun _ μ => g vs μ
section
variable {c : Ct} {W : WX} {X : Cx} {x : Str} {p pos : Pos} {e : Expr} {es : List Expr} {ma : M (List Val)} {id T : String}
theorem PostF.noexc {w : Wd} {r : Res (List Val)} {Q : VK} {E E' : XK} (h : PostF c w r Q E) (n : ∀ e μ', r ≠ .exc e μ') : PostF c w r Q E' := by
  cases r with
  | ok v μ => exact h
  | exc e μ => exact absurd rfl (n e μ)
  | stuck => exact h
theorem liftC {g : List Val → Mu → Res Val} (n : NoExc g) {σ : St} {H : Hp} {Q : VK} (h : TE' c W (mcall g ma) σ H Q) : TA' c W ma σ H fun xs H1 => ∃ w vs, w.H = H1 ∧ Sim c w ∧ RVs c w vs xs ∧ Post c w (g vs w.μ) Q fun _ _ _ => False := by
  obtain ⟨w, sl, e, s, rs, h⟩ := h
  subst e
  exact ta_then (R := fun w r => Post c w r Q fun cls d H' => W cls d σ H') s rs exc_post (fun z => z) h fun vs w1 e1 s1 rs1 h1 xs rx => ⟨w1, vs, rfl, s1, rx, (h1.ext e1).noexc (n _ _)⟩
theorem liftF {g : List Val → Mu → Res (List Val)} (n : NoExc g) {σ : St} {H : Hp} {Q : VK} (h : TF' c W (mcall g ma) σ H Q) : TA' c W ma σ H fun xs H1 => ∃ w vs, w.H = H1 ∧ Sim c w ∧ RVs c w vs xs ∧ PostF c w (g vs w.μ) Q fun _ _ _ => False := by
  obtain ⟨w, sl, e, s, rs, h⟩ := h
  subst e
  exact ta_then (R := fun w r => PostF c w r Q fun cls d H' => W cls d σ H') s rs excF_post (fun z => z) h fun vs w1 e1 s1 rs1 h1 xs rx => ⟨w1, vs, rfl, s1, rx, (h1.ext e1).noexc (n _ _)⟩
theorem ge_callB {g : List Val → Mu → Res Val} (hc : CaG c X (.builtin id) g) (n : NoExc g) (hm : X.mg x = none) (ha : PA X (e :: es) (TA' c W ma)) (hg : Gl X x := by rfl) (hv : bootBuiltins x = some (.builtin id) := by decide +kernel) (hn : x ≠ "__name__" := by decide) (hdb : (x == ("__debug__" : Str)) = false := by decide)
    (he : starEach (e :: es) X.env = (false, eval e X.env) :: starEach es X.env := by rfl) (hpl : (backTo pos (starEach es X.env)).any (·.1) = false := by rfl) : PE X (.Call (.Name x p) (e :: es) [] pos) (TE' c W (mcall g ma)) :=
  (pe_callB hc hg hm hv ha hn hdb he hpl).imp fun _ _ _ h => liftC n h
theorem ge_callT {g : List Val → Mu → Res Val} (hc : CaG c X (.type T) g) (n : NoExc g) (hm : X.mg x = none) (ha : PA X (e :: es) (TA' c W ma)) (hg : Gl X x := by rfl) (hv : bootBuiltins x = some (.type T) := by decide +kernel) (hn : x ≠ "__name__" := by decide) (hdb : (x == ("__debug__" : Str)) = false := by decide)
    (he : starEach (e :: es) X.env = (false, eval e X.env) :: starEach es X.env := by rfl) (hpl : (backTo pos (starEach es X.env)).any (·.1) = false := by rfl) : PE X (.Call (.Name x p) (e :: es) [] pos) (TE' c W (mcall g ma)) :=
  (pe_callTy hc hg hm hv ha hn hdb he hpl).imp fun _ _ _ h => liftC n h
theorem gf_callB {g : List Val → Mu → Res (List Val)} (hc : CaF c X (.builtin id) g) (n : NoExc g) (hm : X.mg x = none) (ha : PA X (e :: es) (TA' c W ma)) (hg : Gl X x := by rfl) (hv : bootBuiltins x = some (.builtin id) := by decide +kernel) (hn : x ≠ "__name__" := by decide) (hdb : (x == ("__debug__" : Str)) = false := by decide)
    (he : starEach (e :: es) X.env = (false, eval e X.env) :: starEach es X.env := by rfl) (hpl : (backTo pos (starEach es X.env)).any (·.1) = false := by rfl) : PE X (.Call (.Name x p) (e :: es) [] pos) (TF' c W (mcall g ma)) :=
  (pe_callB hc hg hm hv ha hn hdb he hpl).imp fun _ _ _ h => liftF n h
theorem gf_callT {g : List Val → Mu → Res (List Val)} (hc : CaF c X (.type T) g) (n : NoExc g) (hm : X.mg x = none) (ha : PA X (e :: es) (TA' c W ma)) (hg : Gl X x := by rfl) (hv : bootBuiltins x = some (.type T) := by decide +kernel) (hn : x ≠ "__name__" := by decide) (hdb : (x == ("__debug__" : Str)) = false := by decide)
    (he : starEach (e :: es) X.env = (false, eval e X.env) :: starEach es X.env := by rfl) (hpl : (backTo pos (starEach es X.env)).any (·.1) = false := by rfl) : PE X (.Call (.Name x p) (e :: es) [] pos) (TF' c W (mcall g ma)) :=
  (pe_callTy hc hg hm hv ha hn hdb he hpl).imp fun _ _ _ h => liftF n h
/-- a built-in type's name as a value -/
theorem ge_ty {n : String} (hm : X.mg x = none) (hg : Gl X x := by rfl) (hv : bootBuiltins x = some (.type n) := by decide +kernel) (hn : x ≠ "__name__" := by decide) (hdb : (x == ("__debug__" : Str)) = false := by decide) : PE X (.Name x pos) (TE' c W (mcst (.ty n))) :=
  ge_cst (pe_bltn (v := .ty n) hg hm hv rfl hn hdb) fun _ => rfl
/-- a module's constant -/
theorem ge_glob {v : Val} {y : V} {u : Value} (hm : X.mg x = some u) (r : RelV y u) (rv : ∀ w, RV c w v y) (hg : Gl X x := by rfl) (hdb : (x == ("__debug__" : Str)) = false := by decide) : PE X (.Name x pos) (TE' c W (mcst v)) :=
  ge_cst (pe_glob hg hm r hdb) rv
end

/-! ### len, abs, int, min, max -/
def vLen (vs : List Val) (μ : Mu) : Res Val := match vs with
  | [v] => (match look μ v with
    | .lst xs => .ok (.int xs.length) μ
    | .tup xs => .ok (.int xs.length) μ
    | .str s => if s.length ≤ LIM then .ok (.int s.length) μ else .stuck
    | _ => .stuck)
  | _ => .stuck
def vAbs (vs : List Val) (μ : Mu) : Res Val := match vs with
  | [.int i] => .ok (.int (if i < 0 then -i else i)) μ
  | _ => .stuck
def vInt (vs : List Val) (μ : Mu) : Res Val := match vs with
  | [.int i] => .ok (.int i) μ
  | [.bl k] => .ok (.int (if k then 1 else 0)) μ
  | _ => .stuck
def vMax2 (vs : List Val) (μ : Mu) : Res Val := match vs with
  | [.int i, .int j] => .ok (.int (if j > i then j else i)) μ
  | _ => .stuck
def vMin2 (vs : List Val) (μ : Mu) : Res Val := match vs with
  | [.int i, .int j] => .ok (.int (if j < i then j else i)) μ
  | _ => .stuck
def vTuple (vs : List Val) (μ : Mu) : Res Val := match vs with
  | [v] => (match look μ v with
    | .lst xs => .ok (.tup xs) μ
    | .tup xs => .ok (.tup xs) μ
    | _ => .stuck)
  | _ => .stuck
def vList (vs : List Val) (μ : Mu) : Res (List Val) := match vs with
  | [v] => (match seqOf μ v with
    | some xs => .ok xs μ
    | none => .stuck)
  | _ => .stuck
/-- the truths of a list of bools -/
def blsOf : List Val → Option (List Bool)
  | [] => some []
  | .bl b :: xs => (blsOf xs).map (b :: ·)
  | _ :: _ => none
def intsOf : List Val → Option (List Int)
  | [] => some []
  | .int b :: xs => (intsOf xs).map (b :: ·)
  | _ :: _ => none
def vAny (vs : List Val) (μ : Mu) : Res Val := match vs with
  | [v] => (match look μ v with
    | .lst xs => (match blsOf xs with | some bs => .ok (.bl (bs.any id)) μ | none => .stuck)
    | _ => .stuck)
  | _ => .stuck
def vAll (vs : List Val) (μ : Mu) : Res Val := match vs with
  | [v] => (match look μ v with
    | .lst xs => (match blsOf xs with | some bs => .ok (.bl (bs.all id)) μ | none => .stuck)
    | _ => .stuck)
  | _ => .stuck
def vSum (vs : List Val) (μ : Mu) : Res Val := match vs with
  | [v] => (match look μ v with
    | .lst xs => (match intsOf xs with | some bs => .ok (.int bs.sum) μ | none => .stuck)
    | _ => .stuck)
  | _ => .stuck
def tyn : Val → Option String
  | .non => some "NoneType"
  | .bl _ => some "bool"
  | .int _ => some "int"
  | .str _ => some "str"
  | .tup _ => some "tuple"
  | .lst _ => some "list"
  | _ => none
/-- the types that are asked for -/
def isiB (a b : String) : Option Bool :=
  if a = b then (if b ∈ ["bool", "int", "str", "tuple", "list", "dict"] then some true else none)
  else if a = "bool" ∧ b = "int" then some true
  else if b ∈ ["bool", "int", "str", "tuple", "list", "dict"] ∧ a ∈ ["NoneType", "bool", "int", "str", "tuple", "list", "dict"] then some false else none
def vIsi (vs : List Val) (μ : Mu) : Res Val := match vs with
  | [v, .ty b] => (match tyn (look μ v) with
    | some a => (match isiB a b with | some k => .ok (.bl k) μ | none => .stuck)
    | none => .stuck)
  | _ => .stuck
theorem nx_Len : NoExc vLen := fun a μ e μ' h => by
  unfold vLen at h
  split at h
  · split at h
    · cases h
    · cases h
    · split at h <;> cases h
    · cases h
  · cases h
theorem nx_Abs : NoExc vAbs := fun a μ e μ' h => by unfold vAbs at h; split at h <;> cases h
theorem nx_Int : NoExc vInt := fun a μ e μ' h => by unfold vInt at h; split at h <;> cases h
theorem nx_Max2 : NoExc vMax2 := fun a μ e μ' h => by unfold vMax2 at h; split at h <;> cases h
theorem nx_Min2 : NoExc vMin2 := fun a μ e μ' h => by unfold vMin2 at h; split at h <;> cases h
theorem nx_Tuple : NoExc vTuple := fun a μ e μ' h => by
  unfold vTuple at h
  split at h
  · split at h <;> cases h
  · cases h
theorem nx_List : NoExc vList := fun a μ e μ' h => by
  unfold vList at h
  split at h
  · split at h <;> cases h
  · cases h
theorem nx_Any : NoExc vAny := fun a μ e μ' h => by
  unfold vAny at h
  split at h
  · split at h
    · split at h <;> cases h
    · cases h
  · cases h
theorem nx_All : NoExc vAll := fun a μ e μ' h => by
  unfold vAll at h
  split at h
  · split at h
    · split at h <;> cases h
    · cases h
  · cases h
theorem nx_Sum : NoExc vSum := fun a μ e μ' h => by
  unfold vSum at h
  split at h
  · split at h
    · split at h <;> cases h
    · cases h
  · cases h
theorem nx_Isi : NoExc vIsi := fun a μ e μ' h => by
  unfold vIsi at h
  split at h
  · split at h
    · split at h <;> cases h
    · cases h
  · cases h
section
variable {c : Ct} {X : Cx} {w : Wd}
theorem RVs.one {v : Val} {xs : List V} (h : RVs c w [v] xs) : ∃ x, xs = [x] ∧ RV c w v x := by
  obtain ⟨y, r, e, h1, h2⟩ := h
  have h2 : r = [] := h2
  subst h2
  exact ⟨y, e, h1⟩
theorem RVs.two {v u : Val} {xs : List V} (h : RVs c w [v, u] xs) : ∃ x y, xs = [x, y] ∧ RV c w v x ∧ RV c w u y := by
  obtain ⟨y, r, e, h1, h2⟩ := h
  obtain ⟨z, e2, h3⟩ := h2.one
  subst e2
  exact ⟨y, z, e, h1, h3⟩
theorem blsOf_rv : ∀ {xs : List Val} {bs : List Bool} {ys : List V}, blsOf xs = some bs → RVs c w xs ys → ys = bs.map V.bl
  | [], bs, ys, h, r => by cases h; exact r
  | .bl b :: xs, bs, ys, h, r => by
    obtain ⟨y, q, e, h1, h2⟩ := r
    simp only [blsOf, Option.map_eq_some_iff] at h
    obtain ⟨bs', h, e'⟩ := h
    subst e' e
    rw [show y = V.bl b from h1, blsOf_rv h h2]
    rfl
  | .non :: _, _, _, h, _ => by cases h
  | .int _ :: _, _, _, h, _ => by cases h
  | .str _ :: _, _, _, h, _ => by cases h
  | .tup _ :: _, _, _, h, _ => by cases h
  | .lst _ :: _, _, _, h, _ => by cases h
  | .rol _ :: _, _, _, h, _ => by cases h
  | .ref _ :: _, _, _, h, _ => by cases h
  | .fn _ :: _, _, _, h, _ => by cases h
  | .ty _ :: _, _, _, h, _ => by cases h
  | .dct _ _ :: _, _, _, h, _ => by cases h
theorem intsOf_rv : ∀ {xs : List Val} {bs : List Int} {ys : List V}, intsOf xs = some bs → RVs c w xs ys → ys = bs.map V.int
  | [], bs, ys, h, r => by cases h; exact r
  | .int b :: xs, bs, ys, h, r => by
    obtain ⟨y, q, e, h1, h2⟩ := r
    simp only [intsOf, Option.map_eq_some_iff] at h
    obtain ⟨bs', h, e'⟩ := h
    subst e' e
    rw [show y = V.int b from h1, intsOf_rv h h2]
    rfl
  | .non :: _, _, _, h, _ => by cases h
  | .bl _ :: _, _, _, h, _ => by cases h
  | .str _ :: _, _, _, h, _ => by cases h
  | .tup _ :: _, _, _, h, _ => by cases h
  | .lst _ :: _, _, _, h, _ => by cases h
  | .rol _ :: _, _, _, h, _ => by cases h
  | .ref _ :: _, _, _, h, _ => by cases h
  | .fn _ :: _, _, _, h, _ => by cases h
  | .ty _ :: _, _, _, h, _ => by cases h
  | .dct _ _ :: _, _, _, h, _ => by cases h
theorem cg_Len (hK : X.K = c.K) : CaG c X (.builtin "len") vLen := by
  intro pins s σ H xs us Q I r ⟨w, vs, e, sm, rv, h⟩
  subst e
  unfold vLen at h
  split at h
  · rename_i v
    obtain ⟨x, ex, rx⟩ := rv.one
    subst ex
    split at h
    · rename_i zs e1
      obtain ⟨a, ys, f1, f2, f3⟩ := look_lst sm rx e1
      subst f1
      exact call_len pins s σ w.H _ us Q I r ⟨.ref a, ys.length, rfl, .inl ⟨ys, by rw [hK]; exact f2, rfl⟩, by rw [← f3.length]; exact h.here sm rfl⟩
    · rename_i zs e1
      obtain ⟨a, ys, f1, f2, f3⟩ := look_tup sm rx e1
      subst f1
      exact call_len pins s σ w.H _ us Q I r ⟨.ref a, ys.length, rfl, .inr ⟨ys, by rw [hK]; exact f2, rfl⟩, by rw [← f3.length]; exact h.here sm rfl⟩
    · rename_i zs e1
      split at h
      · rename_i hl
        rw [look_str rx e1] at r
        exact call_len_str pins s σ w.H _ us Q I r ⟨zs, rfl, by rw [← LIM_eq]; exact hl, h.here sm rfl⟩
      · exact h.elim
    · exact h.elim
  · exact h.elim
theorem cg_Abs : CaG c X (.builtin "abs") vAbs := by
  intro pins s σ H xs us Q I r ⟨w, vs, e, sm, rv, h⟩
  subst e
  unfold vAbs at h
  split at h
  · obtain ⟨x, ex, rx⟩ := rv.one
    exact call_abs pins s σ w.H _ us Q I r ⟨_, by rw [ex, show x = V.int _ from rx], h.here sm rfl⟩
  · exact h.elim
theorem cg_Int : CaG c X (.type "int") vInt := by
  intro pins s σ H xs us Q I r ⟨w, vs, e, sm, rv, h⟩
  subst e
  unfold vInt at h
  split at h
  · obtain ⟨x, ex, rx⟩ := rv.one
    exact call_int1 pins s σ w.H _ us Q I r (.inl ⟨_, by rw [ex, show x = V.int _ from rx], h.here sm rfl⟩)
  · obtain ⟨x, ex, rx⟩ := rv.one
    exact call_int1 pins s σ w.H _ us Q I r (.inr ⟨_, by rw [ex, show x = V.bl _ from rx], h.here sm rfl⟩)
  · exact h.elim
theorem cg_Max2 (hc : X.calm = true) : CaG c X (.builtin "max") vMax2 := by
  intro pins s σ H xs us Q I r ⟨w, vs, e, sm, rv, h⟩
  subst e
  unfold vMax2 at h
  split at h
  · obtain ⟨x, y, ex, rx, ry⟩ := rv.two
    exact call_max2 hc pins s σ w.H _ us Q I r ⟨_, _, by rw [ex, show x = V.int _ from rx, show y = V.int _ from ry], h.here sm rfl⟩
  · exact h.elim
theorem cg_Min2 (hc : X.calm = true) : CaG c X (.builtin "min") vMin2 := by
  intro pins s σ H xs us Q I r ⟨w, vs, e, sm, rv, h⟩
  subst e
  unfold vMin2 at h
  split at h
  · obtain ⟨x, y, ex, rx, ry⟩ := rv.two
    exact call_min2 hc pins s σ w.H _ us Q I r ⟨_, _, by rw [ex, show x = V.int _ from rx, show y = V.int _ from ry], h.here sm rfl⟩
  · exact h.elim
theorem cg_Tuple (hK : X.K = c.K) : CaG c X (.type "tuple") vTuple := by
  intro pins s σ H xs us Q I r ⟨w, vs, e, sm, rv, h⟩
  subst e
  unfold vTuple at h
  split at h
  · obtain ⟨x, ex, rx⟩ := rv.one
    subst ex
    split at h
    · rename_i zs e1
      obtain ⟨a, ys, f1, f2, f3⟩ := look_lst sm rx e1
      subst f1
      exact call_tuple_of pins s σ w.H _ us Q I r ⟨a, ys, rfl, .inl ⟨by rw [hK]; exact f2, fun l n => h.tup sm f3 n⟩⟩
    · rename_i zs e1
      obtain ⟨a, ys, f1, f2, f3⟩ := look_tup sm rx e1
      subst f1
      exact call_tuple_of pins s σ w.H _ us Q I r ⟨a, ys, rfl, .inr ⟨by rw [hK]; exact f2, h.here sm ⟨a, ys, rfl, f2, f3⟩⟩⟩
    · exact h.elim
  · exact h.elim
theorem cf_List (hK : X.K = c.K) : CaF c X (.type "list") vList := by
  intro pins s σ H xs us Q I r ⟨w, vs, e, sm, rv, h⟩
  subst e
  unfold vList at h
  split at h
  · obtain ⟨x, ex, rx⟩ := rv.one
    subst ex
    split at h
    · rename_i zs e1
      obtain ⟨a, ys, f1, f2, f3⟩ := seqOf_sq sm rx e1
      subst f1
      exact call_list_of pins s σ w.H _ us Q I r ⟨a, ys, rfl, by rw [hK]; exact f2, fun l n => h.new sm f3 n⟩
    · exact h.elim
  · exact h.elim
theorem cg_Any (hK : X.K = c.K) (hc : X.calm = true) : CaG c X (.builtin "any") vAny := by
  intro pins s σ H xs us Q I r ⟨w, vs, e, sm, rv, h⟩
  subst e
  unfold vAny at h
  split at h
  · obtain ⟨x, ex, rx⟩ := rv.one
    subst ex
    split at h
    · rename_i zs e1
      obtain ⟨a, ys, f1, f2, f3⟩ := look_lst sm rx e1
      subst f1
      split at h
      · rename_i bs hb
        have := blsOf_rv hb f3
        subst this
        exact cr_any hc pins s σ w.H _ us Q I r ⟨a, bs, rfl, by rw [hK]; exact f2, h.here sm rfl⟩
      · exact h.elim
    · exact h.elim
  · exact h.elim
theorem cg_All (hK : X.K = c.K) (hc : X.calm = true) : CaG c X (.builtin "all") vAll := by
  intro pins s σ H xs us Q I r ⟨w, vs, e, sm, rv, h⟩
  subst e
  unfold vAll at h
  split at h
  · obtain ⟨x, ex, rx⟩ := rv.one
    subst ex
    split at h
    · rename_i zs e1
      obtain ⟨a, ys, f1, f2, f3⟩ := look_lst sm rx e1
      subst f1
      split at h
      · rename_i bs hb
        have := blsOf_rv hb f3
        subst this
        exact cr_all hc pins s σ w.H _ us Q I r ⟨a, bs, rfl, by rw [hK]; exact f2, h.here sm rfl⟩
      · exact h.elim
    · exact h.elim
  · exact h.elim
theorem cg_Sum (hK : X.K = c.K) (hc : X.calm = true) : CaG c X (.builtin "sum") vSum := by
  intro pins s σ H xs us Q I r ⟨w, vs, e, sm, rv, h⟩
  subst e
  unfold vSum at h
  split at h
  · obtain ⟨x, ex, rx⟩ := rv.one
    subst ex
    split at h
    · rename_i zs e1
      obtain ⟨a, ys, f1, f2, f3⟩ := look_lst sm rx e1
      subst f1
      split at h
      · rename_i bs hb
        have := intsOf_rv hb f3
        subst this
        exact cr_sum hc pins s σ w.H _ us Q I r ⟨a, bs, rfl, by rw [hK]; exact f2, h.here sm rfl⟩
      · exact h.elim
    · exact h.elim
  · exact h.elim

/-! ### isinstance -/
theorem isiB_kit {a b : String} {k : Bool} (h : isiB a b = some k) : kitB a b = some k := by
  unfold isiB at h
  split at h
  · rename_i e
    subst e
    split at h
    · rename_i hm
      cases h
      simp only [List.mem_cons, List.not_mem_nil, or_false] at hm
      rcases hm with rfl | rfl | rfl | rfl | rfl | rfl <;> decide +kernel
    · cases h
  · split at h
    · rename_i hm
      obtain ⟨rfl, rfl⟩ := hm
      cases h
      decide +kernel
    · rename_i n1 n2
      split at h
      · rename_i hm
        cases h
        obtain ⟨h1, h2⟩ := hm
        simp only [List.mem_cons, List.not_mem_nil, or_false] at h1 h2
        rcases h1 with rfl | rfl | rfl | rfl | rfl | rfl <;> rcases h2 with rfl | rfl | rfl | rfl | rfl | rfl | rfl <;> first | (exact absurd rfl n1) | (exact absurd ⟨rfl, rfl⟩ n2) | decide +kernel
      · cases h
theorem look_dct {x : Val} {v : V} {ks : List DKey} {vs : List Val} (s : Sim c w) (r : RV c w x v) (h : look w.μ x = .dct ks vs) : ∃ a ys, v = .ref a ∧ DcH w.H a ks ys ∧ RVs c w vs ys := by
  cases x with
  | ref n =>
    obtain ⟨a, e, hn⟩ := r
    have hl : n < w.μ.length := by rw [← s.len]; exact (List.getElem?_eq_some_iff.mp hn).1
    have hg := List.getElem?_eq_getElem hl
    have ro := s.ob n a _ hn hg
    simp only [look, hg] at h
    revert h ro
    cases w.μ[n] with
    | lst zs => intro _ h; cases h
    | dct ks vs => intro ro h; cases h; obtain ⟨ys, q, r⟩ := ro; exact ⟨a, ys, e, q, r⟩
  | dct _ _ => cases h; obtain ⟨a, ys, e, q, r⟩ := r; exact ⟨a, ys, e, q.1, r⟩
  | non => cases h
  | bl _ => cases h
  | int _ => cases h
  | str _ => cases h
  | tup _ => cases h
  | lst _ => cases h
  | fn _ => cases h
  | rol _ => cases h
  | ty _ => cases h
theorem tyxL {K : PySem.W.Frag} {H : Hp} {a : Addr} {ys : List V} (h : SqL K H a ys) : TyX K H (.ref a) (.type "list") := by
  rcases h with (h | ⟨o, h⟩) | ⟨o, its, n, h1, h2, _⟩
  · exact .base (.lst h)
  · exact .base (.frz h)
  · exact .kList h1 h2
theorem tyxT {K : PySem.W.Frag} {H : Hp} {a : Addr} {ys : List V} (h : SqT K H a ys) : TyX K H (.ref a) (.type "tuple") := by
  rcases h with (h | ⟨o, h⟩) | ⟨o, its, n, h1, h2, _⟩
  · exact .base (.tup h)
  · exact .fTuple h
  · exact .kTuple h1 h2
theorem look_non {x : Val} {v : V} (r : RV c w x v) (h : look w.μ x = .non) : v = .non := by
  cases x with
  | non => exact r
  | ref n => simp only [look] at h; split at h <;> cases h
  | _ => cases h
theorem cg_Isi (hK : X.K = c.K) : CaG c X (.builtin "isinstance") vIsi := by
  intro pins s σ H xs us Q I r ⟨w, vs, e, sm, rv, h⟩
  subst e
  match vs, rv, h with
  | [v, .ty b], rv, h =>
    obtain ⟨x, y, ex, rx, ry⟩ := rv.two
    subst ex
    have ry : y = .ty b := ry
    subst ry
    have fin : ∀ {a : String}, tyn (look w.μ v) = some a → TyX c.K w.H x (.type a) → Post c w (vIsi [v, .ty b] w.μ) Q (fun _ _ _ => False) → wpAny (model X.prog X.w) X.A (call (.builtin "isinstance") us) (EP X pins σ Q) X.xe s := fun {a} ht ty h => by
      unfold vIsi at h
      dsimp only at h
      rw [ht] at h
      dsimp only at h
      split at h
      · rename_i k hk
        exact call_isi pins s σ w.H _ us Q I r ⟨x, .ty b, _, _, k, rfl, .ty b, by rw [hK]; exact ty, kit_ty (isiB_kit hk), h.here sm rfl⟩
      · exact h.elim
    cases e1 : look w.μ v with
    | non => exact fin (by rw [e1]; rfl) (by rw [look_non rx e1]; exact .base .non) h
    | bl k => exact fin (by rw [e1]; rfl) (by rw [look_bl rx e1]; exact .base (.bl k)) h
    | int k => exact fin (by rw [e1]; rfl) (by rw [look_int rx e1]; exact .base (.int k)) h
    | str k => exact fin (by rw [e1]; rfl) (by rw [look_str rx e1]; exact .base (.str k)) h
    | lst zs => obtain ⟨a, ys, f1, f2, _⟩ := look_lst sm rx e1; exact fin (by rw [e1]; rfl) (by rw [f1]; exact tyxL f2) h
    | tup zs => obtain ⟨a, ys, f1, f2, _⟩ := look_tup sm rx e1; exact fin (by rw [e1]; rfl) (by rw [f1]; exact tyxT f2) h
    | dct _ _ => unfold vIsi at h; dsimp only at h; rw [e1] at h; exact h.elim
    | rol n => unfold vIsi at h; dsimp only at h; rw [e1] at h; exact h.elim
    | ref n => unfold vIsi at h; dsimp only at h; rw [e1] at h; exact h.elim
    | fn n => unfold vIsi at h; dsimp only at h; rw [e1] at h; exact h.elim
    | ty n => unfold vIsi at h; dsimp only at h; rw [e1] at h; exact h.elim
  | [], _, h => exact h.elim
  | [_], _, h => exact h.elim
  | _ :: a :: _ :: _, _, h => cases a <;> exact h.elim
  | [_, .non], _, h => exact h.elim
  | [_, .bl _], _, h => exact h.elim
  | [_, .int _], _, h => exact h.elim
  | [_, .str _], _, h => exact h.elim
  | [_, .tup _], _, h => exact h.elim
  | [_, .lst _], _, h => exact h.elim
  | [_, .rol _], _, h => exact h.elim
  | [_, .ref _], _, h => exact h.elim
  | [_, .fn _], _, h => exact h.elim
  | [_, .dct _ _], _, h => exact h.elim
end
end G

/-! G6: targets, what is walked, statements. -/
namespace G
open PySem PySem.Spec PyProof.Rows L2

/-! ### targets -/
inductive Tgt where
  | nm (i : Nat) | tp (ts : List Tgt)
mutual
def bindT : Tgt → Val → Sl → Mu → Option Sl
  | .nm i, v, sl, _ => some (sl.set i (some v))
  | .tp ts, v, sl, μ => match seqOf μ v with
    | some xs => bindTs ts xs sl μ
    | none => none
def bindTs : List Tgt → List Val → Sl → Mu → Option Sl
  | [], [], sl, _ => some sl
  | t :: ts, x :: xs, sl, μ => match bindT t x sl μ with
    | some sl' => bindTs ts xs sl' μ
    | none => none
  | _, _, _, _ => none
end
mutual
def Tgt.slots : Tgt → List Nat
  | .nm i => [i]
  | .tp ts => slotsAll ts
def slotsAll : List Tgt → List Nat
  | [] => []
  | t :: ts => t.slots ++ slotsAll ts
end
/-- the same but at these slots -/
def OffS (σ σ' : St) (is : List Nat) : Prop := σ'.length = σ.length ∧ ∀ i, i ∉ is → σ'[i]? = σ[i]?
def TG' (c : Ct) (t : Tgt) : TG := fun v σ H Q => ∃ w sl x, w.H = H ∧ Sim c w ∧ RSl c w sl σ ∧ RV c w x v ∧ ∃ sl', bindT t x sl w.μ = some sl' ∧ ∀ σ', RSl c w sl' σ' → OffS σ σ' t.slots → Q σ' w.H
def TGs' (c : Ct) (ts : List Tgt) : TGs := fun vs σ H Q => ∃ w sl xs, w.H = H ∧ Sim c w ∧ RSl c w sl σ ∧ RVs c w xs vs ∧ ∃ sl', bindTs ts xs sl w.μ = some sl' ∧ ∀ σ', RSl c w sl' σ' → OffS σ σ' (slotsAll ts) → Q σ' w.H
theorem _root_.L2.PG.imp {X : Cx} {e : Expr} {t t' : TG} (h : PG X e t) (k : ∀ v σ H Q, t' v σ H Q → t v σ H Q) : PG X e t' := ⟨fun pins s σ H v u Q I r hw => h.run pins s σ H v u Q I r (k v σ H Q hw)⟩
theorem _root_.L2.PGs.imp {X : Cx} {e : List Expr} {t t' : TGs} (h : PGs X e t) (k : ∀ v σ H Q, t' v σ H Q → t v σ H Q) : PGs X e t' := ⟨fun pins s σ H v u Q I r hw => h.run pins s σ H v u Q I r (k v σ H Q hw)⟩
theorem _root_.L2.PG.or {X : Cx} {e : Expr} {t t' : TG} (h : PG X e t) (h' : PG X e t') : PG X e (fun v σ H Q => t v σ H Q ∨ t' v σ H Q) := ⟨fun pins s σ H v u Q I r hw => hw.elim (h.run pins s σ H v u Q I r) (h'.run pins s σ H v u Q I r)⟩
section
variable {c : Ct} {W : WX} {X : Cx} {pos : Pos}
theorem gg_nm {i : Nat} {x : Str} (hN : X.N.Nodup) (hi : X.N[i]? = some x) (hx : Loc X.env.scope x) (hf : X.fn x = true ∨ X.env.scope.names.lookup x = some .local := by first | exact .inl rfl | exact .inr rfl | assumption) : PG X (.Name x pos) (TG' c (.nm i)) := by
  refine (pg_name hN hi hx hf).imp fun v σ H Q ⟨w, sl, x, e, s, rs, rv, sl', h1, h2⟩ => ?_
  subst e
  cases h1
  refine h2 _ (rs.set rv i) ⟨by simp, fun j hj => ?_⟩
  rw [List.getElem?_set_ne]
  exact fun e => hj (by rw [e]; exact List.mem_singleton.mpr rfl)
theorem ggs_nil : PGs X [] (TGs' c []) := by
  refine pgs_nil.imp fun v σ H Q ⟨w, sl, xs, e, s, rs, rv, sl', h1, h2⟩ => ?_
  subst e
  cases xs with
  | nil => cases h1; exact ⟨rv, h2 _ rs ⟨rfl, fun _ _ => rfl⟩⟩
  | cons _ _ => cases h1
theorem ggs_cons {e : Expr} {es : List Expr} {t : Tgt} {ts : List Tgt} (h1 : PG X e (TG' c t)) (h2 : PGs X es (TGs' c ts))
    (hs : (assignEach (e :: es) X.env).map (·.2) = assign e X.env :: (assignEach es X.env).map (·.2) := by rfl) : PGs X (e :: es) (TGs' c (t :: ts)) := by
  refine (pgs_cons h1 h2 hs).imp fun v σ H Q ⟨w, sl, xs, e, s, rs, rv, sl', h1, h2⟩ => ?_
  subst e
  cases xs with
  | nil => cases h1
  | cons x xs =>
    obtain ⟨y, r, e, r1, r2⟩ := rv
    simp only [bindTs] at h1
    cases q : bindT t x sl w.μ with
    | none => rw [q] at h1; cases h1
    | some sl2 =>
      rw [q] at h1
      refine ⟨y, r, e, w, sl, x, rfl, s, rs, r1, sl2, q, fun σ2 rs2 o2 => ⟨w, sl2, xs, rfl, s, rs2, r2, sl', h1, fun σ3 rs3 o3 => h2 σ3 rs3 ⟨o3.1.trans o2.1, fun i hi => ?_⟩⟩⟩
      simp only [slotsAll, List.mem_append, not_or] at hi
      exact (o3.2 i hi.2).trans (o2.2 i hi.1)
theorem bindTs_len : ∀ {ts : List Tgt} {xs : List Val} {sl : Sl} {μ : Mu} {sl' : Sl}, bindTs ts xs sl μ = some sl' → xs.length = ts.length
  | [], [], _, _, _, _ => rfl
  | [], _ :: _, _, _, _, h => by cases h
  | _ :: _, [], _, _, _, h => by cases h
  | t :: ts, x :: xs, sl, μ, sl', h => by
    simp only [bindTs] at h
    cases q : bindT t x sl μ with
    | none => rw [q] at h; cases h
    | some sl2 => rw [q] at h; simp [bindTs_len h]
theorem gg_tp {es : List Expr} {k : Nat} {ts : List Tgt} {n : Nat} (hK : X.K = c.K) (hc : X.calm = true) (h : PGs X es (TGs' c ts)) (hts : ts.length = n := by rfl)
    (hn : (assignEach es X.env).length = n := by rfl) (hst : (assignEach es X.env).findIdx? (·.1) = none := by rfl) : PG X (.Tuple es k pos) (TG' c (.tp ts)) := by
  refine ((pg_tup hc h hn hst).or (pg_lst hc h hn hst)).imp fun v σ H Q ⟨w, sl, x, e, s, rs, rv, sl', h1, h2⟩ => ?_
  subst e
  simp only [bindT] at h1
  cases q : seqOf w.μ x with
  | none => rw [q] at h1; cases h1
  | some xs =>
    rw [q] at h1
    have hl := bindTs_len h1
    obtain ⟨a, ys, e1, e2, e3⟩ := seqOf_sq s rv q
    rcases e2 with e2 | e2
    · exact .inr ⟨a, ys, e1, by rw [hK]; exact e2, by rw [← e3.length, hl, hts], w, sl, xs, rfl, s, rs, e3, sl', h1, h2⟩
    · exact .inl ⟨a, ys, e1, by rw [hK]; exact e2, by rw [← e3.length, hl, hts], w, sl, xs, rfl, s, rs, e3, sl', h1, h2⟩
end

/-! ### what is walked -/
inductive Src where
  | vals (xs : List Val) | live (r : Nat)
/-- the iterator J gives xs -/
def WalkG (c : Ct) (J : It) (xs : List Val) (w0 : Wd) : Prop := ∀ w, ExtR w0 w → Sim c w →
  (∀ (i : Nat) (x : Val), xs[i]? = some x → J.go i w.H ∧ ∀ y H', J.yld i w.H y H' → ∃ w', w'.H = H' ∧ w'.μ = w.μ ∧ Ext w w' ∧ Sim c w' ∧ RV c w' x y) ∧ J.stop xs.length w.H
/-- .. the items of the list r as it stands -/
def WalkL (c : Ct) (J : It) (r : Nat) (w0 : Wd) : Prop := ∀ w, ExtR w0 w → Sim c w → ∀ xs, w.μ[r]? = some (.lst xs) →
  (∀ (i : Nat) (x : Val), xs[i]? = some x → J.go i w.H ∧ ∀ y H', J.yld i w.H y H' → ∃ w', w'.H = H' ∧ w'.μ = w.μ ∧ Ext w w' ∧ Sim c w' ∧ RV c w' x y) ∧ ∀ i, xs.length ≤ i → J.stop i w.H
def WalkS (c : Ct) (J : It) (s : Src) (w0 : Wd) : Prop := match s with
  | .vals xs => WalkG c J xs w0
  | .live r => WalkL c J r w0
def TI' (c : Ct) (W : WX) (m : M Src) : TI := fun σ H R => ∃ w sl, w.H = H ∧ Sim c w ∧ RSl c w sl σ ∧ match m sl w.μ with
  | .ok s μ' => ∀ w', w'.μ = μ' → Ext w w' → Sim c w' → ∀ J, WalkS c J s w' → R J w'.H
  | .exc e μ' => ∀ w', w'.μ = μ' → Ext w w' → Sim c w' → ∀ cls d, RX c w' e cls d → W cls d σ w'.H
  | .stuck => False
theorem _root_.L2.PI.imp {X : Cx} {tg e : Expr} {t t' : TI} (h : PI X tg e t) (k : ∀ σ H Q, t' σ H Q → t σ H Q) : PI X tg e t' := ⟨fun pins s σ H R I hw => h.run pins s σ H R I (k σ H R hw)⟩
section
variable {c : Ct} {W : WX} {X : Cx} {pos : Pos} {tg : Expr}
/-- a list at hand is walked, by values -/
theorem iter_sqL {pins : List (Addr × Obj)} {σ : St} {H : Hp} {s1 : Shared} {R : It → Hp → Prop} {a : Addr} {ys : List V} (I1 : Inv X pins σ H s1) (hq : SqL X.K H a ys) (q : R (Itl X.K a) H) : wpAny (model X.prog X.w) X.A (pyIter (.ref a)) (PIE X pins σ tg R) X.xe s1 := by
  obtain ⟨us, _, pl, _⟩ := I1.list hq
  exact wpAny_pyIter_list pl.isList (pi_one (tk := s1.toks) I1 _ (turn_list a _) ⟨_, Heap.get?_push_size _ rfl, rfl, rfl⟩ q)
theorem iter_sqT {pins : List (Addr × Obj)} {σ : St} {H : Hp} {s1 : Shared} {R : It → Hp → Prop} {a : Addr} {ys : List V} (I1 : Inv X pins σ H s1) (hq : SqT X.K H a ys) (q : R (Itt X.K a) H) : wpAny (model X.prog X.w) X.A (pyIter (.ref a)) (PIE X pins σ tg R) X.xe s1 := by
  obtain ⟨us, _, pl, _⟩ := I1.tuple hq
  exact wpAny_pyIter_tuple (show s1.heap.IsTuple a us.toArray from pl) (pi_one (tk := s1.toks) I1 _ (turn_tuple a _) ⟨_, Heap.get?_push_size _ rfl, rfl, rfl⟩ q)
/-- an expression's value, walked: a list or a tuple -/
theorem pi_seq {l : Expr} {tl : TE} (hl : PE X l tl) : PI X tg l (fun σ H R => tl σ H fun x H1 => ∃ a ys, x = .ref a ∧ ((SqL X.K H1 a ys ∧ R (Itl X.K a) H1) ∨ (SqT X.K H1 a ys ∧ R (Itt X.K a) H1))) := by
  refine ⟨fun pins s σ H R I h => thn (hl.run pins s σ H _ I h) fun v s1 ⟨x, H1, I1, r1, a, ys, e, q⟩ => ?_⟩
  subst e
  obtain rfl : v = Value.ref a := r1
  rcases q with ⟨h1, q⟩ | ⟨h1, q⟩
  · exact iter_sqL I1 h1 q
  · exact iter_sqT I1 h1 q
def srcOf (μ : Mu) (v : Val) : Option Src := match v with
  | .lst xs => some (.vals xs)
  | .tup xs => some (.vals xs)
  | .rol xs => some (.vals xs)
  | .ref r => (match μ[r]? with | some (.lst _) => some (.live r) | _ => none)
  | _ => none
def iseq (m : M Val) : M Src := andThen m fun v => fun _ μ => match srcOf μ v with
  | some s => .ok s μ
  | none => .stuck
theorem walk_imm {w : Wd} {a : Addr} {xs : List Val} {ys : List V} (h : SqL c.K w.H a ys) (h' : ImL w a ys ∨ RoL c w a ys) (r : RVs c w xs ys) (s : Sim c w) : WalkG c (Itl c.K a) xs w := fun w1 e1 s1 => by
  have h1 : SqL c.K w1.H a ys := h'.elim (fun h => (e1.imL h).sq) fun h => (e1.roL s h).sq
  have r1 := RVs.extR s e1 _ _ r
  refine ⟨fun i x hx => ?_, ys, h1, by rw [r1.length]; exact Nat.le_refl _⟩
  obtain ⟨y, hy, ry⟩ := r1.get hx
  refine ⟨⟨ys, y, h1, hy⟩, fun z H' ⟨e2, e3⟩ => ?_⟩
  have := e3 ys h1
  rw [hy] at this
  cases this
  exact ⟨w1, e2.symm, rfl, Ext.refl _, s1, ry⟩
theorem walk_tupG {w : Wd} {a : Addr} {xs : List Val} {ys : List V} (h : SqT c.K w.H a ys) (r : RVs c w xs ys) (s : Sim c w) : WalkG c (Itt c.K a) xs w := fun w1 e1 s1 => by
  have h1 := e1.sqT s h
  have r1 := RVs.extR s e1 _ _ r
  refine ⟨fun i x hx => ?_, ys, h1, by rw [r1.length]; exact Nat.le_refl _⟩
  obtain ⟨y, hy, ry⟩ := r1.get hx
  refine ⟨⟨ys, y, h1, hy⟩, fun z H' ⟨e2, e3⟩ => ?_⟩
  have := e3 ys h1
  rw [hy] at this
  cases this
  exact ⟨w1, e2.symm, rfl, Ext.refl _, s1, ry⟩
theorem walk_live {w : Wd} {a : Addr} {r : Nat} (h : w.ρ[r]? = some a) : WalkL c (Itl c.K a) r w := fun w1 e1 s1 xs hx => by
  have ha := e1.pre_get h
  obtain ⟨ys, h1, r1⟩ := s1.ob r a _ ha hx
  have h1 : SqL c.K w1.H a ys := SqL.of h1
  refine ⟨fun i x hx => ?_, fun i hi => ⟨ys, h1, by rw [← r1.length]; exact hi⟩⟩
  obtain ⟨y, hy, ry⟩ := r1.get hx
  refine ⟨⟨ys, y, h1, hy⟩, fun z H' ⟨e2, e3⟩ => ?_⟩
  have := e3 ys h1
  rw [hy] at this
  cases this
  exact ⟨w1, e2.symm, rfl, Ext.refl _, s1, ry⟩
theorem gi_seq {l : Expr} {ml : M Val} (hK : X.K = c.K) (hl : PE X l (TE' c W ml)) : PI X tg l (TI' c W (iseq ml)) := by
  refine (pi_seq hl).imp fun σ H R ⟨w, sl, e, s, rs, h⟩ => ?_
  subst e
  refine ⟨w, sl, rfl, s, rs, ?_⟩
  unfold iseq andThen at h
  cases q : ml sl w.μ with
  | ok v μ' =>
    rw [q] at h
    intro w' hμ ext sim x rx
    subst hμ
    rw [hK]
    cases v with
    | lst xs =>
      obtain ⟨a, ys, e1, e2, e3⟩ := rx
      exact ⟨a, ys, e1, .inl ⟨e2.sq, h w' rfl ext sim _ (walk_imm e2.sq (.inl e2) e3 sim)⟩⟩
    | rol xs =>
      obtain ⟨a, ys, e1, e2, e3⟩ := rx
      exact ⟨a, ys, e1, .inl ⟨e2.sq, h w' rfl ext sim _ (walk_imm e2.sq (.inr e2) e3 sim)⟩⟩
    | tup xs =>
      obtain ⟨a, ys, e1, e2, e3⟩ := rx
      exact ⟨a, ys, e1, .inr ⟨e2, h w' rfl ext sim _ (walk_tupG e2 e3 sim)⟩⟩
    | ref r =>
      obtain ⟨a, e1, e2⟩ := rx
      simp only [srcOf] at h
      cases q2 : w'.μ[r]? with
      | none => rw [q2] at h; exact h.elim
      | some o =>
        rw [q2] at h
        cases o with
        | lst xs =>
          obtain ⟨ys, f1, f2⟩ := sim.ob r a _ e2 q2
          exact ⟨a, ys, e1, .inl ⟨SqL.of f1, h w' rfl ext sim _ (walk_live e2)⟩⟩
        | dct _ _ => exact h.elim
    | _ => exact h.elim
  | exc x μ' => rw [q] at h; exact h
  | stuck => rw [q] at h; exact h
/-- range -/
def rgVals (a b : Int) : List Val := (List.range (b - a).toNat).map fun i => Val.int (a + (i : Nat))
def small62 (i : Int) : Bool := decide (-(2 ^ 62) ≤ i) && decide (i < 2 ^ 62)
def irng1 (m : M (List Val)) : M Src := andThen m fun vs => fun _ μ => match vs with
  | [.int j] => if small62 j then .ok (.vals (rgVals 0 j)) μ else .stuck
  | _ => .stuck
def irng2 (m : M (List Val)) : M Src := andThen m fun vs => fun _ μ => match vs with
  | [.int i, .int j] => if small62 i && small62 j then .ok (.vals (rgVals i j)) μ else .stuck
  | _ => .stuck
theorem small62_iff {i : Int} (h : small62 i = true) : -(2 ^ 62) ≤ i ∧ i < 2 ^ 62 := by
  unfold small62 at h
  obtain ⟨h1, h2⟩ := Bool.and_eq_true_iff.mp h
  exact ⟨of_decide_eq_true h1, of_decide_eq_true h2⟩
theorem rgVals_get {a b : Int} {i : Nat} {x : Val} (h : (rgVals a b)[i]? = some x) : i < (b - a).toNat ∧ x = .int (a + (i : Nat)) := by
  unfold rgVals at h
  rw [List.getElem?_map] at h
  cases q : (List.range (b - a).toNat)[i]? with
  | none => rw [q] at h; cases h
  | some j =>
    rw [q] at h
    obtain ⟨h1, h2⟩ := List.getElem?_eq_some_iff.mp q
    rw [List.length_range] at h1
    rw [List.getElem_range] at h2
    subst h2
    exact ⟨h1, (Option.some.inj h).symm⟩
theorem rgVals_len {a b : Int} : (rgVals a b).length = (b - a).toNat := by unfold rgVals; simp
theorem walk_rg {w : Wd} {a b : Int} : WalkG c (Itr a (b - a).toNat) (rgVals a b) w := fun w1 e1 s1 => by
  refine ⟨fun i x hx => ?_, by rw [rgVals_len]; exact Nat.le_refl _⟩
  obtain ⟨h1, h2⟩ := rgVals_get hx
  refine ⟨h1, fun y H' ⟨e2, e3⟩ => ⟨w1, e2.symm, rfl, Ext.refl _, s1, ?_⟩⟩
  subst h2
  exact e3
theorem ti_then {w : Wd} {sl : Sl} {σ : St} {f : List Val → M Src} {m : M (List Val)} {R : It → Hp → Prop} {K : List V → Hp → Prop}
    (hs : Sim c w) (hsl : RSl c w sl σ)
    (h : match andThen m f sl w.μ with
      | .ok s μ' => ∀ w', w'.μ = μ' → Ext w w' → Sim c w' → ∀ J, WalkS c J s w' → R J w'.H
      | .exc e μ' => ∀ w', w'.μ = μ' → Ext w w' → Sim c w' → ∀ cls d, RX c w' e cls d → W cls d σ w'.H
      | .stuck => False)
    (k : ∀ v w', Ext w w' → Sim c w' → (match f v sl w'.μ with
      | .ok s μ' => ∀ w'', w''.μ = μ' → Ext w w'' → Sim c w'' → ∀ J, WalkS c J s w'' → R J w''.H
      | .exc e μ' => ∀ w'', w''.μ = μ' → Ext w w'' → Sim c w'' → ∀ cls d, RX c w'' e cls d → W cls d σ w''.H
      | .stuck => False) → ∀ x, RVs c w' v x → K x w'.H) : TA' c W m σ w.H K := by
  refine ⟨w, sl, rfl, hs, hsl, ?_⟩
  unfold andThen at h
  cases q : m sl w.μ with
  | ok v μ' =>
    rw [q] at h
    intro w' hμ ext sim x rx
    subst hμ
    exact k v w' ext sim h x rx
  | exc x μ' =>
    rw [q] at h
    exact h
  | stuck => rw [q] at h; exact h
theorem gi_rng1 {a : Expr} {ma : M (List Val)} {p : Pos} (hm : X.mg "range" = none) (ha : PA X [a] (TA' c W ma)) (hg : Gl X "range" := by rfl) (hs : starEach [a] X.env = [(false, eval a X.env)] := by rfl) : PI X tg (.Call (.Name "range" p) [a] [] pos) (TI' c W (irng1 ma)) := by
  refine (pi_range1 hg hm ha hs).imp fun σ H R ⟨w, sl, e, s, rs, h⟩ => ?_
  subst e
  refine ti_then s rs h fun vs w1 e1 s1 h1 xs rx => ?_
  split at h1
  · rename_i s' μ' q
    split at q
    · rename_i j
      obtain ⟨x, ex, rx⟩ := rx.one
      split at q
      · rename_i hj
        cases q
        obtain ⟨b1, b2⟩ := small62_iff hj
        refine ⟨j, by rw [ex, show x = V.int j from rx], b1, b2, ?_⟩
        have := h1 w1 rfl e1 s1 (Itr 0 (j - 0).toNat) walk_rg
        rwa [Int.sub_zero] at this
      · cases q
    · cases q
  · rename_i q
    split at q
    · split at q <;> cases q
    · cases q
  · exact h1.elim
theorem gi_rng2 {a b : Expr} {ma : M (List Val)} {p : Pos} (hm : X.mg "range" = none) (ha : PA X [a, b] (TA' c W ma)) (hg : Gl X "range" := by rfl) (hs : starEach [a, b] X.env = [(false, eval a X.env), (false, eval b X.env)] := by rfl) (hs2 : starEach [b] X.env = [(false, eval b X.env)] := by rfl) : PI X tg (.Call (.Name "range" p) [a, b] [] pos) (TI' c W (irng2 ma)) := by
  refine (pi_range2 hg hm ha hs hs2).imp fun σ H R ⟨w, sl, e, s, rs, h⟩ => ?_
  subst e
  refine ti_then s rs h fun vs w1 e1 s1 h1 xs rx => ?_
  split at h1
  · rename_i s' μ' q
    split at q
    · rename_i i j
      obtain ⟨x, y, ex, rx, ry⟩ := rx.two
      split at q
      · rename_i hj
        cases q
        obtain ⟨hi, hj⟩ := Bool.and_eq_true_iff.mp hj
        obtain ⟨b1, b2⟩ := small62_iff hi
        obtain ⟨b3, b4⟩ := small62_iff hj
        exact ⟨i, j, by rw [ex, show x = V.int i from rx, show y = V.int j from ry], ⟨b1, b2, b3, b4⟩, h1 w1 rfl e1 s1 (Itr i (j - i).toNat) walk_rg⟩
      · cases q
    · cases q
  · rename_i q
    split at q
    · split at q <;> cases q
    · cases q
  · exact h1.elim

/-! ### statements -/
def sskip : B := fun sl μ => .nx sl μ
def sbrk : B := fun sl μ => .bk sl μ
def scnt : B := fun sl μ => .ct sl μ
def sseq (a b : B) : B := fun sl μ => match a sl μ with
  | .nx sl' μ' => b sl' μ'
  | r => r
/-- an expression, then the rest -/
def sthen {α : Type} (m : M α) (f : α → B) : B := fun sl μ => match m sl μ with
  | .ok v μ' => f v sl μ'
  | .exc e μ' => .exc e sl μ'
  | .stuck => .stuck
def sret (m : M Val) : B := sthen m fun v => fun _ μ => .rt v μ
def sretN : B := fun _ μ => .rt .non μ
def sdrop (m : M Val) : B := sthen m fun _ => fun sl μ => .nx sl μ
def sif (t : M Bool) (a b : B) : B := sthen t fun k => if k then a else b
def sasg (m : M Val) (t : Tgt) : B := sthen m fun v => fun sl μ => match bindT t v sl μ with
  | some sl' => .nx sl' μ
  | none => .stuck
def spar (m : M (List Val)) (i j : Nat) : B := sthen m fun vs => fun sl μ => match vs with
  | [v, u] => .nx ((sl.set i (some v)).set j (some u)) μ
  | _ => .stuck
theorem PostS.nx_here {w : Wd} {sl : Sl} {σ : St} {D : Ends} (h : PostS c w (.nx sl w.μ) D W) (s : Sim c w) (r : RSl c w sl σ) : D.nx σ w.H := h w rfl (Ext.refl w) s σ r
theorem gs_nil : PSs X [] (TS' c W sskip) := pss_nil.imp fun D σ H ⟨w, sl, e, s, rs, h⟩ => by subst e; exact h.nx_here s rs
theorem gs_cons {st : Stmt} {rest : List Stmt} {a b : B} (h1 : PS X st (TS' c W a)) (h2 : PSs X rest (TS' c W b)) : PSs X (st :: rest) (TS' c W (sseq a b)) := by
  refine (pss_cons h1 h2).imp fun D σ H ⟨w, sl, e, s, rs, h⟩ => ⟨w, sl, e, s, rs, ?_⟩
  unfold sseq at h
  cases q : a sl w.μ with
  | nx sl' μ' =>
    rw [q] at h
    intro w' hμ ext sim σ' rs'
    subst hμ
    exact ⟨w', sl', rfl, sim, rs', h.ext ext⟩
  | rt v μ' => rw [q] at h; exact h
  | bk v μ' => rw [q] at h; exact h
  | ct v μ' => rw [q] at h; exact h
  | exc x v μ' => rw [q] at h; exact h
  | stuck => rw [q] at h; exact h
theorem gs_one {st : Stmt} {a : B} (h1 : PS X st (TS' c W a)) : PSs X [st] (TS' c W a) := pss_one h1
theorem gs_pass : PS X (.Pass pos) (TS' c W sskip) := ps_pass.imp fun D σ H ⟨w, sl, e, s, rs, h⟩ => by subst e; exact h.nx_here s rs
theorem gs_break : PS X (.Break pos) (TS' c W sbrk) := ps_break.imp fun D σ H ⟨w, sl, e, s, rs, h⟩ => by subst e; exact h w rfl (Ext.refl w) s σ rs
theorem gs_cont : PS X (.Continue pos) (TS' c W scnt) := ps_continue.imp fun D σ H ⟨w, sl, e, s, rs, h⟩ => by subst e; exact h w rfl (Ext.refl w) s σ rs
theorem gs_doc {x j pos'} : PS X (.Expr (.Constant (.str x) j pos) pos') (TS' c W sskip) := ps_doc.imp fun D σ H ⟨w, sl, e, s, rs, h⟩ => by subst e; exact h.nx_here s rs
/-- from an expression to the rest of a statement -/
theorem ts_then {w : Wd} {sl : Sl} {σ : St} {f : Val → B} {m : M Val} {D : Ends} {K : VK} (hs : Sim c w) (hsl : RSl c w sl σ) (h : PostS c w (sthen m f sl w.μ) D W)
    (k : ∀ v w', Ext w w' → Sim c w' → RSl c w' sl σ → PostS c w (f v sl w'.μ) D W → ∀ x, RV c w' v x → K x w'.H) : TE' c W m σ w.H K := by
  refine ⟨w, sl, rfl, hs, hsl, ?_⟩
  unfold sthen at h
  cases e : m sl w.μ with
  | ok v μ' =>
    rw [e] at h
    intro w' hμ ext sim x rx
    subst hμ
    exact k v w' ext sim (hsl.ext hs ext) h x rx
  | exc x μ' =>
    rw [e] at h
    exact fun w' hμ ext sim cls d r => h w' hμ ext sim σ cls d (hsl.ext hs ext) r
  | stuck => rw [e] at h; exact h
theorem tst_then {w : Wd} {sl : Sl} {σ : St} {f : Bool → B} {m : M Bool} {D : Ends} {K : Bool → Hp → Prop} (hs : Sim c w) (hsl : RSl c w sl σ) (h : PostS c w (sthen m f sl w.μ) D W)
    (k : ∀ v w', Ext w w' → Sim c w' → RSl c w' sl σ → PostS c w (f v sl w'.μ) D W → K v w'.H) : TT' c W m σ w.H K := by
  refine ⟨w, sl, rfl, hs, hsl, ?_⟩
  unfold sthen at h
  cases e : m sl w.μ with
  | ok v μ' =>
    rw [e] at h
    intro w' hμ ext sim
    subst hμ
    exact k v w' ext sim (hsl.ext hs ext) h
  | exc x μ' =>
    rw [e] at h
    exact fun w' hμ ext sim cls d r => h w' hμ ext sim σ cls d (hsl.ext hs ext) r
  | stuck => rw [e] at h; exact h
theorem tsa_then {w : Wd} {sl : Sl} {σ : St} {f : List Val → B} {m : M (List Val)} {D : Ends} {K : List V → Hp → Prop} (hs : Sim c w) (hsl : RSl c w sl σ) (h : PostS c w (sthen m f sl w.μ) D W)
    (k : ∀ v w', Ext w w' → Sim c w' → RSl c w' sl σ → PostS c w (f v sl w'.μ) D W → ∀ x, RVs c w' v x → K x w'.H) : TA' c W m σ w.H K := by
  refine ⟨w, sl, rfl, hs, hsl, ?_⟩
  unfold sthen at h
  cases e : m sl w.μ with
  | ok v μ' =>
    rw [e] at h
    intro w' hμ ext sim x rx
    subst hμ
    exact k v w' ext sim (hsl.ext hs ext) h x rx
  | exc x μ' =>
    rw [e] at h
    exact fun w' hμ ext sim cls d r => h w' hμ ext sim σ cls d (hsl.ext hs ext) r
  | stuck => rw [e] at h; exact h
theorem gs_ret {e : Expr} {m : M Val} (he : PE X e (TE' c W m)) : PS X (.Return (some e) pos) (TS' c W (sret m)) := by
  refine (ps_ret he).imp fun D σ H ⟨w, sl, e, s, rs, h⟩ => ?_
  subst e
  exact ts_then s rs h fun v w1 e1 s1 rs1 h1 x rx => h1 w1 rfl e1 s1 x rx
theorem gs_retN : PS X (.Return none pos) (TS' c W sretN) := ps_retN.imp fun D σ H ⟨w, sl, e, s, rs, h⟩ => by subst e; exact h w rfl (Ext.refl w) s .non rfl
theorem gs_expr {e : Expr} {m : M Val} (he : PE X e (TE' c W m)) (hs : swapsWith e none pos.line X.env = pure false := by rfl) : PS X (.Expr e pos) (TS' c W (sdrop m)) := by
  refine (ps_expr he hs).imp fun D σ H ⟨w, sl, e, s, rs, h⟩ => ?_
  subst e
  exact ts_then s rs h fun v w1 e1 s1 rs1 h1 x rx => h1 w1 rfl e1 s1 σ rs1
theorem gs_if {t : Expr} {a b : List Stmt} {mt : M Bool} {ba bb : B} (ht : PT X t (TT' c W mt)) (ha : PSs X a (TS' c W ba)) (hb : PSs X b (TS' c W bb)) : PS X (.If t a b pos) (TS' c W (sif mt ba bb)) := by
  refine (ps_if ht ha hb).imp fun D σ H ⟨w, sl, e, s, rs, h⟩ => ?_
  subst e
  refine tst_then s rs h fun v w1 e1 s1 rs1 h1 => ?_
  cases v with
  | true => exact iteT ⟨w1, sl, rfl, s1, rs1, h1.ext e1⟩
  | false => exact iteF ⟨w1, sl, rfl, s1, rs1, h1.ext e1⟩
theorem asg_fin {w w1 : Wd} {sl : Sl} {σ : St} {D : Ends} {t : Tgt} {v : Val} {x : V} (e1 : Ext w w1) (s1 : Sim c w1) (rs1 : RSl c w1 sl σ) (h1 : PostS c w (match bindT t v sl w1.μ with
  | some sl' => .nx sl' w1.μ
  | none => .stuck) D W) (rx : RV c w1 v x) : TG' c t x σ w1.H D.nx := by
  cases q : bindT t v sl w1.μ with
  | none => rw [q] at h1; exact h1.elim
  | some sl' =>
    rw [q] at h1
    exact ⟨w1, sl, v, rfl, s1, rs1, rx, sl', q, fun σ' r' _ => h1 w1 rfl e1 s1 σ' r'⟩
theorem gs_asg {tg e : Expr} {m : M Val} {t : Tgt} (he : PE X e (TE' c W m)) (hg : PG X tg (TG' c t)) (hs : swapsWithSole [tg] e pos.line X.env = pure false := by rfl) (hw : swappedStores [tg] e X.env = pure none := by rfl)
    (h1 : (assignEach [tg] X.env).map (·.2) = [assign tg X.env] := by rfl) : PS X (.Assign [tg] e pos) (TS' c W (sasg m t)) := by
  refine (ps_asg he hg hs hw h1).imp fun D σ H ⟨w, sl, e, s, rs, h⟩ => ?_
  subst e
  exact ts_then s rs h fun v w1 e1 s1 rs1 h1 x rx => asg_fin e1 s1 rs1 h1 rx
/-- name = e -/
theorem gs_set {i : Nat} {x : Str} {e : Expr} {m : M Val} {pos' : Pos} (hN : X.N.Nodup) (hi : X.N[i]? = some x) (hx : Loc X.env.scope x) (he : PE X e (TE' c W m)) (hs : swapsWith e (some (.Name x pos')) pos.line X.env = pure false := by rfl) (hf : X.fn x = true ∨ X.env.scope.names.lookup x = some .local := by first | exact .inl rfl | exact .inr rfl | assumption) :
    PS X (.Assign [.Name x pos'] e pos) (TS' c W (sasg m (.nm i))) := by
  refine (ps_set hN hi hx he hs hf).imp fun D σ H ⟨w, sl, e, s, rs, h⟩ => ?_
  subst e
  refine ts_then s rs h fun v w1 e1 s1 rs1 h1 x rx => ?_
  exact h1 w1 rfl e1 s1 _ (rs1.set rx i)
/-- a, b = x, y -/
theorem gs_par {i j : Nat} {x y : Str} {a b : Expr} {m : M (List Val)} {px py pt : Pos} {kt k2 pt2} (hc : X.calm = true) (hN : X.N.Nodup) (hi : X.N[i]? = some x) (hj : X.N[j]? = some y) (hij : i ≠ j)
    (hx : X.env.scope.names.lookup x = some .local) (hy : X.env.scope.names.lookup y = some .local) (ha : PA X [a, b] (TA' c W m))
    (hw : swappedStores [.Tuple [.Name x px, .Name y py] kt pt] (.Tuple [a, b] k2 pt2) X.env = pure (some [x, y]))
    (hs : swapsWithSole [.Tuple [.Name x px, .Name y py] kt pt] (.Tuple [a, b] k2 pt2) pos.line X.env = pure false := by rfl) :
    PS X (.Assign [.Tuple [.Name x px, .Name y py] kt pt] (.Tuple [a, b] k2 pt2) pos) (TS' c W (spar m i j)) := by
  refine (ps_par hc hN hi hj hij hx hy ha hw hs).imp fun D σ H ⟨w, sl, e, s, rs, h⟩ => ?_
  subst e
  refine tsa_then s rs h fun vs w1 e1 s1 rs1 h1 xs rx => ?_
  split at h1
  · rename_i v u
    obtain ⟨p, q, ex, r1, r2⟩ := rx.two
    exact ⟨p, q, ex, h1 w1 rfl e1 s1 _ ((rs1.set r1 i).set r2 j)⟩
  · exact h1.elim
end
end G

/-! G7: loops, comprehensions. -/
namespace G
open PySem PySem.Spec PyProof.Rows L2

/-- a for over items that stand -/
def forL (t : Tgt) (body : B) : List Val → B
  | [], sl, μ => .nx sl μ
  | x :: xs, sl, μ => match bindT t x sl μ with
    | none => .stuck
    | some sl' => match body sl' μ with
      | .nx sl2 μ2 => forL t body xs sl2 μ2
      | .ct sl2 μ2 => forL t body xs sl2 μ2
      | .bk sl2 μ2 => .nx sl2 μ2
      | r => r
/-- a for over a list that the body may change; fuel bounds the turns -/
def forR (t : Tgt) (body : B) (r : Nat) : Nat → Nat → B
  | 0, _, _, _ => .stuck
  | n + 1, i, sl, μ => match μ[r]? with
    | some (.lst xs) => (match xs[i]? with
      | none => .nx sl μ
      | some x => match bindT t x sl μ with
        | none => .stuck
        | some sl' => match body sl' μ with
          | .nx sl2 μ2 => forR t body r n (i + 1) sl2 μ2
          | .ct sl2 μ2 => forR t body r n (i + 1) sl2 μ2
          | .bk sl2 μ2 => .nx sl2 μ2
          | f => f)
    | _ => .stuck
def FUEL : Nat := 1000000000000
def sfor (src : M Src) (t : Tgt) (body : B) : B := sthen src fun s => match s with
  | .vals xs => forL t body xs
  | .live r => forR t body r FUEL 0
def swhile (c : M Bool) (body : B) : Nat → B
  | 0, _, _ => .stuck
  | n + 1, sl, μ => match c sl μ with
    | .ok true μ1 => (match body sl μ1 with
      | .nx sl2 μ2 => swhile c body n sl2 μ2
      | .ct sl2 μ2 => swhile c body n sl2 μ2
      | .bk sl2 μ2 => .nx sl2 μ2
      | f => f)
    | .ok false μ1 => .nx sl μ1
    | .exc e μ1 => .exc e sl μ1
    | .stuck => .stuck
section
variable {c : Ct} {W : WX} {X : Cx} {pos : Pos}
/-- the ends of a turn -/
theorem turn_post {w : Wd} {f : Flow} {k : B} {D : Ends} {N : St → Hp → Prop}
    (h : PostS c w (match f with
      | .nx sl2 μ2 => k sl2 μ2
      | .ct sl2 μ2 => k sl2 μ2
      | .bk sl2 μ2 => .nx sl2 μ2
      | r => r) D W)
    (hN : ∀ w' sl σ, Ext w w' → Sim c w' → RSl c w' sl σ → PostS c w (k sl w'.μ) D W → N σ w'.H) : PostS c w f { D with nx := N, ct := N, bk := D.nx } W := by
  cases f with
  | nx sl μ => exact fun w' hμ ext sim σ rs => hN w' sl σ ext sim rs (by rw [hμ]; exact h)
  | ct sl μ => exact fun w' hμ ext sim σ rs => hN w' sl σ ext sim rs (by rw [hμ]; exact h)
  | bk sl μ => exact h
  | rt v μ => exact h
  | exc e sl μ => exact h
  | stuck => exact h
theorem gs_for {tg iter : Expr} {body : List Stmt} {src : M Src} {t : Tgt} {b : B} (hp : PassesOwn (model X.prog X.w) X.A X.env X.xe) (hc : X.calm = true) (hi : PI X tg iter (TI' c W src)) (hg : PG X tg (TG' c t)) (hb : PSs X body (TS' c W b))
    (hs : ∀ x, foldedSetIterable iter X.env x = pure x := by intro _; rfl) : PS X (.For tg iter body [] pos) (TS' c W (sfor src t b)) := by
  refine (ps_for hp hc hi hg hb hs).imp fun D σ H ⟨w, sl, e, s, rs, h⟩ => ?_
  subst e
  refine ⟨w, sl, rfl, s, rs, ?_⟩
  unfold sfor sthen at h
  cases q : src sl w.μ with
  | stuck => rw [q] at h; exact h
  | exc x μ' =>
    rw [q] at h
    exact fun w' hμ ext sim cls d r => h w' hμ ext sim σ cls d (rs.ext s ext) r
  | ok sr μ' =>
    rw [q] at h
    intro w0 hμ ext0 sim0 J hJ
    subst hμ
    cases sr with
    | vals xs =>
      have hJ : WalkG c J xs w0 := hJ
      have h : PostS c w (forL t b xs sl w0.μ) D W := h
      refine ⟨fun i m σ H => m = xs.length - i ∧ i ≤ xs.length ∧ ∃ w1 sl1, w1.H = H ∧ Ext w0 w1 ∧ Sim c w1 ∧ RSl c w1 sl1 σ ∧ PostS c w1 (forL t b (xs.drop i) sl1 w1.μ) D W, ⟨xs.length, by simp, Nat.zero_le _, w0, sl, rfl, Ext.refl _, sim0, rs.ext s ext0, by simpa using h.ext ext0⟩, ?_⟩
      rintro i m σ1 H1 ⟨rfl, hi', w1, sl1, rfl, e1, s1, rs1, h1⟩
      obtain ⟨go, st⟩ := hJ w1 e1.r s1
      by_cases hlt : i < xs.length
      · obtain ⟨g1, g2⟩ := go i xs[i] (List.getElem?_eq_getElem hlt)
        refine .inr ⟨g1, fun σ' H' => ∃ w2 sl2, w2.H = H' ∧ Ext w0 w2 ∧ Sim c w2 ∧ RSl c w2 sl2 σ' ∧ PostS c w2 (forL t b (xs.drop (i + 1)) sl2 w2.μ) D W, fun σ' H' h => ⟨xs.length - (i + 1), by omega, rfl, hlt, h⟩, fun y H' hy => ?_⟩
        obtain ⟨w2, rfl, hμ2, e2, s2, r2⟩ := g2 y H' hy
        rw [List.drop_eq_getElem_cons hlt] at h1
        simp only [forL] at h1
        cases qb : bindT t xs[i] sl1 w1.μ with
        | none => rw [qb] at h1; exact h1.elim
        | some sl' =>
          rw [qb] at h1
          refine ⟨w2, sl1, xs[i], rfl, s2, rs1.ext s1 e2, r2, sl', by rw [hμ2]; exact qb, fun σ2 rs2 _ => ⟨w2, sl', rfl, s2, rs2, ?_⟩⟩
          rw [hμ2]
          exact turn_post (h1.ext e2) fun w3 sl3 σ3 e3 s3 rs3 p3 => ⟨w3, sl3, rfl, e1.trans (e2.trans e3), s3, rs3, p3.ext e3⟩
      · have e : i = xs.length := by omega
        subst e
        rw [List.drop_length] at h1
        exact .inl ⟨st, h1.nx_here s1 rs1⟩
    | live r =>
      have hJ : WalkL c J r w0 := hJ
      have h : PostS c w (forR t b r FUEL 0 sl w0.μ) D W := h
      refine ⟨fun i m σ H => ∃ w1 sl1, w1.H = H ∧ Ext w0 w1 ∧ Sim c w1 ∧ RSl c w1 sl1 σ ∧ PostS c w1 (forR t b r m i sl1 w1.μ) D W, ⟨FUEL, w0, sl, rfl, Ext.refl _, sim0, rs.ext s ext0, h.ext ext0⟩, ?_⟩
      rintro i m σ1 H1 ⟨w1, sl1, rfl, e1, s1, rs1, h1⟩
      cases m with
      | zero => exact h1.elim
      | succ m =>
        simp only [forR] at h1
        cases qr : w1.μ[r]? with
        | none => rw [qr] at h1; exact h1.elim
        | some o =>
          rw [qr] at h1
          cases o with
          | dct _ _ => exact h1.elim
          | lst xs =>
            obtain ⟨go, st⟩ := hJ w1 e1.r s1 xs qr
            dsimp only at h1
            cases qi : xs[i]? with
            | none =>
              rw [qi] at h1
              exact .inl ⟨st i (List.getElem?_eq_none_iff.mp qi), h1.nx_here s1 rs1⟩
            | some x =>
              rw [qi] at h1
              dsimp only at h1
              obtain ⟨g1, g2⟩ := go i x qi
              refine .inr ⟨g1, fun σ' H' => ∃ w2 sl2, w2.H = H' ∧ Ext w0 w2 ∧ Sim c w2 ∧ RSl c w2 sl2 σ' ∧ PostS c w2 (forR t b r m (i + 1) sl2 w2.μ) D W, fun σ' H' h => ⟨m, by omega, h⟩, fun y H' hy => ?_⟩
              obtain ⟨w2, rfl, hμ2, e2, s2, r2⟩ := g2 y H' hy
              cases qb : bindT t x sl1 w1.μ with
              | none => rw [qb] at h1; exact h1.elim
              | some sl' =>
                rw [qb] at h1
                refine ⟨w2, sl1, x, rfl, s2, rs1.ext s1 e2, r2, sl', by rw [hμ2]; exact qb, fun σ2 rs2 _ => ⟨w2, sl', rfl, s2, rs2, ?_⟩⟩
                rw [hμ2]
                exact turn_post (h1.ext e2) fun w3 sl3 σ3 e3 s3 rs3 p3 => ⟨w3, sl3, rfl, e1.trans (e2.trans e3), s3, rs3, p3.ext e3⟩
theorem gs_while {t : Expr} {body : List Stmt} {mt : M Bool} {b : B} (n : Nat) (hp : PassesOwn (model X.prog X.w) X.A X.env X.xe) (ht : PT X t (TT' c W mt)) (hb : PSs X body (TS' c W b)) : PS X (.While t body [] pos) (TS' c W (swhile mt b n)) := by
  refine (ps_while hp ht hb).imp fun D σ H ⟨w, sl, e, s, rs, h⟩ => ?_
  subst e
  refine ⟨fun m σ H => ∃ w1 sl1, w1.H = H ∧ Sim c w1 ∧ RSl c w1 sl1 σ ∧ PostS c w1 (swhile mt b m sl1 w1.μ) D W, ⟨n, w, sl, rfl, s, rs, h⟩, ?_⟩
  rintro m σ1 H1 ⟨w1, sl1, rfl, s1, rs1, h1⟩
  cases m with
  | zero => exact h1.elim
  | succ m =>
    refine ⟨w1, sl1, rfl, s1, rs1, ?_⟩
    simp only [swhile] at h1
    cases q : mt sl1 w1.μ with
    | stuck => rw [q] at h1; exact h1
    | exc x μ' =>
      rw [q] at h1
      exact fun w' hμ ext sim cls d r => h1 w' hμ ext sim σ1 cls d (rs1.ext s1 ext) r
    | ok k μ' =>
      rw [q] at h1
      intro w2 hμ e2 s2
      subst hμ
      cases k with
      | false =>
        refine iteF ?_
        exact h1 w2 rfl e2 s2 σ1 (rs1.ext s1 e2)
      | true =>
        refine iteT ⟨fun σ' H' => ∃ w3 sl3, w3.H = H' ∧ Sim c w3 ∧ RSl c w3 sl3 σ' ∧ PostS c w3 (swhile mt b m sl3 w3.μ) D W, fun σ' H' h => ⟨m, by omega, h⟩, w2, sl1, rfl, s2, rs1.ext s1 e2, ?_⟩
        exact turn_post (PostS.ext h1 e2) fun w3 sl3 σ3 e3 s3 rs3 p3 => ⟨w3, sl3, rfl, s3, rs3, p3.ext e3⟩

end

/-! ### worlds that agree but at one place -/
section
variable {c : Ct} {w w2 : Wd} {D : Addr}
/-- a list, a dict -/
def LD (o : HO) : Prop := (∃ xs, o = .lst xs) ∨ (∃ kvs, o = .dK kvs) ∨ ∃ kvs, o = .dT kvs
theorem LD.lst (xs : List V) : LD (.lst xs) := .inl ⟨xs, rfl⟩
structure Off (w w2 : Wd) (D : Addr) : Prop where
  H : ∀ a, a ≠ D → w2.H a = w.H a
  ρ : w2.ρ = w.ρ
  rs : ∀ a, a ∈ w2.rs → a ∈ w.rs ∨ a = D
  at_ : (D ∈ w.rs ∧ ∃ o, w.H D = some o ∧ LD o) ∨ w.H D = none
theorem Off.rd (f : Off w w2 D) {a : Addr} {o : HO} (h : Rd w.H a o) (n : a ≠ D) : Rd w2.H a o := by
  rcases h with h | ⟨q, h⟩
  · exact .inl ((f.H a n).trans h)
  · exact .inr ⟨q, (f.H a n).trans h⟩
theorem Off.sqT (f : Off w w2 D) {a : Addr} {ys : List V} (h : SqT c.K w.H a ys) : SqT c.K w2.H a ys := by
  rcases h with h | h
  · refine .inl (f.rd h fun e => ?_)
    subst e
    rcases f.at_ with ⟨_, o, q, l⟩ | q
    · rcases l with ⟨_, l⟩ | ⟨_, l⟩ | ⟨_, l⟩ <;> (subst l; rcases h with h | ⟨_, h⟩ <;> (rw [q] at h; cases h))
    · exact rd_none h q
  · exact .inr h
theorem Off.imL (f : Off w w2 D) {a : Addr} {ys : List V} (h : ImL w a ys) : ImL w2 a ys := by
  obtain ⟨h, n, r⟩ := h
  have ne : a ≠ D := fun e => by
    subst e
    rcases f.at_ with ⟨q, _⟩ | q
    · exact r q
    · rw [h] at q; cases q
  exact ⟨(f.H a ne).trans h, by rw [f.ρ]; exact n, fun hm => (f.rs a hm).elim r ne⟩
theorem Off.roL (f : Off w w2 D) {a : Addr} {ys : List V} (h : RoL c w a ys) : RoL c w2 a ys := by
  rcases h with ⟨o, h⟩ | h
  · refine .inl ⟨o, (f.H a fun e => ?_).trans h⟩
    subst e
    rcases f.at_ with ⟨_, o, q, l⟩ | q
    · rcases l with ⟨_, l⟩ | ⟨_, l⟩ | ⟨_, l⟩ <;> (subst l; rw [h] at q; cases q)
    · rw [h] at q; cases q
  · exact .inr h
theorem Off.imD (f : Off w w2 D) {a : Addr} {ks : List DKey} {ys : List V} (h : ImD c w a ks ys) : ImD c w2 a ks ys := by
  obtain ⟨h, n, r⟩ := h
  obtain ⟨o, ho⟩ := h.some
  have ne : a ≠ D := fun e => by
    subst e
    rcases f.at_ with ⟨q, _⟩ | q
    · exact r q
    · rw [ho] at q; cases q
  exact ⟨h.congr (f.H a ne), by rw [f.ρ]; exact n, fun hm => (f.rs a hm).elim r ne⟩
mutual
theorem RV.off (f : Off w w2 D) : ∀ (x : Val) (v : V), RV c w x v → RV c w2 x v
  | .non, _, h => h
  | .bl _, _, h => h
  | .int _, _, h => h
  | .str _, _, h => h
  | .tup xs, _, ⟨a, ys, e1, e2, e3⟩ => ⟨a, ys, e1, f.sqT e2, RVs.off f xs ys e3⟩
  | .lst xs, _, ⟨a, ys, e1, e2, e3⟩ => ⟨a, ys, e1, f.imL e2, RVs.off f xs ys e3⟩
  | .rol xs, _, ⟨a, ys, e1, e2, e3⟩ => ⟨a, ys, e1, f.roL e2, RVs.off f xs ys e3⟩
  | .ref n, _, ⟨a, e1, e2⟩ => ⟨a, e1, by rw [f.ρ]; exact e2⟩
  | .fn _, _, h => h
  | .ty _, _, h => h
  | .dct ks vs, _, ⟨a, ys, e1, e2, e3⟩ => ⟨a, ys, e1, f.imD e2, RVs.off f vs ys e3⟩
theorem RVs.off (f : Off w w2 D) : ∀ (xs : List Val) (ys : List V), RVs c w xs ys → RVs c w2 xs ys
  | [], _, h => h
  | x :: xs, _, ⟨y, r, e1, e2, e3⟩ => ⟨y, r, e1, RV.off f x y e2, RVs.off f xs r e3⟩
end
theorem RSl.off (f : Off w w2 D) : ∀ {sl : Sl} {σ : St}, RSl c w sl σ → RSl c w2 sl σ
  | [], _, h => h
  | none :: sl, _, ⟨y, r, e1, e2⟩ => ⟨y, r, e1, RSl.off f e2⟩
  | some x :: sl, _, ⟨y, r, e1, e2, e3⟩ => ⟨y, r, e1, RV.off f x y e2, RSl.off f e3⟩
theorem Sim.off (f : Off w w2 D) (s : Sim c w) (hμ : w2.μ = w.μ) (hD : D ∉ w.ρ) (h2 : D ∈ w2.rs → ∃ o, w2.H D = some o) : Sim c w2 := by
  refine ⟨by rw [f.ρ, hμ]; exact s.len, by rw [f.ρ]; exact s.nd, fun i a o h1 h3 => ?_, fun a ha => ?_⟩
  · rw [f.ρ] at h1
    rw [hμ] at h3
    have ne : a ≠ D := fun e => hD (e ▸ List.mem_of_getElem? h1)
    have ro := s.ob i a o h1 h3
    cases o with
    | lst xs => obtain ⟨ys, q, r⟩ := ro; exact ⟨ys, (f.H a ne).trans q, RVs.off f _ _ r⟩
    | dct ks vs => obtain ⟨ys, q, r⟩ := ro; exact ⟨ys, q.congr (f.H a ne), RVs.off f _ _ r⟩
  · rw [f.ρ]
    by_cases e : a = D
    · subst e; exact ⟨hD, h2 ha⟩
    · rcases f.rs a ha with h | h
      · obtain ⟨h1, xs, h3⟩ := s.rs a h
        exact ⟨h1, xs, (f.H a e).trans h3⟩
      · exact absurd h e
/-- the world without what stands at D -/
def Wd.but (w : Wd) (D : Addr) (rs : List Addr) : Wd := { w with H := fun a => if a = D then none else w.H a, rs := rs }
theorem but_ext {rs : List Addr} (e : Ext w w2) (h : w.H D ≠ none) (n : D ∉ w.ρ) : Ext (w.but D rs) (w2.but D rs) := by
  obtain ⟨δ, p, q⟩ := e.pre
  refine ⟨⟨δ, p, fun a ha => ?_⟩, rfl, fun a o h1 h2 => ?_, fun a h1 => ?_⟩
  · show (if a = D then none else w.H a) = none
    split
    · rfl
    · exact q a ha
  · have h1 : (if a = D then none else w.H a) = some o := h1
    show (if a = D then none else w2.H a) = some o
    split at h1
    · cases h1
    · rename_i ne
      rw [if_neg ne]
      exact e.keep a o h1 h2
  · have h1 : (if a = D then none else w.H a) ≠ none := h1
    show (if a = D then none else w2.H a) ≠ none
    split at h1
    · exact absurd rfl h1
    · rename_i ne
      rw [if_neg ne]
      exact e.there a h1
/-- D laid and kept for the one who fills it -/
def Wd.res (w : Wd) (D : Addr) (ys : List V) : Wd := { w with H := upd w.H D (.lst ys), rs := D :: w.rs }
theorem res_off (n : w.H D = none) (ys : List V) : Off w (w.res D ys) D := ⟨fun a h => upd_ne h, rfl, fun a h => (List.mem_cons.mp h).elim .inr .inl, .inr n⟩
/-- .. filled further -/
theorem fill_off {ys zs : List V} (h : w.H D = some (.lst ys)) (hr : D ∈ w.rs) : Off w { w with H := upd w.H D (.lst zs) } D := ⟨fun a h => upd_ne h, rfl, fun a h => .inl h, .inl ⟨hr, _, h, .lst ys⟩⟩
theorem but_off {rs : List Addr} {ys : List V} (h : w.H D = some (.lst ys)) (hr : w.rs = D :: rs) : Off w (w.but D rs) D := ⟨fun a h => if_neg h, rfl, fun a h => .inl (by rw [hr]; exact List.mem_cons_of_mem _ h), .inl ⟨by rw [hr]; exact List.mem_cons_self, _, h, .lst ys⟩⟩
end

/-! ### comprehensions -/
/-- nothing is raised within a comprehension -/
abbrev W0 : WX := fun _ _ _ _ => False
/-- one clause -/
def lcL (own : List Nat) (t : Tgt) (cond : M Bool) (elt : M Val) : List Val → M (List Val)
  | [], _, μ => .ok [] μ
  | x :: xs, sl, μ => match bindT t x (wipeS sl own) μ with
    | none => .stuck
    | some sl' => match cond sl' μ with
      | .ok false μ1 => lcL own t cond elt xs sl μ1
      | .ok true μ1 => (match elt sl' μ1 with
        | .ok v μ2 => (match lcL own t cond elt xs sl μ2 with
          | .ok vs μ3 => .ok (v :: vs) μ3
          | _ => .stuck)
        | _ => .stuck)
      | _ => .stuck
/-- .. over a list that may change -/
def lcR (own : List Nat) (t : Tgt) (cond : M Bool) (elt : M Val) (r : Nat) : Nat → Nat → M (List Val)
  | 0, _, _, _ => .stuck
  | n + 1, i, sl, μ => match μ[r]? with
    | some (.lst xs) => (match xs[i]? with
      | none => .ok [] μ
      | some x => match bindT t x (wipeS sl own) μ with
        | none => .stuck
        | some sl' => match cond sl' μ with
          | .ok false μ1 => lcR own t cond elt r n (i + 1) sl μ1
          | .ok true μ1 => (match elt sl' μ1 with
            | .ok v μ2 => (match lcR own t cond elt r n (i + 1) sl μ2 with
              | .ok vs μ3 => .ok (v :: vs) μ3
              | _ => .stuck)
            | _ => .stuck)
          | _ => .stuck)
    | _ => .stuck
def tyes : M Bool := fun _ μ => .ok true μ
/-- not too long -/
def short (r : Res (List Val)) : Res (List Val) := match r with
  | .ok vs μ => if vs.length ≤ LIM then .ok vs μ else .stuck
  | _ => .stuck
def mlc (src : M Src) (own : List Nat) (t : Tgt) (cond : M Bool) (elt : M Val) : M (List Val) := andThen src fun s => fun sl μ => match s with
  | .vals xs => short (lcL own t cond elt xs sl μ)
  | .live r => short (lcR own t cond elt r FUEL 0 sl μ)
/-- what has been made, ahead of what is made -/
def pre (acc : List Val) (r : Res (List Val)) : Res (List Val) := match r with
  | .ok vs μ => .ok (acc ++ vs) μ
  | _ => .stuck
theorem pre_nil {r : Res (List Val)} : short (pre [] r) = short r := by
  cases r <;> rfl
theorem pre_snoc {acc : List Val} {v : Val} {r : Res (List Val)} : pre acc (match r with
    | .ok vs μ => .ok (v :: vs) μ
    | _ => .stuck) = pre (acc ++ [v]) r := by
  cases r with
  | ok vs μ => simp [pre]
  | exc _ _ => rfl
  | stuck => rfl
section
variable {c : Ct} {W : WX} {X : Cx} {pos : Pos}
/-- where a comprehension stands: base world w0, its list at D, so far acc -/
structure LcAt (c : Ct) (w0 : Wd) (D : Addr) (acc : List Val) (w : Wd) : Prop where
  sim : Sim c w
  rs : w.rs = D :: w0.rs
  nr : D ∉ w0.rs
  nw : w0.H D = none
  ext : Ext w0 (w.but D w0.rs)
  at_ : ∃ ys, w.H D = some (.lst ys) ∧ RVs c w acc ys
theorem LcAt.start {w0 : Wd} {D : Addr} (s : Sim c w0) (n : w0.H D = none) : LcAt c w0 D [] (w0.res D []) := by
  have hD : D ∉ w0.ρ := fun h => s.ne_new n h rfl
  refine ⟨s.off (res_off n []) rfl hD fun _ => ⟨_, upd_same⟩, rfl, s.rs_new n, n, ?_, [], upd_same, rfl⟩
  have e : (w0.res D []).but D w0.rs = w0 := by
    show ({ ρ := w0.ρ, μ := w0.μ, H := fun a => if a = D then none else upd w0.H D (.lst []) a, rs := w0.rs } : Wd) = w0
    have : (fun a => if a = D then none else upd w0.H D (.lst []) a) = w0.H := by
      funext a
      by_cases h : a = D
      · rw [if_pos h, h, n]
      · rw [if_neg h, upd_ne h]
    rw [this]
  rw [e]
  exact Ext.refl _
theorem LcAt.notin {w0 : Wd} {D : Addr} {acc : List Val} {w : Wd} (l : LcAt c w0 D acc w) : D ∉ w.ρ := (l.sim.rs D (by rw [l.rs]; exact List.mem_cons_self)).1
theorem LcAt.go {w0 : Wd} {D : Addr} {acc : List Val} {w w2 : Wd} (l : LcAt c w0 D acc w) (e : Ext w w2) (s : Sim c w2) : LcAt c w0 D acc w2 := by
  obtain ⟨ys, h, r⟩ := l.at_
  exact ⟨s, e.rs.trans l.rs, l.nr, l.nw, l.ext.trans (but_ext e (by rw [h]; exact fun z => nomatch z) l.notin), ys, e.keep D _ h l.notin, RVs.ext l.sim e _ _ r⟩
theorem LcAt.push {w0 : Wd} {D : Addr} {acc : List Val} {w : Wd} {ys : List V} {v : Val} {y : V} (l : LcAt c w0 D acc w) (h : w.H D = some (.lst ys)) (r : RVs c w acc ys) (rv : RV c w v y) : LcAt c w0 D (acc ++ [v]) { w with H := upd w.H D (.lst (ys ++ [y])) } := by
  have hr : D ∈ w.rs := by rw [l.rs]; exact List.mem_cons_self
  have f : Off w { w with H := upd w.H D (.lst (ys ++ [y])) } D := fill_off h hr
  refine ⟨l.sim.off f rfl l.notin fun _ => ⟨_, upd_same⟩, l.rs, l.nr, l.nw, ?_, _, upd_same, (RVs.off f _ _ r).append ⟨y, [], rfl, RV.off f _ _ rv, rfl⟩⟩
  have e : ({ w with H := upd w.H D (.lst (ys ++ [y])) } : Wd).but D w0.rs = w.but D w0.rs := by
    show ({ ρ := w.ρ, μ := w.μ, H := fun a => if a = D then none else upd w.H D (.lst (ys ++ [y])) a, rs := w0.rs } : Wd) = { ρ := w.ρ, μ := w.μ, H := fun a => if a = D then none else w.H a, rs := w0.rs }
    have : (fun a => if a = D then none else upd w.H D (.lst (ys ++ [y])) a) = fun a => if a = D then none else w.H a := by
      funext a
      by_cases h : a = D
      · rw [if_pos h, if_pos h]
      · rw [if_neg h, if_neg h, upd_ne h]
    rw [this]
  rw [e]
  exact l.ext
theorem LcAt.r {w0 : Wd} {D : Addr} {acc : List Val} {w : Wd} (l : LcAt c w0 D acc w) : ExtR w0 w := by
  refine ⟨l.ext.pre, fun a h => ?_, fun a o h1 h2 => ?_⟩
  · rw [l.rs] at h
    rcases List.mem_cons.mp h with h | h
    · rw [h]; exact .inr l.nw
    · exact .inl h
  · have := l.ext.keep a o h1 h2
    have : (if a = D then none else w.H a) = some o := this
    split at this
    · cases this
    · exact this
/-- the end: what has been made is a new list -/
theorem LcAt.done {w w0 : Wd} {D : Addr} {acc : List Val} {w1 : Wd} {Q : VK} {E : XK} (l : LcAt c w0 D acc w1) (e0 : Ext w w0) (h : PostF c w (.ok acc w1.μ) Q E) : Q (.ref D) w1.H := by
  obtain ⟨ys, h1, r⟩ := l.at_
  have f : Off w1 (w1.but D w0.rs) D := but_off h1 l.rs
  have := h (w1.but D w0.rs) rfl (e0.trans l.ext) (l.sim.off f rfl l.notin fun hm => absurd hm l.nr) D ys (if_pos rfl) (RVs.off f _ _ r)
  have e : upd (w1.but D w0.rs).H D (.lst ys) = w1.H := by
    funext a
    by_cases h : a = D
    · rw [h, upd_same, h1]
    · rw [upd_ne h]; exact if_neg h
  rwa [e] at this
theorem wipe_get {σ : St} {i : Nat} : ∀ (vs : List Nat), (L2.wipe σ vs)[i]? = if i ∈ vs ∧ i < σ.length then some none else σ[i]?
  | [] => by simp [L2.wipe]
  | v :: vs => by
    have ih := wipe_get (σ := σ) (i := i) vs
    have hl := L2.wipe_length σ vs
    simp only [L2.wipe]
    by_cases e : v = i
    · subst e
      by_cases hv : v < σ.length
      · rw [List.getElem?_set_self (by rw [hl]; exact hv), if_pos ⟨List.mem_cons_self, hv⟩]
      · rw [List.getElem?_eq_none (by simp only [List.length_set, hl]; omega), if_neg fun z => hv z.2, List.getElem?_eq_none (by omega)]
    · rw [List.getElem?_set_ne e, ih]
      by_cases hi : i ∈ vs ∧ i < σ.length
      · rw [if_pos hi, if_pos ⟨List.mem_cons_of_mem _ hi.1, hi.2⟩]
      · rw [if_neg hi, if_neg fun z => hi ⟨(List.mem_cons.mp z.1).resolve_left (Ne.symm e), z.2⟩]
theorem wipe_off {σ σ2 : St} {vs is : List Nat} (h : OffS (L2.wipe σ vs) σ2 is) (hs : ∀ i ∈ is, i ∈ vs) : L2.wipe σ2 vs = L2.wipe σ vs := by
  have hl : σ2.length = σ.length := h.1.trans (L2.wipe_length σ vs)
  apply List.ext_getElem?
  intro i
  rw [wipe_get, wipe_get]
  by_cases hi : i ∈ vs ∧ i < σ.length
  · rw [if_pos hi, if_pos ⟨hi.1, by rw [hl]; exact hi.2⟩]
  · rw [if_neg hi, if_neg fun z => hi ⟨z.1, by rw [← hl]; exact z.2⟩]
    by_cases hv : i ∈ vs
    · have : ¬ i < σ.length := fun z => hi ⟨hv, z⟩
      rw [List.getElem?_eq_none (by omega), List.getElem?_eq_none (by omega)]
    · rw [h.2 i (fun z => hv (hs i z)), wipe_get, if_neg fun z => hv z.1]
theorem short_not {acc : List Val} {r : Res (List Val)} {w : Wd} {Q : VK} {E : XK} (h : PostF c w (short (pre acc r)) Q E) : ∃ vs μ, r = .ok vs μ ∧ (acc ++ vs).length ≤ LIM := by
  cases r with
  | ok vs μ =>
    refine ⟨vs, μ, rfl, ?_⟩
    simp only [pre, short] at h
    split at h
    · assumption
    · exact h.elim
  | exc _ _ => exact h.elim
  | stuck => exact h.elim
/-- one turn: the target, the test, the element, the rest k -/
theorem lc_turn {w w0 w1 : Wd} {D : Addr} {acc : List Val} {sl : Sl} {σ : St} {own : List Nat} {t : Tgt} {cond : M Bool} {elt : M Val} {k : Mu → Res (List Val)} {x : Val} {y : V} {Q : VK} {E : XK} {μ0 : Mu}
    (l : LcAt c w0 D acc w1) (rs : RSl c w1 sl σ) (hs : ∀ i ∈ t.slots, i ∈ own) (rx : RV c w1 x y) (hμ : w1.μ = μ0)
    (h : PostF c w (short (pre acc (match bindT t x (wipeS sl own) μ0 with
      | none => .stuck
      | some sl' => match cond sl' μ0 with
        | .ok false μ1 => k μ1
        | .ok true μ1 => (match elt sl' μ1 with
          | .ok v μ2 => (match k μ2 with
            | .ok vs μ3 => .ok (v :: vs) μ3
            | _ => .stuck)
          | _ => .stuck)
        | _ => .stuck))) Q E) :
    TG' c t y (L2.wipe σ own) w1.H fun σ2 H2 => L2.wipe σ2 own = L2.wipe σ own ∧ TT' c W0 cond σ2 H2 fun b H3 =>
      if b = true then TE' c W0 elt σ2 H3 fun z H4 => ∃ accV, H4 D = some (.lst accV) ∧ accV.length < sizeLine ∧ (∃ acc' w3, w3.H = upd H4 D (.lst (accV ++ [z])) ∧ LcAt c w0 D acc' w3 ∧ RSl c w3 sl σ ∧ PostF c w (short (pre acc' (k w3.μ))) Q E)
      else ∃ acc' w3, w3.H = H3 ∧ LcAt c w0 D acc' w3 ∧ RSl c w3 sl σ ∧ PostF c w (short (pre acc' (k w3.μ))) Q E := by
  subst hμ
  cases qb : bindT t x (wipeS sl own) w1.μ with
  | none => rw [qb] at h; exact h.elim
  | some sl' =>
    rw [qb] at h
    dsimp only at h
    refine ⟨w1, wipeS sl own, x, rfl, l.sim, rs.wipe own, rx, sl', qb, fun σ2 rs2 o2 => ⟨wipe_off o2 hs, w1, sl', rfl, l.sim, rs2, ?_⟩⟩
    cases qc : cond sl' w1.μ with
    | stuck => rw [qc] at h; exact h.elim
    | exc _ _ => rw [qc] at h; exact h.elim
    | ok b μ1 =>
      rw [qc] at h
      intro w2 hμ2 e2 s2
      subst hμ2
      have l2 := l.go e2 s2
      cases b with
      | false => exact iteF ⟨acc, w2, rfl, l2, rs.ext l.sim e2, h⟩
      | true =>
        refine iteT ⟨w2, sl', rfl, s2, rs2.ext l.sim e2, ?_⟩
        dsimp only at h
        cases qe : elt sl' w2.μ with
        | stuck => rw [qe] at h; exact h.elim
        | exc _ _ => rw [qe] at h; exact h.elim
        | ok v μ2 =>
          rw [qe] at h
          intro w4 hμ4 e4 s4 z rz
          subst hμ4
          have l4 := l2.go e4 s4
          obtain ⟨ys, h5, r5⟩ := l4.at_
          dsimp only at h
          rw [pre_snoc] at h
          obtain ⟨vs, μ3, e3, hl⟩ := short_not h
          have hlen : ys.length < sizeLine := by
            rw [← r5.length, ← LIM_eq]
            simp only [List.length_append, List.length_cons, List.length_nil] at hl
            omega
          refine ⟨ys, h5, hlen, acc ++ [v], _, rfl, l4.push h5 r5 rz, ?_, h⟩
          have f : Off w4 { w4 with H := upd w4.H D (.lst (ys ++ [z])) } D := fill_off h5 (by rw [l4.rs]; exact List.mem_cons_self)
          exact ((rs.ext l.sim e2).ext s2 e4).off f
theorem lc_reads {own : List Nat} {src : M Src} {t : Tgt} {mc : M Bool} {me : M Val} {σ : St} {H : Hp} {Q : VK} (h : TF' c W (mlc src own t mc me) σ H Q) (hsl : ∀ i ∈ t.slots, i ∈ own) :
    tLc (TI' c W src) (TG' c t) (TT' c W0 mc) (TE' c W0 me) own σ H Q := by
  obtain ⟨w, sl, e, s, rs, h⟩ := h
  subst e
  refine ⟨w, sl, rfl, s, rs, ?_⟩
  unfold mlc andThen at h
  cases q : src sl w.μ with
  | stuck => rw [q] at h; exact h
  | exc x μ' => rw [q] at h; exact h
  | ok sr μ' =>
    rw [q] at h
    intro w0 hμ ext0 sim0 J hJ D hD
    subst hμ
    have l0 := LcAt.start sim0 hD
    have rs0 : RSl c (w0.res D []) sl σ := (rs.ext s ext0).off (res_off hD [])
    cases sr with
    | vals xs =>
      have hJ : WalkG c J xs w0 := hJ
      have h : PostF c w (short (lcL own t mc me xs sl w0.μ)) Q (fun cls d H' => W cls d σ H') := h
      rw [← pre_nil] at h
      refine ⟨fun i m H => m = xs.length - i ∧ i ≤ xs.length ∧ ∃ acc w1, w1.H = H ∧ LcAt c w0 D acc w1 ∧ RSl c w1 sl σ ∧ PostF c w (short (pre acc (lcL own t mc me (xs.drop i) sl w1.μ))) Q (fun cls d H' => W cls d σ H'), ⟨xs.length, by simp, Nat.zero_le _, [], w0.res D [], rfl, l0, rs0, by rw [List.drop_zero]; exact h⟩, ?_⟩
      rintro i m H1 ⟨rfl, hi', acc, w1, rfl, l1, rs1, h1⟩
      obtain ⟨go, st⟩ := hJ w1 l1.r l1.sim
      by_cases hlt : i < xs.length
      · obtain ⟨g1, g2⟩ := go i xs[i] (List.getElem?_eq_getElem hlt)
        rw [List.drop_eq_getElem_cons hlt] at h1
        refine .inr ⟨g1, fun H' => ∃ acc w1, w1.H = H' ∧ LcAt c w0 D acc w1 ∧ RSl c w1 sl σ ∧ PostF c w (short (pre acc (lcL own t mc me (xs.drop (i + 1)) sl w1.μ))) Q (fun cls d H' => W cls d σ H'), fun H' h => ⟨xs.length - (i + 1), by omega, rfl, hlt, h⟩, fun y H' hy => ?_⟩
        obtain ⟨w2, rfl, hμ2, e2, s2, r2⟩ := g2 y H' hy
        exact lc_turn (l1.go e2 s2) (rs1.ext l1.sim e2) hsl r2 hμ2 h1
      · have e : i = xs.length := by omega
        subst e
        rw [List.drop_length] at h1
        obtain ⟨vs, μ3, e3, hl⟩ := short_not h1
        simp only [lcL, pre, List.append_nil, short] at h1
        split at h1
        · exact .inl ⟨st, l1.done ext0 h1⟩
        · exact h1.elim
    | live r =>
      have hJ : WalkL c J r w0 := hJ
      have h : PostF c w (short (lcR own t mc me r FUEL 0 sl w0.μ)) Q (fun cls d H' => W cls d σ H') := h
      rw [← pre_nil] at h
      refine ⟨fun i m H => ∃ acc w1, w1.H = H ∧ LcAt c w0 D acc w1 ∧ RSl c w1 sl σ ∧ PostF c w (short (pre acc (lcR own t mc me r m i sl w1.μ))) Q (fun cls d H' => W cls d σ H'), ⟨FUEL, [], w0.res D [], rfl, l0, rs0, h⟩, ?_⟩
      rintro i m H1 ⟨acc, w1, rfl, l1, rs1, h1⟩
      cases m with
      | zero => exact h1.elim
      | succ m =>
        simp only [lcR] at h1
        cases qr : w1.μ[r]? with
        | none => rw [qr] at h1; exact h1.elim
        | some o =>
          rw [qr] at h1
          cases o with
          | dct _ _ => exact h1.elim
          | lst xs =>
            obtain ⟨go, st⟩ := hJ w1 l1.r l1.sim xs qr
            dsimp only at h1
            cases qi : xs[i]? with
            | none =>
              rw [qi] at h1
              simp only [pre, List.append_nil, short] at h1
              split at h1
              · exact .inl ⟨st i (List.getElem?_eq_none_iff.mp qi), l1.done ext0 h1⟩
              · exact h1.elim
            | some x =>
              rw [qi] at h1
              dsimp only at h1
              obtain ⟨g1, g2⟩ := go i x qi
              refine .inr ⟨g1, fun H' => ∃ acc w1, w1.H = H' ∧ LcAt c w0 D acc w1 ∧ RSl c w1 sl σ ∧ PostF c w (short (pre acc (lcR own t mc me r m (i + 1) sl w1.μ))) Q (fun cls d H' => W cls d σ H'), fun H' h => ⟨m, by omega, h⟩, fun y H' hy => ?_⟩
              obtain ⟨w2, rfl, hμ2, e2, s2, r2⟩ := g2 y H' hy
              exact lc_turn (l1.go e2 s2) (rs1.ext l1.sim e2) hsl r2 hμ2 h1
theorem gf_lc {elt tg iter : Expr} {ifs : List Expr} {scope : Scope} {own : List (Str × Nat)} {src : M Src} {t : Tgt} {mc : M Bool} {me : M Val} (hc : X.calm = true) (hN : X.N.Nodup) (hi : PI X tg iter (TI' c W src)) (ok : BlkOk X.N X.env.scope scope own)
    (hg : ∀ (s : Shared) (H : Hp) (C : Addr) (cl : List (Str × Addr)) (fp : List Addr), PG (X.blk s H scope (compEnvC scope cl C X.env) fp) tg (TG' c t)) (ht : ∀ (s : Shared) (H : Hp) (C : Addr) (cl : List (Str × Addr)) (fp : List Addr), PTs (X.blk s H scope (compEnvC scope cl C X.env) fp) ifs (TT' c W0 mc))
    (he : ∀ (s : Shared) (H : Hp) (C : Addr) (cl : List (Str × Addr)) (fp : List Addr), PE (X.blk s H scope (compEnvC scope cl C X.env) fp) elt (TE' c W0 me)) (hsl : ∀ i ∈ t.slots, i ∈ own.map (·.2)) (hs : ∀ x, foldedSetIterable iter X.env x = pure x := by intro _; rfl) :
    PE X (.ListComp elt [⟨tg, iter, ifs, 0⟩] scope pos) (TF' c W (mlc src (own.map (·.2)) t mc me)) := by
  refine (pe_lc hc hN hi ok hg ht he hs).imp fun σ H Q h => lc_reads h hsl
end
end G

/-! G8: defs, their calls. -/
namespace G
open PySem PySem.Spec PyProof.Rows L2

/-! ### the part of the heap that a call sees -/
mutual
/-- one more than the greatest reference -/
def up : Val → Nat
  | .tup xs => ups xs
  | .lst xs => ups xs
  | .rol xs => ups xs
  | .ref n => n + 1
  | .dct _ vs => ups vs
  | _ => 0
def ups : List Val → Nat
  | [] => 0
  | x :: xs => max (up x) (ups xs)
end
mutual
/-- all references below k -/
def cl (k : Nat) : Val → Bool
  | .tup xs => cls k xs
  | .lst xs => cls k xs
  | .rol xs => cls k xs
  | .ref n => decide (n < k)
  | .dct _ vs => cls k vs
  | _ => true
def cls (k : Nat) : List Val → Bool
  | [] => true
  | x :: xs => cl k x && cls k xs
end
def clO (k : Nat) : Ob → Bool
  | .lst xs => cls k xs
  | .dct _ vs => cls k vs
mutual
theorem cl_up : ∀ (x : Val) (k : Nat), up x ≤ k → cl k x = true
  | .tup xs, k, h => cls_ups xs k h
  | .lst xs, k, h => cls_ups xs k h
  | .rol xs, k, h => cls_ups xs k h
  | .ref n, k, h => decide_eq_true h
  | .dct _ vs, k, h => cls_ups vs k h
  | .non, _, _ => rfl
  | .bl _, _, _ => rfl
  | .int _, _, _ => rfl
  | .str _, _, _ => rfl
  | .fn _, _, _ => rfl
  | .ty _, _, _ => rfl
theorem cls_ups : ∀ (xs : List Val) (k : Nat), ups xs ≤ k → cls k xs = true
  | [], _, _ => rfl
  | x :: xs, k, h => by
    have h : max (up x) (ups xs) ≤ k := h
    simp only [cls, cl_up x k (by omega), cls_ups xs k (by omega), Bool.and_self]
end
section
variable {c : Ct} {w : Wd}
/-- the callee's world -/
def Wd.cut (w : Wd) (k : Nat) : Wd := { ρ := w.ρ.take k, μ := w.μ.take k, H := w.H, rs := w.rs ++ w.ρ.drop k }
theorem take_not {a : Addr} {k : Nat} {l : List Addr} (h : a ∉ l) : a ∉ l.take k := fun z => h (List.mem_of_mem_take z)
theorem ImL.cut {a : Addr} {ys : List V} {k : Nat} (h : ImL w a ys) : ImL (w.cut k) a ys := ⟨h.1, take_not h.2.1, fun z => (List.mem_append.mp z).elim h.2.2 fun z => h.2.1 (List.mem_of_mem_drop z)⟩
theorem ImD.cut {a : Addr} {ks : List DKey} {ys : List V} {k : Nat} (h : ImD c w a ks ys) : ImD c (w.cut k) a ks ys := ⟨h.1, take_not h.2.1, fun z => (List.mem_append.mp z).elim h.2.2 fun z => h.2.1 (List.mem_of_mem_drop z)⟩
mutual
theorem RV.cut {k : Nat} : ∀ (x : Val) (v : V), cl k x = true → RV c w x v → RV c (w.cut k) x v
  | .non, _, _, h => h
  | .bl _, _, _, h => h
  | .int _, _, _, h => h
  | .str _, _, _, h => h
  | .tup xs, _, q, ⟨a, ys, e1, e2, e3⟩ => ⟨a, ys, e1, e2, RVs.cut xs ys q e3⟩
  | .lst xs, _, q, ⟨a, ys, e1, e2, e3⟩ => ⟨a, ys, e1, e2.cut, RVs.cut xs ys q e3⟩
  | .rol xs, _, q, ⟨a, ys, e1, e2, e3⟩ => ⟨a, ys, e1, e2, RVs.cut xs ys q e3⟩
  | .ref n, _, q, ⟨a, e1, e2⟩ => ⟨a, e1, by
    show (w.ρ.take k)[n]? = some a
    rw [List.getElem?_take_of_lt (of_decide_eq_true q)]; exact e2⟩
  | .fn _, _, _, h => h
  | .ty _, _, _, h => h
  | .dct ks vs, _, q, ⟨a, ys, e1, e2, e3⟩ => ⟨a, ys, e1, e2.cut, RVs.cut vs ys q e3⟩
theorem RVs.cut {k : Nat} : ∀ (xs : List Val) (ys : List V), cls k xs = true → RVs c w xs ys → RVs c (w.cut k) xs ys
  | [], _, _, h => h
  | x :: xs, _, q, ⟨y, r, e1, e2, e3⟩ => ⟨y, r, e1, RV.cut x y (Bool.and_eq_true_iff.mp q).1 e2, RVs.cut xs r (Bool.and_eq_true_iff.mp q).2 e3⟩
end
theorem RO.cut {k : Nat} {a : Addr} {o : Ob} (q : clO k o = true) (h : RO c w a o) : RO c (w.cut k) a o := by
  cases o with
  | lst xs => obtain ⟨ys, h1, h2⟩ := h; exact ⟨ys, h1, RVs.cut _ _ q h2⟩
  | dct ks vs => obtain ⟨ys, h1, h2⟩ := h; exact ⟨ys, h1, RVs.cut _ _ q h2⟩
theorem Sim.cut {k : Nat} (s : Sim c w) (hc : (w.μ.take k).all (clO k) = true) : Sim c (w.cut k) := by
  refine ⟨by simp [Wd.cut, s.len], s.nd.sublist (List.take_sublist _ _), fun i a o h1 h2 => ?_, fun a ha => ?_⟩
  · have h1 : (w.ρ.take k)[i]? = some a := h1
    have h2 : (w.μ.take k)[i]? = some o := h2
    have hi : i < k := by
      have := (List.getElem?_eq_some_iff.mp h1).1
      rw [List.length_take] at this
      omega
    have q := (List.all_eq_true.mp hc) o (List.mem_of_getElem? h2)
    rw [List.getElem?_take_of_lt hi] at h1 h2
    exact (s.ob i a o h1 h2).cut q
  · rcases List.mem_append.mp ha with h | h
    · obtain ⟨h1, o, h2⟩ := s.rs a h
      exact ⟨take_not h1, o, h2⟩
    · obtain ⟨i, o, _, _, r⟩ := s.mem (List.mem_of_mem_drop h)
      refine ⟨fun z => ?_, r.some⟩
      have nd := s.nd
      rw [← List.take_append_drop k w.ρ] at nd
      exact (List.nodup_append.mp nd).2.2 a z a h rfl
/-- the caller's world behind the call -/
def Wd.join (w w1 : Wd) (k : Nat) : Wd := { ρ := w.ρ, μ := w1.μ.take k ++ w.μ.drop k, H := w1.H, rs := w.rs }
/-- what is known behind a call -/
structure Back (c : Ct) (w w1 : Wd) (k : Nat) : Prop where
  s : Sim c w
  s1 : Sim c w1
  e : Ext (w.cut k) w1
  hk : k ≤ w.μ.length
variable {w1 : Wd} {k : Nat}
theorem Back.pre (b : Back c w w1 k) : ∃ δ, w1.ρ = w.ρ.take k ++ δ ∧ ∀ a ∈ δ, w.H a = none := b.e.pre
theorem Back.lenk (b : Back c w w1 k) : (w.ρ.take k).length = k := by rw [List.length_take, b.s.len, Nat.min_eq_left b.hk]
theorem Back.nin (b : Back c w w1 k) {a : Addr} (h1 : a ∉ w1.ρ) (h2 : a ∉ w1.rs) : a ∉ w.ρ ∧ a ∉ w.rs := by
  obtain ⟨δ, p, _⟩ := b.pre
  rw [b.e.rs] at h2
  have h2 : a ∉ w.rs ++ w.ρ.drop k := h2
  refine ⟨fun z => ?_, fun z => h2 (List.mem_append_left _ z)⟩
  rw [← List.take_append_drop k w.ρ] at z
  rcases List.mem_append.mp z with z | z
  · exact h1 (by rw [p]; exact List.mem_append_left _ z)
  · exact h2 (List.mem_append_right _ z)
/-- a world of the caller behind the call: its heap, and what is its own there; av: the new thing that it takes over -/
structure Behind (b : Back c w w1 k) (av : Option Nat) (w2 : Wd) : Prop where
  H : w2.H = w1.H
  ρ : ∀ a : Addr, a ∈ w2.ρ → a ∈ w.ρ ∨ ∃ m : Nat, av = some m ∧ w1.ρ[m]? = some a
  get : ∀ (i : Nat) (a : Addr), w.ρ[i]? = some a → w2.ρ[i]? = some a
  rs : w2.rs = w.rs
variable {av : Option Nat}
theorem ImL.back {b : Back c w w1 k} {w2 : Wd} (h2 : Behind b av w2) {a : Addr} {ys : List V} (h : ImL w1 a ys) : ImL w2 a ys := by
  obtain ⟨q1, q2⟩ := b.nin h.2.1 h.2.2
  exact ⟨by rw [h2.H]; exact h.1, fun z => (h2.ρ a z).elim q1 fun ⟨m, _, e⟩ => h.2.1 (List.mem_of_getElem? e), by rw [h2.rs]; exact q2⟩
theorem ImD.back {b : Back c w w1 k} {w2 : Wd} (h2 : Behind b av w2) {a : Addr} {ks : List DKey} {ys : List V} (h : ImD c w1 a ks ys) : ImD c w2 a ks ys := by
  obtain ⟨q1, q2⟩ := b.nin h.2.1 h.2.2
  exact ⟨by rw [h2.H]; exact h.1, fun z => (h2.ρ a z).elim q1 fun ⟨m, _, e⟩ => h.2.1 (List.mem_of_getElem? e), by rw [h2.rs]; exact q2⟩
mutual
/-- references from k on become what they stand for -/
def fz (k : Nat) (rec : Nat → Option Val) : Val → Option Val
  | .tup xs => (fzs k rec xs).map .tup
  | .lst xs => (fzs k rec xs).map .lst
  | .rol xs => (fzs k rec xs).map .rol
  | .ref n => if n < k then some (.ref n) else rec n
  | .dct ks vs => (fzs k rec vs).map (.dct ks)
  | .non => some .non
  | .bl b => some (.bl b)
  | .int b => some (.int b)
  | .str b => some (.str b)
  | .fn b => some (.fn b)
  | .ty b => some (.ty b)
def fzs (k : Nat) (rec : Nat → Option Val) : List Val → Option (List Val)
  | [] => some []
  | x :: xs => match fz k rec x with
    | some y => (match fzs k rec xs with
      | some ys => some (y :: ys)
      | none => none)
    | none => none
end
def fzr (av : Option Nat) (μ : Mu) (k : Nat) : Nat → Nat → Option Val
  | 0, _ => none
  | n + 1, m => if av = some m then none else match μ[m]? with
    | some (.lst xs) => (fzs k (fzr av μ k n) xs).map .lst
    | some (.dct ks vs) => (fzs k (fzr av μ k n) vs).map (.dct ks)
    | none => none
def freeze (μ : Mu) (k : Nat) : Val → Option Val := fz k (fzr none μ k 8)
def freezes (av : Option Nat) (μ : Mu) (k : Nat) : List Val → Option (List Val) := fzs k (fzr av μ k 8)
/-- what rec must do -/
def RecOk (c : Ct) (w1 w2 : Wd) (k : Nat) (rec : Nat → Option Val) : Prop := ∀ n v x, k ≤ n → rec n = some v → RV c w1 (.ref n) x → RV c w2 v x
section
variable {rec : Nat → Option Val} {b : Back c w w1 k} {w2 : Wd}
theorem Back.get_lt (b : Back c w w1 k) {n : Nat} {a : Addr} (h : n < k) (e : w1.ρ[n]? = some a) : w.ρ[n]? = some a := by
  obtain ⟨δ, p, _⟩ := b.pre
  rw [p, List.getElem?_append_left (by rw [b.lenk]; exact h), List.getElem?_take_of_lt h] at e
  exact e
mutual
theorem RV.fz (h2 : Behind b av w2) (hr : RecOk c w1 w2 k rec) : ∀ (x : Val) (y : Val) (v : V), fz k rec x = some y → RV c w1 x v → RV c w2 y v
  | .non, y, _, q, h => by cases q; exact h
  | .bl _, y, _, q, h => by cases q; exact h
  | .int _, y, _, q, h => by cases q; exact h
  | .str _, y, _, q, h => by cases q; exact h
  | .fn _, y, _, q, h => by cases q; exact h
  | .ty _, y, _, q, h => by cases q; exact h
  | .tup xs, y, _, q, ⟨a, ys, e1, e2, e3⟩ => by
    simp only [G.fz, Option.map_eq_some_iff] at q
    obtain ⟨zs, q, rfl⟩ := q
    exact ⟨a, ys, e1, by rw [h2.H]; exact e2, RVs.fz h2 hr xs zs ys q e3⟩
  | .lst xs, y, _, q, ⟨a, ys, e1, e2, e3⟩ => by
    simp only [G.fz, Option.map_eq_some_iff] at q
    obtain ⟨zs, q, rfl⟩ := q
    exact ⟨a, ys, e1, e2.back h2, RVs.fz h2 hr xs zs ys q e3⟩
  | .rol xs, y, _, q, ⟨a, ys, e1, e2, e3⟩ => by
    simp only [G.fz, Option.map_eq_some_iff] at q
    obtain ⟨zs, q, rfl⟩ := q
    exact ⟨a, ys, e1, by unfold RoL at e2 ⊢; rw [h2.H]; exact e2, RVs.fz h2 hr xs zs ys q e3⟩
  | .ref n, y, v, q, h => by
    simp only [G.fz] at q
    split at q
    · rename_i hn
      cases q
      obtain ⟨a, e1, e2⟩ := h
      exact ⟨a, e1, h2.get n a (b.get_lt hn e2)⟩
    · rename_i hn
      exact hr n y v (by omega) q h
  | .dct ks vs, y, _, q, ⟨a, ys, e1, e2, e3⟩ => by
    simp only [G.fz, Option.map_eq_some_iff] at q
    obtain ⟨zs, q, rfl⟩ := q
    exact ⟨a, ys, e1, e2.back h2, RVs.fz h2 hr vs zs ys q e3⟩
theorem RVs.fz (h2 : Behind b av w2) (hr : RecOk c w1 w2 k rec) : ∀ (xs : List Val) (zs : List Val) (ys : List V), fzs k rec xs = some zs → RVs c w1 xs ys → RVs c w2 zs ys
  | [], zs, _, q, h => by cases q; exact h
  | x :: xs, zs, _, q, ⟨y, r, e1, e2, e3⟩ => by
    simp only [G.fzs] at q
    cases q1 : G.fz k rec x with
    | none => rw [q1] at q; cases q
    | some z =>
      cases q2 : G.fzs k rec xs with
      | none => rw [q1, q2] at q; cases q
      | some zr =>
        rw [q1, q2] at q
        cases q
        exact ⟨y, r, e1, RV.fz h2 hr x z y q1 e2, RVs.fz h2 hr xs zr r q2 e3⟩
end
theorem Back.new_not (b : Back c w w1 k) {n : Nat} {a : Addr} (hn : k ≤ n) (e : w1.ρ[n]? = some a) : a ∉ w.ρ ∧ a ∉ w.rs ∧ w.H a = none := by
  obtain ⟨δ, p, q⟩ := b.pre
  have hd : a ∈ δ := by
    rw [p, List.getElem?_append_right (by rw [b.lenk]; exact hn)] at e
    exact List.mem_of_getElem? e
  have hN := q a hd
  refine ⟨fun z => ?_, fun z => ?_, hN⟩
  · obtain ⟨_, _, _, _, r⟩ := b.s.mem z
    obtain ⟨o, ho⟩ := r.some
    rw [hN] at ho; cases ho
  · obtain ⟨_, o, ho⟩ := b.s.rs a z
    rw [hN] at ho; cases ho
theorem fzr_ok (h2 : Behind b av w2) : ∀ n, RecOk c w1 w2 k (fzr av w1.μ k n)
  | 0 => fun m v x _ h => nomatch h
  | n + 1 => fun m v x hm h ⟨a, e1, e2⟩ => by
    simp only [fzr] at h
    split at h
    · cases h
    rename_i hav
    have n4 : a ∉ w2.ρ := fun z => (h2.ρ a z).elim (b.new_not hm e2).1 fun ⟨m', h3, e3⟩ => by
      subst h3
      exact hav (by rw [nodup_get b.s1.nd e3 e2])
    obtain ⟨n1, n2, n3⟩ := b.new_not hm e2
    cases q : w1.μ[m]? with
    | none => rw [q] at h; cases h
    | some o =>
      rw [q] at h
      have ro := b.s1.ob m a o e2 q
      cases o with
      | lst xs =>
        simp only [Option.map_eq_some_iff] at h
        obtain ⟨zs, h, rfl⟩ := h
        obtain ⟨ys, f1, f2⟩ := ro
        exact ⟨a, ys, e1, ⟨by rw [h2.H]; exact f1, n4, by rw [h2.rs]; exact n2⟩, RVs.fz h2 (fzr_ok h2 n) xs zs ys h f2⟩
      | dct ks vs =>
        simp only [Option.map_eq_some_iff] at h
        obtain ⟨zs, h, rfl⟩ := h
        obtain ⟨ys, f1, f2⟩ := ro
        exact ⟨a, ys, e1, ⟨by rw [h2.H]; exact f1, n4, by rw [h2.rs]; exact n2⟩, RVs.fz h2 (fzr_ok h2 n) vs zs ys h f2⟩
end
mutual
theorem fz_cl {rec : Nat → Option Val} : ∀ (x : Val), cl k x = true → fz k rec x = some x
  | .non, _ => rfl
  | .bl _, _ => rfl
  | .int _, _ => rfl
  | .str _, _ => rfl
  | .fn _, _ => rfl
  | .ty _, _ => rfl
  | .tup xs, q => by simp only [fz, fzs_cl xs q, Option.map_some]
  | .lst xs, q => by simp only [fz, fzs_cl xs q, Option.map_some]
  | .rol xs, q => by simp only [fz, fzs_cl xs q, Option.map_some]
  | .dct _ vs, q => by simp only [fz, fzs_cl vs q, Option.map_some]
  | .ref n, q => if_pos (of_decide_eq_true q)
theorem fzs_cl {rec : Nat → Option Val} : ∀ (xs : List Val), cls k xs = true → fzs k rec xs = some xs
  | [], _ => rfl
  | x :: xs, q => by simp only [fzs, fz_cl x (Bool.and_eq_true_iff.mp q).1, fzs_cl xs (Bool.and_eq_true_iff.mp q).2]
end
theorem Back.behind_join (b : Back c w w1 k) : Behind b none (w.join w1 k) := ⟨rfl, fun _ h => .inl h, fun _ _ h => h, rfl⟩
theorem Back.ext (b : Back c w w1 k) : Ext w (w.join w1 k) :=
  ⟨⟨[], by simp [Wd.join], fun _ h => nomatch h⟩, rfl, fun a o h n => b.e.keep a o h (take_not n), fun a h => b.e.there a h⟩
theorem Back.joinOb (b : Back c w w1 k) {w2 : Wd} (h2 : Behind b av w2) (e2 : Ext w w2) (hc : (w1.μ.take k).all (clO k) = true) {i : Nat} {a : Addr} {o : Ob} (h1 : w.ρ[i]? = some a) (h3 : (w1.μ.take k ++ w.μ.drop k)[i]? = some o) : RO c w2 a o := by
  obtain ⟨δ, p, _⟩ := b.pre
  have hl1 : w1.μ.length = w1.ρ.length := b.s1.len.symm
  have hl : (w1.μ.take k).length = k := by
    rw [List.length_take, hl1, p, List.length_append, b.lenk]
    omega
  by_cases hi : i < k
  · rw [List.getElem?_append_left (by rw [hl]; exact hi)] at h3
    have q := (List.all_eq_true.mp hc) o (List.mem_of_getElem? h3)
    rw [List.getElem?_take_of_lt hi] at h3
    have h4 : w1.ρ[i]? = some a := by
      rw [p, List.getElem?_append_left (by rw [b.lenk]; exact hi), List.getElem?_take_of_lt hi]
      exact h1
    have ro := b.s1.ob i a o h4 h3
    have rc : RecOk c w1 w2 k (fun _ => none) := fun _ _ _ _ h => nomatch h
    cases o with
    | lst xs => obtain ⟨ys, f1, f2⟩ := ro; exact ⟨ys, by rw [h2.H]; exact f1, RVs.fz h2 rc xs xs ys (fzs_cl xs q) f2⟩
    | dct ks vs => obtain ⟨ys, f1, f2⟩ := ro; exact ⟨ys, by rw [h2.H]; exact f1, RVs.fz h2 rc vs vs ys (fzs_cl vs q) f2⟩
  · rw [List.getElem?_append_right (by rw [hl]; omega), hl, List.getElem?_drop] at h3
    have e : k + (i - k) = i := by omega
    rw [e] at h3
    have ro := b.s.ob i a o h1 h3
    refine ro.go b.s e2 ?_
    obtain ⟨x, hx⟩ := ro.some
    rw [hx, h2.H]
    refine b.e.keep a x hx fun z => ?_
    have nd := b.s.nd
    rw [← List.take_append_drop k w.ρ] at nd h1
    rw [List.getElem?_append_right (by rw [b.lenk]; omega)] at h1
    exact (List.nodup_append.mp nd).2.2 a z a (List.mem_of_getElem? h1) rfl
theorem Back.sim_join (b : Back c w w1 k) (hc : (w1.μ.take k).all (clO k) = true) : Sim c (w.join w1 k) := by
  obtain ⟨δ, p, _⟩ := b.pre
  refine ⟨?_, b.s.nd, fun i a o h1 h2 => b.joinOb b.behind_join b.ext hc h1 h2, fun a ha => ?_⟩
  · show w.ρ.length = (w1.μ.take k ++ w.μ.drop k).length
    rw [List.length_append, List.length_take, List.length_drop, ← b.s1.len, p, List.length_append, b.lenk, b.s.len]
    have := b.hk
    omega
  · obtain ⟨h1, o, h2⟩ := b.s.rs a ha
    exact ⟨h1, o, b.ext.keep a o h2 h1⟩

/-! ### the call -/
/-- what a call does: it sees the heap's part below k; what is new in its answer stands from then on as what it is -/
def frzE (μ : Mu) (k : Nat) (e : Exn) : Option Exn := match freezes none μ k (e.fs.map (·.2)) with
  | some vs => some ⟨e.c, (e.fs.map (·.1)).zip vs⟩
  | none => none
def callX (k : Nat) (μ μ' : Mu) (e : Exn) : Res Val := match frzE μ' k e with
  | some e' => if (μ'.take k).all (clO k) then .exc e' (μ'.take k ++ μ.drop k) else .stuck
  | none => .stuck
def callD (g : Sem) (vs : List Val) (μ : Mu) : Res Val :=
  if ups vs ≤ μ.length ∧ (μ.take (ups vs)).all (clO (ups vs)) = true then
    match g vs (μ.take (ups vs)) with
    | .ok v μ' => (match freeze μ' (ups vs) v with
      | some v' => if (μ'.take (ups vs)).all (clO (ups vs)) then .ok v' (μ'.take (ups vs) ++ μ.drop (ups vs)) else .stuck
      | none => .stuck)
    | .exc e μ' => callX (ups vs) μ μ' e
    | .stuck => .stuck
  else .stuck
/-- .. a new list, that the caller goes on to change -/
def callM (g : Sem) (vs : List Val) (μ : Mu) : Res Val :=
  if ups vs ≤ μ.length ∧ (μ.take (ups vs)).all (clO (ups vs)) = true then
    match g vs (μ.take (ups vs)) with
    | .ok (.ref m) μ' => if ups vs ≤ m then (match μ'[m]? with
        | some (.lst xs) => (match freezes (some m) μ' (ups vs) xs with
          | some xs' => if (μ'.take (ups vs)).all (clO (ups vs)) then .ok (.ref μ.length) (μ'.take (ups vs) ++ μ.drop (ups vs) ++ [.lst xs']) else .stuck
          | none => .stuck)
        | some (.dct ks xs) => (match freezes (some m) μ' (ups vs) xs with
          | some xs' => if (μ'.take (ups vs)).all (clO (ups vs)) then .ok (.ref μ.length) (μ'.take (ups vs) ++ μ.drop (ups vs) ++ [.dct ks xs']) else .stuck
          | none => .stuck)
        | none => .stuck) else .stuck
    | .ok _ _ => .stuck
    | .exc e μ' => callX (ups vs) μ μ' e
    | .stuck => .stuck
  else .stuck
theorem zip_ne {α β : Type} {l : List α} {m : List β} (h : l.length = m.length) (n : l ≠ []) : l.zip m ≠ [] := by
  cases l with
  | nil => exact absurd rfl n
  | cons a l => cases m with
    | nil => simp at h
    | cons b m => simp
theorem zip_fst {α β : Type} : ∀ {l : List α} {m : List β}, l.length = m.length → (l.zip m).map (·.1) = l
  | [], _, _ => by simp
  | a :: l, [], h => by simp at h
  | a :: l, b :: m, h => by simp [zip_fst (l := l) (m := m) (by simpa using h)]
theorem zip_snd {α β : Type} : ∀ {l : List α} {m : List β}, l.length = m.length → (l.zip m).map (·.2) = m
  | [], [], _ => by simp
  | [], b :: m, h => by simp at h
  | a :: l, [], h => by simp at h
  | a :: l, b :: m, h => by simp [zip_snd (l := l) (m := m) (by simpa using h)]
theorem fzs_len {rec : Nat → Option Val} : ∀ {xs zs : List Val}, fzs k rec xs = some zs → xs.length = zs.length
  | [], zs, q => by cases q; rfl
  | x :: xs, zs, q => by
    simp only [fzs] at q
    cases q1 : fz k rec x with
    | none => rw [q1] at q; cases q
    | some z =>
      cases q2 : fzs k rec xs with
      | none => rw [q1, q2] at q; cases q
      | some zr => rw [q1, q2] at q; cases q; simp [fzs_len q2]
theorem RX.back {b : Back c w w1 k} {w2 : Wd} (h2 : Behind b none w2) {e e' : Exn} {C : Value} {d : Option Addr} (q : frzE w1.μ k e = some e') (r : RX c w1 e C d) : RX c w2 e' C d := by
  unfold frzE at q
  cases q1 : freezes none w1.μ k (e.fs.map (·.2)) with
  | none => rw [q1] at q; cases q
  | some vs =>
    rw [q1] at q
    cases q
    obtain ⟨A, h1, h3, h4⟩ := r
    have hl := fzs_len q1
    rw [List.length_map] at hl
    refine ⟨A, h1, h3, ?_⟩
    rcases h4 with ⟨h4, h5⟩ | ⟨dx, ys, h4, h5, h6, h7, h8⟩
    · refine .inl ⟨?_, h5⟩
      show (e.fs.map (·.1)).zip vs = []
      rw [h4]; rfl
    · have hl2 : (e.fs.map (·.1)).length = vs.length := by rw [List.length_map]; exact hl
      have a1 : (((e.fs.map (·.1)).zip vs).map (·.1)) = e.fs.map (·.1) := zip_fst hl2
      have a2 : (((e.fs.map (·.1)).zip vs).map (·.2)) = vs := zip_snd hl2
      refine .inr ⟨dx, ys, h4, zip_ne hl2 (by simpa using h5), ?_, ?_, ?_⟩
      · show ys.length = ((e.fs.map (·.1)).zip vs).length
        rw [List.length_zip, hl2]; simp; omega
      · show w2.H dx = some (.xd ((((e.fs.map (·.1)).zip vs).map (·.1)).zip ys))
        rw [a1, h2.H]; exact h7
      · show RVs c w2 (((e.fs.map (·.1)).zip vs).map (·.2)) ys
        rw [a2]
        exact RVs.fz h2 (fzr_ok h2 8) _ _ _ q1 h8
theorem callX_post {Q : VK} {E : XK} {μ : Mu} {e : Exn} {b : Back c w w1 k} (h : Post c w (callX k w.μ w1.μ e) Q E) {C : Value} {d : Option Addr} (r : RX c w1 e C d) : E C d w1.H := by
  unfold callX at h
  cases q1 : frzE w1.μ k e with
  | none => rw [q1] at h; exact h.elim
  | some e' =>
    rw [q1] at h
    dsimp only at h
    split at h
    · rename_i hc
      exact h (w.join w1 k) rfl b.ext (b.sim_join hc) C d (r.back b.behind_join q1)
    · exact h.elim
theorem callD_post {g : Sem} {vs : List Val} {Q : VK} {E : XK} (s : Sim c w) (h : Post c w (callD g vs w.μ) Q E) :
    ∃ k, cls k vs = true ∧ Sim c (w.cut k) ∧ Post c (w.cut k) (g vs (w.cut k).μ) Q E := by
  refine ⟨ups vs, cls_ups vs _ (Nat.le_refl _), ?_⟩
  unfold callD at h
  split at h
  · rename_i hk
    refine ⟨s.cut hk.2, ?_⟩
    show Post c (w.cut (ups vs)) (g vs (w.μ.take (ups vs))) Q E
    cases q : g vs (w.μ.take (ups vs)) with
    | stuck => rw [q] at h; exact h
    | exc e μ' =>
      rw [q] at h
      intro w1 hμ e1 s1 C d r
      subst hμ
      exact callX_post (b := ⟨s, s1, e1, hk.1⟩) (μ := w.μ) h r
    | ok v μ' =>
      rw [q] at h
      intro w1 hμ e1 s1 x rx
      subst hμ
      dsimp only at h
      have b : Back c w w1 (ups vs) := ⟨s, s1, e1, hk.1⟩
      cases q1 : freeze w1.μ (ups vs) v with
      | none => rw [q1] at h; exact h.elim
      | some v' =>
        rw [q1] at h
        dsimp only at h
        split at h
        · rename_i hc
          exact h (w.join w1 _) rfl b.ext (b.sim_join hc) x (RV.fz b.behind_join (fzr_ok b.behind_join 8) v v' x q1 rx)
        · exact h.elim
  · exact h.elim
/-- .. with one more thing of the caller's own -/
def Wd.join1 (w w1 : Wd) (k : Nat) (a : Addr) (o : Ob) : Wd := { ρ := w.ρ ++ [a], μ := w1.μ.take k ++ w.μ.drop k ++ [o], H := w1.H, rs := w.rs }
theorem Back.ext1 (b : Back c w w1 k) {a : Addr} {o : Ob} (n : w.H a = none) : Ext w (w.join1 w1 k a o) :=
  ⟨⟨[a], rfl, fun x h => by rw [List.mem_singleton.mp h]; exact n⟩, rfl, fun x o h n => b.e.keep x o h (take_not n), fun x h => b.e.there x h⟩
theorem join_len (b : Back c w w1 k) : (w1.μ.take k ++ w.μ.drop k).length = w.ρ.length := by
  obtain ⟨δ, p, _⟩ := b.pre
  rw [List.length_append, List.length_take, List.length_drop, ← b.s1.len, p, List.length_append, b.lenk, b.s.len]
  have := b.hk
  omega
theorem Back.behind1 (b : Back c w w1 k) {a : Addr} {o : Ob} {m : Nat} (ha : w1.ρ[m]? = some a) : Behind b (some m) (w.join1 w1 k a o) :=
  ⟨rfl, fun x h => (List.mem_append.mp h).elim .inl fun h => .inr ⟨m, rfl, by rw [List.mem_singleton.mp h]; exact ha⟩, fun i x h => by
    show (w.ρ ++ [a])[i]? = some x
    rw [List.getElem?_append_left (List.getElem?_eq_some_iff.mp h).1]; exact h, rfl⟩
theorem Back.sim1 (b : Back c w w1 k) (hc : (w1.μ.take k).all (clO k) = true) {a : Addr} {o : Ob} {m : Nat} (hm : k ≤ m) (ha : w1.ρ[m]? = some a) (ro : RO c (w.join1 w1 k a o) a o) : Sim c (w.join1 w1 k a o) := by
  obtain ⟨n1, n2, n3⟩ := b.new_not hm ha
  refine ⟨?_, ?_, fun i x p h1 h2 => ?_, fun x hx => ?_⟩
  · show (w.ρ ++ [a]).length = (w1.μ.take k ++ w.μ.drop k ++ [o]).length
    rw [List.length_append, List.length_append, join_len b]
    rfl
  · show (w.ρ ++ [a]).Nodup
    rw [List.nodup_append]
    exact ⟨b.s.nd, by simp, fun x hx y hy e => n1 (by rw [← List.mem_singleton.mp hy, ← e]; exact hx)⟩
  · have h1 : (w.ρ ++ [a])[i]? = some x := h1
    have h2 : (w1.μ.take k ++ w.μ.drop k ++ [o])[i]? = some p := h2
    by_cases hi : i < w.ρ.length
    · rw [List.getElem?_append_left hi] at h1
      rw [List.getElem?_append_left (by rw [join_len b]; exact hi)] at h2
      exact b.joinOb (b.behind1 ha) (b.ext1 n3) hc h1 h2
    · rw [List.getElem?_append_right (by omega)] at h1
      rw [List.getElem?_append_right (by rw [join_len b]; omega), join_len b] at h2
      have e : i - w.ρ.length = 0 := by
        have := (List.getElem?_eq_some_iff.mp h1).1
        simp at this; omega
      rw [e] at h1 h2
      simp at h1 h2
      subst h1 h2
      exact ro
  · obtain ⟨h1, y, h2⟩ := b.s.rs x hx
    refine ⟨fun z => ?_, y, (b.ext1 (o := o) n3).keep x y h2 h1⟩
    rcases List.mem_append.mp z with z | z
    · exact h1 z
    · rw [List.mem_singleton.mp z, n3] at h2; cases h2
theorem callM_post {g : Sem} {vs : List Val} {Q : VK} {E : XK} (s : Sim c w) (h : Post c w (callM g vs w.μ) Q E) :
    ∃ k, cls k vs = true ∧ Sim c (w.cut k) ∧ Post c (w.cut k) (g vs (w.cut k).μ) Q E := by
  refine ⟨ups vs, cls_ups vs _ (Nat.le_refl _), ?_⟩
  unfold callM at h
  split at h
  · rename_i hk
    refine ⟨s.cut hk.2, ?_⟩
    show Post c (w.cut (ups vs)) (g vs (w.μ.take (ups vs))) Q E
    cases q : g vs (w.μ.take (ups vs)) with
    | stuck => rw [q] at h; exact h
    | exc e μ' =>
      rw [q] at h
      intro w1 hμ e1 s1 C d r
      subst hμ
      exact callX_post (b := ⟨s, s1, e1, hk.1⟩) (μ := w.μ) h r
    | ok v μ' =>
      rw [q] at h
      intro w1 hμ e1 s1 x rx
      subst hμ
      have b : Back c w w1 (ups vs) := ⟨s, s1, e1, hk.1⟩
      cases v with
      | ref m =>
        dsimp only at h
        split at h
        · rename_i hm
          obtain ⟨a, ex, ha⟩ := rx
          obtain ⟨n1, n2, n3⟩ := b.new_not hm ha
          have fin : ∀ {o : Ob}, (w1.μ.take (ups vs)).all (clO (ups vs)) = true → RO c (w.join1 w1 (ups vs) a o) a o → Post c w (.ok (.ref w.μ.length) (w1.μ.take (ups vs) ++ w.μ.drop (ups vs) ++ [o])) Q E → Q x w1.H := fun {o} hc ro h => by
            refine h (w.join1 w1 _ a o) rfl (b.ext1 n3) (b.sim1 hc hm ha ro) x ⟨a, ex, ?_⟩
            show (w.ρ ++ [a])[w.μ.length]? = some a
            rw [← s.len]; simp
          cases qo : w1.μ[m]? with
          | none => rw [qo] at h; exact h.elim
          | some o =>
            rw [qo] at h
            have ro := s1.ob m a o ha qo
            cases o with
            | lst xs =>
              obtain ⟨ys, f1, f2⟩ := ro
              dsimp only at h
              cases q1 : freezes (some m) w1.μ (ups vs) xs with
              | none => rw [q1] at h; exact h.elim
              | some zs =>
                rw [q1] at h
                dsimp only at h
                split at h
                · rename_i hc
                  exact fin (o := .lst zs) hc ⟨ys, f1, RVs.fz (b.behind1 ha) (fzr_ok (b.behind1 ha) 8) xs zs ys q1 f2⟩ h
                · exact h.elim
            | dct ks xs =>
              obtain ⟨ys, f1, f2⟩ := ro
              dsimp only at h
              cases q1 : freezes (some m) w1.μ (ups vs) xs with
              | none => rw [q1] at h; exact h.elim
              | some zs =>
                rw [q1] at h
                dsimp only at h
                split at h
                · rename_i hc
                  exact fin (o := .dct ks zs) hc ⟨ys, f1, RVs.fz (b.behind1 ha) (fzr_ok (b.behind1 ha) 8) xs zs ys q1 f2⟩ h
                · exact h.elim
        · exact h.elim
      | _ => exact h.elim
  · exact h.elim
end

/-! ### the rules -/
/-- what a def promises -/
def spG (c : Ct) (g : Sem) : Sp := fun xs H Q E => ∃ w vs, w.H = H ∧ Sim c w ∧ RVs c w vs xs ∧ Post c w (g vs w.μ) Q E
section
variable {c : Ct} {W : WX} {X : Cx} {x : Str} {p pos : Pos} {e : Expr} {es : List Expr} {ma : M (List Val)} {k : Nat} {f : Addr} {fd : FuncData} {ps : List Str} {g : Sem}
theorem liftD {σ : St} {H : Hp} {Q : VK} (h : TE' c W (mcall (callD g) ma) σ H Q) : TA' c W ma σ H fun xs H1 => spG c g xs H1 Q (WE W σ) := by
  obtain ⟨w, sl, e, s, rs, h⟩ := h
  subst e
  refine ta_then (R := fun w r => Post c w r Q fun cls d H' => W cls d σ H') s rs exc_post (fun z => z) h fun vs w1 e1 s1 rs1 h1 xs rx => ?_
  obtain ⟨k, q1, q2, q3⟩ := callD_post s1 (h1.ext e1)
  exact ⟨w1.cut k, vs, rfl, q2, RVs.cut _ _ q1 rx, q3⟩
theorem liftM {σ : St} {H : Hp} {Q : VK} (h : TE' c W (mcall (callM g) ma) σ H Q) : TA' c W ma σ H fun xs H1 => spG c g xs H1 Q (WE W σ) := by
  obtain ⟨w, sl, e, s, rs, h⟩ := h
  subst e
  refine ta_then (R := fun w r => Post c w r Q fun cls d H' => W cls d σ H') s rs exc_post (fun z => z) h fun vs w1 e1 s1 rs1 h1 xs rx => ?_
  obtain ⟨k, q1, q2, q3⟩ := callM_post s1 (h1.ext e1)
  exact ⟨w1.cut k, vs, rfl, q2, RVs.cut _ _ q1 rx, q3⟩
/-- a def, by name, as it may be called -/
structure Cal (c : Ct) (P : Program) (w : World) (mg : Str → Option Value) (base : Heap) (k : Nat) (x : Str) (g : Sem) : Prop where
  ex : ∃ (f : Addr) (fd : FuncData) (ps : List Str), FnOk P w c.K mg base (L2.CX P w) k f fd ps (spG c g) ∧ mg x = some (.ref f) ∧ PySem.W.keepIn c.K (.ref f) = true ∧ Binds c.K fd ps []
theorem ge_call (F : Cal c X.prog X.w X.mg X.base k x g) (hr : Room k X.A) (tk : Takes X W) (ha : PA X (e :: es) (TA' c W ma)) (hK : X.K = c.K := by rfl) (hg : Gl X x := by rfl)
    (hdb : (x == ("__debug__" : Str)) = false := by decide) (he : starEach (e :: es) X.env = (false, eval e X.env) :: starEach es X.env := by rfl) (hpl : (backTo pos (starEach es X.env)).any (·.1) = false := by rfl) :
    PE X (.Call (.Name x p) (e :: es) [] pos) (TE' c W (mcall (callD g) ma)) := by
  obtain ⟨f, fd, ps, F, hm, hk, hb⟩ := F.ex
  rw [← hK] at F hk hb
  exact (pe_callS F hr hg hm hk hb (passAt tk) ha hdb he hpl).imp fun _ _ _ h => liftD h
theorem ge_callMu (F : Cal c X.prog X.w X.mg X.base k x g) (hr : Room k X.A) (tk : Takes X W) (ha : PA X (e :: es) (TA' c W ma)) (hK : X.K = c.K := by rfl) (hg : Gl X x := by rfl)
    (hdb : (x == ("__debug__" : Str)) = false := by decide) (he : starEach (e :: es) X.env = (false, eval e X.env) :: starEach es X.env := by rfl) (hpl : (backTo pos (starEach es X.env)).any (·.1) = false := by rfl) :
    PE X (.Call (.Name x p) (e :: es) [] pos) (TE' c W (mcall (callM g) ma)) := by
  obtain ⟨f, fd, ps, F, hm, hk, hb⟩ := F.ex
  rw [← hK] at F hk hb
  exact (pe_callS F hr hg hm hk hb (passAt tk) ha hdb he hpl).imp fun _ _ _ h => liftM h
theorem pe_callS0 {CX : CXT} {sp : Sp} {E : St → XK} (F : FnOk X.prog X.w X.K X.mg X.base CX k f fd ps sp) (hr : Room k X.A) (hg : Gl X x) (hm : X.mg x = some (.ref f)) (hk : PySem.W.keepIn X.K (.ref f) = true) (hb : Binds X.K fd ps []) (hx : ∀ σ, PassesAt CX X σ (E σ))
    (hdb : (x == ("__debug__" : Str)) = false := by decide) : PE X (.Call (.Name x p) [] [] pos) (tCallS sp E tNil) := by
  refine ⟨fun pins s σ H Q I h => ?_⟩
  refine wpAny_Call_Name_kw (ld_glob I hg hm ?_ hdb)
  exact PySem.W.callWith_K0 I.kIn hk (run_fnS (us := []) F hr hb (hx σ) I .nil h)
theorem ge_call0 (F : Cal c X.prog X.w X.mg X.base k x g) (hr : Room k X.A) (tk : Takes X W) (hK : X.K = c.K := by rfl) (hg : Gl X x := by rfl)
    (hdb : (x == ("__debug__" : Str)) = false := by decide) : PE X (.Call (.Name x p) [] [] pos) (TE' c W (mcall (callD g) anil)) := by
  obtain ⟨f, fd, ps, F, hm, hk, hb⟩ := F.ex
  rw [← hK] at F hk hb
  refine (pe_callS0 F hr hg hm hk hb (passAt tk) hdb).imp fun σ H Q h => ?_
  have := liftD (ma := anil) h
  obtain ⟨w, sl, e, s, rs, h2⟩ := this
  subst e
  exact h2 w rfl (Ext.refl w) s [] rfl
theorem ge_callMu0 (F : Cal c X.prog X.w X.mg X.base k x g) (hr : Room k X.A) (tk : Takes X W) (hK : X.K = c.K := by rfl) (hg : Gl X x := by rfl)
    (hdb : (x == ("__debug__" : Str)) = false := by decide) : PE X (.Call (.Name x p) [] [] pos) (TE' c W (mcall (callM g) anil)) := by
  obtain ⟨f, fd, ps, F, hm, hk, hb⟩ := F.ex
  rw [← hK] at F hk hb
  refine (pe_callS0 F hr hg hm hk hb (passAt tk) hdb).imp fun σ H Q h => ?_
  have := liftM (ma := anil) h
  obtain ⟨w, sl, e, s, rs, h2⟩ := this
  subst e
  exact h2 w rfl (Ext.refl w) s [] rfl
theorem tk0 {X : Cx} : Takes X W0 := fun _ _ ⟨_, _, _, _, _, _, _, _, _, _, _, _, _, _, _, _, w⟩ => w.elim
end

/-! ### a def -/
def startS (nl : Nat) (vs : List Val) : Sl := vs.map some ++ List.replicate (nl - vs.length) none
/-- np: how many parameters; nl: how many names -/
def defB (np nl : Nat) (b : B) : Sem := fun vs μ => if vs.length = np then (match b (startS nl vs) μ with
  | .nx _ μ' => .ok .non μ'
  | .rt v μ' => .ok v μ'
  | .exc e _ μ' => .exc e μ'
  | _ => .stuck) else .stuck
theorem RSl_none {c : Ct} {w : Wd} : ∀ n : Nat, RSl c w (List.replicate n none) (List.replicate n none)
  | 0 => rfl
  | n + 1 => ⟨none, List.replicate n none, rfl, RSl_none n⟩
theorem RSl_start {c : Ct} {w : Wd} {N : List Str} {nl : Nat} (hn : N.length = nl) : ∀ {vs : List Val} {xs : List V}, RVs c w vs xs → ∀ m, RSl c w (vs.map some ++ List.replicate m none) (xs.map some ++ List.replicate m none)
  | [], _, h, m => by
    have h : _ = [] := h
    subst h
    exact RSl_none m
  | v :: vs, _, ⟨y, r, e, h1, h2⟩, m => by
    subst e
    exact ⟨y, _, rfl, h1, RSl_start hn h2 m⟩
section
variable {c : Ct} {P : Program} {w : World} {mg : Str → Option Value} {base : Heap}
/-- what an exception's way out of a def wishes -/
abbrev WQ (E : XK) : WX := fun cls d _ H => E cls d H
/-- the context of a def's body -/
abbrev bodyX (P : Program) (w : World) (K : PySem.W.Frag) (mg : Str → Option Value) (base : Heap) (N : List Str) (qual : Str) (st : Stmt) (f : Addr) (cdv : Value) (A : Around) (outer : List Env) (s : Shared) (H : Hp) (E : XK) : Cx := cxOf (L2.CX P w) P w K mg base N qual (defScope st) f cdv A outer s H E
theorem def_ok {x qual : Str} {st : Stmt} {f : Addr} {fd : FuncData} {N ps : List Str} {k np nl : Nat} {b : B} (F : Fun c.K x qual st f fd) (S : FnScope N ps (defScope st)) (hp : ps.length = np) (hn : N.length = nl)
    (hb : ∀ (cdv : Value) (A : Around) (outer : List Env) (s : Shared) (H : Hp) (E : XK), Room k (A.deeper (envOfC qual (defScope st) s.heap.objs.size f cdv)) → Takes (bodyX P w c.K mg base N qual st f cdv A outer s H E) (WQ E) →
      PassesOwn (model P w) (bodyX P w c.K mg base N qual st f cdv A outer s H E).A (bodyX P w c.K mg base N qual st f cdv A outer s H E).env (bodyX P w c.K mg base N qual st f cdv A outer s H E).xe →
      PSs (bodyX P w c.K mg base N qual st f cdv A outer s H E) (defBody st) (TS' c (WQ E) b)) : FnOk P w c.K mg base (L2.CX P w) (k + 1) f fd ps (spG c (defB np nl b)) := by
  refine F.okX S (fun vs H Q E h => ?_) (fun cdv A outer s H vs Q E hr h => ?_)
  · obtain ⟨w, us, _, _, r, h⟩ := h
    unfold defB at h
    split at h
    · rename_i hl
      rw [← r.length, hl, hp]
    · exact h.elim
  · refine ⟨_, hb cdv A outer s H E hr (takes_of rfl rfl rfl rfl) (passes_of rfl), ?_⟩
    obtain ⟨w, us, e, sm, r, h⟩ := h
    subst e
    unfold defB at h
    split at h
    · rename_i hl
      refine ⟨w, startS nl us, rfl, sm, ?_, ?_⟩
      · unfold startS L2.start
        rw [r.length, hn]
        exact RSl_start hn r _
      · cases q : b (startS nl us) w.μ with
        | stuck => rw [q] at h; exact h.elim
        | bk _ _ => rw [q] at h; exact h.elim
        | ct _ _ => rw [q] at h; exact h.elim
        | nx sl μ => rw [q] at h; exact fun w' hμ e' s' σ rs => h w' hμ e' s' _ rfl
        | rt v μ => rw [q] at h; exact h
        | exc e sl μ => rw [q] at h; exact fun w' hμ e' s' σ cls d rs rx => h w' hμ e' s' cls d rx
    · exact h.elim
end
end G

/-! G9: in, <, is None, chains. -/
namespace G
open PySem PySem.Spec PyProof.Rows L2

/-! ### in, not in -/
def isIn (x : Val) (xs : List Val) : Bool := xs.any fun y => veq y x
def shps (xs : List Val) : Bool := match deps xs with
  | some n => decide (n ≤ 59)
  | none => false
def strHas (s t : Str) : Bool := !(Builtin.Str.occurrences t s 0 t.length 1).isEmpty
def inB (x y : Val) (μ : Mu) : Option Bool := match look μ y with
  | .lst xs => if shp (look μ x) && shps xs then some (isIn (look μ x) xs) else none
  | .tup xs => if shp (look μ x) && shps xs then some (isIn (look μ x) xs) else none
  | .str t => (match look μ x with
    | .str s => some (strHas s t)
    | _ => none)
  | _ => none
def vIn (x y : Val) (μ : Mu) : Res Val := match inB x y μ with
  | some b => .ok (.bl b) μ
  | none => .stuck
def vNotIn (x y : Val) (μ : Mu) : Res Val := match inB x y μ with
  | some b => .ok (.bl (!b)) μ
  | none => .stuck
theorem nx_In : NoExc2 vIn := fun a b μ e μ' h => by unfold vIn at h; split at h <;> cases h
theorem nx_NotIn : NoExc2 vNotIn := fun a b μ e μ' h => by unfold vNotIn at h; split at h <;> cases h
theorem any_eqv {d : Val} (hd : shp d = true) : ∀ {xs : List Val} {n : Nat}, deps xs = some n → (toDs xs).any (fun z => PyData.eqv z (toD d)) = isIn d xs
  | [], _, _ => rfl
  | x :: xs, n, h => by
    simp only [deps] at h
    cases e1 : dep x with
    | none => rw [e1] at h; cases h
    | some a =>
      cases e2 : deps xs with
      | none => rw [e1, e2] at h; cases h
      | some b =>
        obtain ⟨m, hm⟩ := shp_dep hd
        have := any_eqv hd e2
        unfold isIn at this ⊢
        simp only [toDs, List.any_cons, this, eqv_veq x d a m e1 hm]
theorem deps_shaped {xs : List Val} {n : Nat} (h : deps xs = some n) (hn : n ≤ 59) : SeqAt.shaped (.list (toDs xs)) = true ∧ SeqAt.shaped (.tuple (toDs xs)) = true := by
  have := deps_lay xs n h
  unfold SeqAt.shaped
  simp only [PyData.canLay0, PyData.depth, this.1, Bool.true_and]
  exact ⟨decide_eq_true (by omega), decide_eq_true (by omega)⟩
section
variable {c : Ct} {X : Cx}
theorem room_sh {A : Around} {d : PyData} {n : Nat} (hd : SeqAt.shaped d = true) (hu : A.units + 65 < cLine) : A.units + 1 + min n d.depth < cLine := by
  unfold SeqAt.shaped at hd
  have h := of_decide_eq_true (Bool.and_eq_true_iff.mp hd).2
  have : min n d.depth ≤ d.depth := Nat.min_le_right _ _
  omega
theorem in_run (hK : X.K = c.K) (hu : X.A.units + 65 < cLine) {op : CmpOp} {neg : Bool} (hop : op = if neg then .NotIn else .In) {pins : List (Addr × Obj)} {s : Shared} {σ : St} {w : Wd} {x y : V} {v u : Value} {a b : Val} {Q : VK} {k : Bool} (I : Inv X pins σ w.H s) (rx : RelV x v) (ry : RelV y u) (sm : Sim c w) (r1 : RV c w a x) (r2 : RV c w b y) (e : inB a b w.μ = some k)
    (q : Q (.bl (if neg then !k else k)) w.H) : wpAny (model X.prog X.w) X.A (compareOp op v u) (EP X pins σ Q) X.xe s := by
  unfold inB at e
  split at e
  · rename_i xs e1
    split at e
    · rename_i hs
      cases e
      obtain ⟨h1, h2⟩ := Bool.and_eq_true_iff.mp hs
      unfold shps at h2
      cases hd : deps xs with
      | none => rw [hd] at h2; cases h2
      | some n =>
        rw [hd] at h2
        have hn := of_decide_eq_true h2
        have D1 : Dp X.K w.H x (toD (look w.μ a)) := by rw [hK]; exact look_dp sm r1 h1
        obtain ⟨p, ys, f1, f2, f3⟩ := look_lst sm r2 e1
        have D2 : Dp X.K w.H y (.list (toDs xs)) := by rw [hK, f1]; exact .lst f2 (RVs.dp xs ys n f3 hd)
        obtain ⟨as, R1⟩ := Dp.reads I _ x v D1 rx
        obtain ⟨bs, R2⟩ := Dp.reads I _ y u D2 ry
        have se := (deps_shaped hd hn).1
        have sd := shp_shaped h1
        have ce : PyData.canLayAll0 (toDs xs) = true := SeqAt.canLay_of_shaped se
        rw [← any_eqv h1 hd] at q
        cases neg with
        | false => subst hop; exact SeqAt.in_list_reads R2 R1 ce (SeqAt.canLay_of_shaped sd) (room_sh sd hu) ⟨.bl _, w.H, I, rfl, q⟩
        | true => subst hop; exact SeqAt.notIn_list_reads R2 R1 ce (SeqAt.canLay_of_shaped sd) (room_sh sd hu) ⟨.bl _, w.H, I, rfl, q⟩
    · cases e
  · rename_i xs e1
    split at e
    · rename_i hs
      cases e
      obtain ⟨h1, h2⟩ := Bool.and_eq_true_iff.mp hs
      unfold shps at h2
      cases hd : deps xs with
      | none => rw [hd] at h2; cases h2
      | some n =>
        rw [hd] at h2
        have hn := of_decide_eq_true h2
        have D1 : Dp X.K w.H x (toD (look w.μ a)) := by rw [hK]; exact look_dp sm r1 h1
        obtain ⟨p, ys, f1, f2, f3⟩ := look_tup sm r2 e1
        have D2 : Dp X.K w.H y (.tuple (toDs xs)) := by rw [hK, f1]; exact .tup f2 (RVs.dp xs ys n f3 hd)
        obtain ⟨as, R1⟩ := Dp.reads I _ x v D1 rx
        obtain ⟨bs, R2⟩ := Dp.reads I _ y u D2 ry
        have se := (deps_shaped hd hn).2
        have sd := shp_shaped h1
        have ce : PyData.canLayAll0 (toDs xs) = true := SeqAt.canLay_of_shaped se
        rw [← any_eqv h1 hd] at q
        cases neg with
        | false => subst hop; exact SeqAt.in_tuple_reads R2 R1 ce (SeqAt.canLay_of_shaped sd) (room_sh sd hu) ⟨.bl _, w.H, I, rfl, q⟩
        | true => subst hop; exact SeqAt.notIn_tuple_reads R2 R1 ce (SeqAt.canLay_of_shaped sd) (room_sh sd hu) ⟨.bl _, w.H, I, rfl, q⟩
    · cases e
  · rename_i t e1
    split at e
    · rename_i z e2
      cases e
      have h1 := look_str r1 e2
      have h2 := look_str r2 e1
      cases neg with
      | false => subst hop; exact op_in_str pins s σ w.H x y v u Q I rx ry ⟨z, t, h1, h2, q⟩
      | true => subst hop; exact op_notIn_str pins s σ w.H x y v u Q I rx ry ⟨z, t, h1, h2, q⟩
    · cases e
  · cases e
theorem og_In (hK : X.K = c.K) (hu : X.A.units + 65 < cLine) : OpG c X (compareOp .In) vIn := by
  intro pins s σ H x y v u Q I rx ry ⟨w, a, b, e, sm, r1, r2, h⟩
  subst e
  unfold vIn at h
  split at h
  · rename_i k e
    exact in_run (neg := false) hK hu rfl I rx ry sm r1 r2 e (h.here sm rfl)
  · exact h.elim
theorem og_NotIn (hK : X.K = c.K) (hu : X.A.units + 65 < cLine) : OpG c X (compareOp .NotIn) vNotIn := by
  intro pins s σ H x y v u Q I rx ry ⟨w, a, b, e, sm, r1, r2, h⟩
  subst e
  unfold vNotIn at h
  split at h
  · rename_i k e
    exact in_run (neg := true) hK hu rfl I rx ry sm r1 r2 e (h.here sm rfl)
  · exact h.elim
end

/-! ### is None -/
def isNonB : Val → Bool
  | .non => true
  | _ => false
def vIsN (x y : Val) (μ : Mu) : Res Val := match y with
  | .non => .ok (.bl (isNonB x)) μ
  | _ => .stuck
def vNotN (x y : Val) (μ : Mu) : Res Val := match y with
  | .non => .ok (.bl (!isNonB x)) μ
  | _ => .stuck
theorem nx_IsN : NoExc2 vIsN := fun a b μ e μ' h => by unfold vIsN at h; split at h <;> cases h
theorem nx_NotN : NoExc2 vNotN := fun a b μ e μ' h => by unfold vNotN at h; split at h <;> cases h
theorem isNon_rv {c : Ct} {w : Wd} {a : Val} {x : V} (r : RV c w a x) : decide (x = .non) = isNonB a := by
  cases a with
  | non => rw [show x = V.non from r]; rfl
  | bl b => rw [show x = V.bl b from r]; rfl
  | int b => rw [show x = V.int b from r]; rfl
  | str b => rw [show x = V.str b from r]; rfl
  | tup xs => obtain ⟨a, ys, e, _⟩ := r; rw [e]; rfl
  | lst xs => obtain ⟨a, ys, e, _⟩ := r; rw [e]; rfl
  | rol xs => obtain ⟨a, ys, e, _⟩ := r; rw [e]; rfl
  | ref n => obtain ⟨a, e, _⟩ := r; rw [e]; rfl
  | fn k => obtain ⟨a, e, _⟩ := r; rw [e]; rfl
  | ty n => rw [show x = V.ty n from r]; rfl
  | dct ks vs => obtain ⟨a, ys, e, _⟩ := r; rw [e]; rfl
section
variable {c : Ct} {X : Cx}
theorem og_IsN : OpG c X (compareOp .Is) vIsN := by
  intro pins s σ H x y v u Q I rx ry ⟨w, a, b, e, sm, r1, r2, h⟩
  subst e
  unfold vIsN at h
  split at h
  · exact op_isN pins s σ w.H x y v u Q I rx ry ⟨r2, by rw [isNon_rv r1]; exact h.here sm rfl⟩
  · exact h.elim
theorem og_NotN : OpG c X (compareOp .IsNot) vNotN := by
  intro pins s σ H x y v u Q I rx ry ⟨w, a, b, e, sm, r1, r2, h⟩
  subst e
  unfold vNotN at h
  split at h
  · exact op_notN pins s σ w.H x y v u Q I rx ry ⟨r2, by rw [isNon_rv r1]; exact h.here sm rfl⟩
  · exact h.elim
end

/-! ### <, <=, >, >=: of two ints, of two texts -/
def sLt (s t : Str) : Bool := decide (s.cps.toList < t.cps.toList)
def vLt (x y : Val) (μ : Mu) : Res Val := match x, y with
  | .int i, .int j => .ok (.bl (decide (i < j))) μ
  | .str s, .str t => .ok (.bl (sLt s t)) μ
  | _, _ => .stuck
def vGt (x y : Val) (μ : Mu) : Res Val := match x, y with
  | .int i, .int j => .ok (.bl (decide (j < i))) μ
  | .str s, .str t => .ok (.bl (sLt t s)) μ
  | _, _ => .stuck
def vLe (x y : Val) (μ : Mu) : Res Val := match x, y with
  | .int i, .int j => .ok (.bl (decide (i ≤ j))) μ
  | .str s, .str t => .ok (.bl (!sLt t s)) μ
  | _, _ => .stuck
def vGe (x y : Val) (μ : Mu) : Res Val := match x, y with
  | .int i, .int j => .ok (.bl (decide (j ≤ i))) μ
  | .str s, .str t => .ok (.bl (!sLt s t)) μ
  | _, _ => .stuck
theorem nx_Lt : NoExc2 vLt := fun a b μ e μ' h => by unfold vLt at h; split at h <;> cases h
theorem nx_Gt : NoExc2 vGt := fun a b μ e μ' h => by unfold vGt at h; split at h <;> cases h
theorem nx_Le : NoExc2 vLe := fun a b μ e μ' h => by unfold vLe at h; split at h <;> cases h
theorem nx_Ge : NoExc2 vGe := fun a b μ e μ' h => by unfold vGe at h; split at h <;> cases h
section
variable {c : Ct} {X : Cx}
theorem og_Lt : OpG c X (compareOp .Lt) vLt := by
  intro pins s σ H x y v u Q I rx ry ⟨w, a, b, e, sm, r1, r2, h⟩
  subst e
  unfold vLt at h
  split at h
  · exact op_lt pins s σ w.H x y v u Q I rx ry ⟨_, _, r1, r2, h.here sm rfl⟩
  · exact op_lt_str pins s σ w.H x y v u Q I rx ry ⟨_, _, r1, r2, h.here sm rfl⟩
  · exact h.elim
theorem og_Gt : OpG c X (compareOp .Gt) vGt := by
  intro pins s σ H x y v u Q I rx ry ⟨w, a, b, e, sm, r1, r2, h⟩
  subst e
  unfold vGt at h
  split at h
  · exact op_gt pins s σ w.H x y v u Q I rx ry ⟨_, _, r1, r2, h.here sm rfl⟩
  · exact op_gt_str pins s σ w.H x y v u Q I rx ry ⟨_, _, r1, r2, h.here sm rfl⟩
  · exact h.elim
theorem og_Le : OpG c X (compareOp .LtE) vLe := by
  intro pins s σ H x y v u Q I rx ry ⟨w, a, b, e, sm, r1, r2, h⟩
  subst e
  unfold vLe at h
  split at h
  · exact op_le pins s σ w.H x y v u Q I rx ry ⟨_, _, r1, r2, h.here sm rfl⟩
  · exact op_le_str pins s σ w.H x y v u Q I rx ry ⟨_, _, r1, r2, h.here sm rfl⟩
  · exact h.elim
theorem og_Ge : OpG c X (compareOp .GtE) vGe := by
  intro pins s σ H x y v u Q I rx ry ⟨w, a, b, e, sm, r1, r2, h⟩
  subst e
  unfold vGe at h
  split at h
  · exact op_ge pins s σ w.H x y v u Q I rx ry ⟨_, _, r1, r2, h.here sm rfl⟩
  · exact op_ge_str pins s σ w.H x y v u Q I rx ry ⟨_, _, r1, r2, h.here sm rfl⟩
  · exact h.elim

/-! ### a < b < c -/
def mchain (g g' : Val → Val → Mu → Res Val) (a b d : M Val) : M Val := andThen a fun x => andThen b fun y => andThen (fun _ μ => g x y μ) fun z => match z with
  | .bl true => andThen d fun z => fun _ μ => g' y z μ
  | .bl false => fun _ μ => .ok (.bl false) μ
  | _ => fun _ _ => .stuck
variable {W : WX} {a b d : Expr} {ma mb md : M Val} {pos : Pos}
theorem tr_then {β : Type} {w : Wd} {f : Val → M β} {R : Wd → Res β → Prop} {m : M Val} {sl : Sl} (hexc : ∀ e μ', m sl w.μ ≠ .exc e μ') (hstuck : ¬ R w .stuck)
    (h : R w (andThen m f sl w.μ)) {K : VK}
    (k : ∀ v w', Ext w w' → Sim c w' → R w (f v sl w'.μ) → ∀ x, RV c w' v x → K x w'.H) : Post c w (m sl w.μ) K fun _ _ _ => False := by
  unfold andThen at h
  cases q : m sl w.μ with
  | ok v μ' => rw [q] at h; intro w' hμ e s x rx; subst hμ; exact k v w' e s h x rx
  | exc e μ' => exact absurd q (hexc e μ')
  | stuck => rw [q] at h; exact absurd h hstuck
theorem ge_chain {op op' : CmpOp} {g g' : Val → Val → Mu → Res Val} (ho : OpG c X (compareOp op) g) (n : NoExc2 g) (ho' : OpG c X (compareOp op') g') (n' : NoExc2 g') (ha : PE X a (TE' c W ma)) (hb : PE X b (TE' c W mb)) (hd : PE X d (TE' c W md))
    (hm : lastMarks [op, op'] [b, d] = false := by with_unfolding_all rfl) : PE X (.Compare a [op, op'] [b, d] pos) (TE' c W (mchain g g' ma mb md)) := by
  refine (pe_chain ho ho' ha hb hd hm).imp fun σ H Q ⟨w, sl, e, s, rs, h⟩ => ?_
  subst e
  refine te_then (R := fun w r => Post c w r Q fun cls d H' => W cls d σ H') s rs exc_post (fun z => z) h fun v w1 e1 s1 rs1 h1 x rx => ?_
  refine te_then (R := fun w r => Post c w r Q fun cls d H' => W cls d σ H') s1 rs1 exc_post (fun z => z) (h1.ext e1) fun u w2 e2 s2 rs2 h2 y ry => ?_
  refine ⟨w2, v, u, rfl, s2, RV.ext s1 e2 _ _ rx, ry, ?_⟩
  refine tr_then (m := fun _ μ => g v u μ) (R := fun w r => Post c w r Q fun cls d H' => W cls d σ H') (n _ _ _) (fun z => z) (h2.ext e2) fun z w3 e3 s3 h3 p rp => ?_
  have h3 := h3.ext e3
  have rs3 := rs2.ext s2 e3
  cases z with
  | bl k =>
    refine ⟨k, rp, ?_⟩
    cases k with
    | true =>
      refine iteT ?_
      refine te_then (R := fun w r => Post c w r Q fun cls d H' => W cls d σ H') s3 rs3 exc_post (fun z => z) h3 fun q w4 e4 s4 rs4 h4 y' ry' => ?_
      exact ⟨w4, u, q, rfl, s4, RV.ext s2 (e3.trans e4) _ _ ry, ry', (h4.ext e4).noexc (n' _ _ _)⟩
    | false => exact iteF (h3.here s3 rfl)
  | _ => exact h3.elim
end
end G

/-! G10: exceptions, lists that change. -/
namespace G
open PySem PySem.Spec PyProof.Rows L2

/-! ### raise, try -/
/-- an own exception class without __init__, by its number -/
structure ExcT (c : Ct) (mg : Str → Option Value) (x : Str) (i : Nat) : Prop where
  ex : ∃ C, c.ca i = some C ∧ mg x = some (.ref C) ∧ PySem.W.excIn c.K C [.type "ValueError", .type "Exception", .type "BaseException", .type "object"] "ValueError.__new__" = true ∧ PySem.W.keepIn c.K (.ref C) = true ∧
    PySem.W.subIn c.K (.ref C) (.type "BaseException") = some true ∧ PySem.W.typeIn c.K (.ref C) = some (.type "type")
/-- what 'except x' takes: mt by numbers -/
structure HdlT (c : Ct) (mg : Str → Option Value) (x : Str) (mt : Nat → Option Bool) : Prop where
  ex : ∃ H, mg x = some (.ref H) ∧ ∀ i C b, c.ca i = some C → mt i = some b → PySem.W.exmOne c.K (.ref C) (.ref H) = some b
def sraise (i : Nat) : B := fun sl μ => .exc ⟨i, []⟩ sl μ
/-- try: body except one: suite -/
def stry (mt : Nat → Option Bool) (body suite : B) : B := fun sl μ => match body sl μ with
  | .exc e sl' μ' => (match mt e.c with
    | some true => (match suite sl' μ' with
      | .exc _ _ _ => .stuck
      | r => r)
    | some false => .exc e sl' μ'
    | none => .stuck)
  | r => r
section
variable {c : Ct} {W : WX} {X : Cx} {x m : Str} {i : Nat} {pos p p2 p3 : Pos} {j : Nat}
theorem gs_raise (F : ExcT c X.mg x i) (tk : Takes X W) (hK : X.K = c.K := by rfl) (hc : X.calm = true := by rfl) (hg : Gl X x := by rfl) (hdb : (x == ("__debug__" : Str)) = false := by decide) :
    PS X (.Raise (some (.Call (.Name x p) [.Constant (.str m) j p2] [] p3)) none pos) (TS' c W (sraise i)) := by
  obtain ⟨C, h1, h2, h3, h4, h5, h6⟩ := F.ex
  rw [← hK] at h3 h4 h5 h6
  refine (ps_raise hc tk (pmk_own PySem.F.excBase_ValueError h3 h2 h4 (raises_own h5 h6) hg hdb)).imp fun D σ H ⟨w, sl, e, s, rs, h⟩ => ?_
  subst e
  exact h w rfl (Ext.refl w) s σ _ none rs ⟨C, h1, rfl, .inl ⟨rfl, rfl⟩⟩
theorem gs_try {mt : Nat → Option Bool} {body suite : List Stmt} {b₀ : Stmt} {bb bs : B} (F : HdlT c X.mg x mt) (tk : Takes X W) (hs : X.stack = X.env :: X.outer) (hf : X.env.frame = some X.env.locals)
    (hb : ∀ (W : WX) (pn : List (Addr × Obj)) (xe : Value → Shared → Prop), Takes (X.tr pn xe) W → PassesOwn (model X.prog X.w) X.A X.env xe → PSs (X.tr pn xe) body (TS' c W bb))
    (hsu : ∀ (a : Addr) (pn : List (Addr × Obj)), PSs (X.suite a pn) (b₀ :: suite) (TS' c W0 bs)) (hK : X.K = c.K := by rfl) (hg : Gl X x := by rfl) (hdb : (x == ("__debug__" : Str)) = false := by decide) :
    PS X (.Try body [.ExceptHandler (some (.Name x p)) none (b₀ :: suite) p2] [] [] pos) (TS' c W (stry mt bb bs)) := by
  obtain ⟨Hd, h1, h2⟩ := F.ex
  rw [← hK] at h2
  refine (ps_try_only (c := .ref Hd) hs hf ⟨hg, hdb, .inl h1⟩ tk hb (ts := fun _ _ _ => TS' c W0 bs) (fun a oe cls d pn _ _ => hsu a _)).imp fun D σ H ⟨w, sl, e, s, rs, h⟩ => ⟨w, sl, e, s, rs, ?_⟩
  unfold stry at h
  cases q : bb sl w.μ with
  | exc e sl' μ' =>
    rw [q] at h
    dsimp only at h
    intro w' hμ ext sim σ' cls d rs' rx
    subst hμ
    obtain ⟨C, r1, r2, _⟩ := id rx
    subst r2
    cases qm : mt e.c with
    | none => rw [qm] at h; exact h.elim
    | some b =>
      rw [qm] at h
      refine ⟨b, h2 _ _ _ r1 qm, fun hb a ha => ?_, fun hb => ?_⟩
      · subst hb
        dsimp only at h
        refine ⟨w', sl', rfl, sim, rs', ?_⟩
        have h := PostS.ext h ext
        cases qs : bs sl' w'.μ with
        | exc _ _ _ => rw [qs] at h; exact h.elim
        | nx _ _ => rw [qs] at h; exact h
        | rt _ _ => rw [qs] at h; exact h
        | bk _ _ => rw [qs] at h; exact h
        | ct _ _ => rw [qs] at h; exact h
        | stuck => rw [qs] at h; exact h
      · subst hb
        exact h w' rfl ext sim σ' _ d rs' rx
  | nx _ _ => rw [q] at h; exact h
  | rt _ _ => rw [q] at h; exact h
  | bk _ _ => rw [q] at h; exact h
  | ct _ _ => rw [q] at h; exact h
  | stuck => rw [q] at h; exact h
end

/-! ### methods -/
def MtG (c : Ct) (X : Cx) (id : String) (g : Val → List Val → Mu → Res Val) : Prop :=
  MtR X id fun x xs H Q => ∃ w a vs, w.H = H ∧ Sim c w ∧ RV c w a x ∧ RVs c w vs xs ∧ Post c w (g a vs w.μ) Q fun _ _ _ => False
def MtF (c : Ct) (X : Cx) (id : String) (g : Val → List Val → Mu → Res (List Val)) : Prop :=
  MtR X id fun x xs H Q => ∃ w a vs, w.H = H ∧ Sim c w ∧ RV c w a x ∧ RVs c w vs xs ∧ PostF c w (g a vs w.μ) Q fun _ _ _ => False
def NoExcM {α : Type} (g : Val → List Val → Mu → Res α) : Prop := ∀ a vs μ e μ', g a vs μ ≠ .exc e μ'
/-- which built-in type's methods it has -/
def isTy (T : String) (v : Val) (μ : Mu) : Bool := match look μ v with
  | .lst _ => T == "list"
  | .str _ => T == "str"
  | _ => false
def mmeth {α : Type} (T : String) (g : Val → List Val → Mu → Res α) (o : M Val) (as : M (List Val)) : M α := andThen o fun v => fun sl μ => if isTy T v μ then andThen as (fun vs => fun _ μ => g v vs μ) sl μ else .stuck
section
variable {c : Ct} {W : WX} {X : Cx} {o e : Expr} {es : List Expr} {mo : M Val} {ma : M (List Val)} {name : Str} {apos cpos : Pos} {T id : String}
theorem isTy_tyV {w : Wd} {a : Val} {x : V} (s : Sim c w) (r : RV c w a x) (h : isTy T a w.μ = true) : tyV c.K T x w.H := by
  unfold isTy at h
  split at h
  · rename_i xs e
    obtain ⟨p, ys, rfl, h2, _⟩ := look_lst s r e
    exact .inl ⟨by simpa using h, ys, h2⟩
  · rename_i xs e
    rw [look_str r e]
    exact (show T = "str" from by simpa using h)
  · cases h
theorem liftMt {g : Val → List Val → Mu → Res Val} (n : NoExcM g) {σ : St} {H : Hp} {Q : VK} (h : TE' c W (mmeth T g mo ma) σ H Q) :
    TE' c W mo σ H fun x H1 => tyV c.K T x H1 ∧ TA' c W ma σ H1 fun xs H2 => ∃ w a vs, w.H = H2 ∧ Sim c w ∧ RV c w a x ∧ RVs c w vs xs ∧ Post c w (g a vs w.μ) Q fun _ _ _ => False := by
  obtain ⟨w, sl, e, s, rs, h⟩ := h
  subst e
  refine te_then (R := fun w r => Post c w r Q fun cls d H' => W cls d σ H') s rs exc_post (fun z => z) h fun v w1 e1 s1 rs1 h1 x rx => ?_
  split at h1
  · rename_i ht
    refine ⟨isTy_tyV s1 rx ht, ?_⟩
    refine ta_then (R := fun w r => Post c w r Q fun cls d H' => W cls d σ H') s1 rs1 exc_post (fun z => z) (h1.ext e1) fun vs w2 e2 s2 rs2 h2 xs rxs => ?_
    exact ⟨w2, v, vs, rfl, s2, RV.ext s1 e2 _ _ rx, rxs, (h2.ext e2).noexc (n _ _ _)⟩
  · exact h1.elim
theorem liftMtF {g : Val → List Val → Mu → Res (List Val)} (n : NoExcM g) {σ : St} {H : Hp} {Q : VK} (h : TF' c W (mmeth T g mo ma) σ H Q) :
    TE' c W mo σ H fun x H1 => tyV c.K T x H1 ∧ TA' c W ma σ H1 fun xs H2 => ∃ w a vs, w.H = H2 ∧ Sim c w ∧ RV c w a x ∧ RVs c w vs xs ∧ PostF c w (g a vs w.μ) Q fun _ _ _ => False := by
  obtain ⟨w, sl, e, s, rs, h⟩ := h
  subst e
  refine te_then (R := fun w r => PostF c w r Q fun cls d H' => W cls d σ H') s rs excF_post (fun z => z) h fun v w1 e1 s1 rs1 h1 x rx => ?_
  split at h1
  · rename_i ht
    refine ⟨isTy_tyV s1 rx ht, ?_⟩
    refine ta_then (R := fun w r => PostF c w r Q fun cls d H' => W cls d σ H') s1 rs1 excF_post (fun z => z) (h1.ext e1) fun vs w2 e2 s2 rs2 h2 xs rxs => ?_
    exact ⟨w2, v, vs, rfl, s2, RV.ext s1 e2 _ _ rx, rxs, (h2.ext e2).noexc (n _ _ _)⟩
  · exact h1.elim
theorem ge_bm {g : Val → List Val → Mu → Res Val} (pa : PlainAttrs T) (slot : Slot T name id) (hty : typeOf (.builtin id) = pure (.type "method_descriptor")) (hm : MtG c X id g) (n : NoExcM g) (ho : PE X o (TE' c W mo)) (ha : PA X (e :: es) (TA' c W ma)) (hK : X.K = c.K := by rfl)
    (hbase : attributeBase o name X.env (eval o X.env) = eval o X.env := by rfl)
    (hfew : ((backTo cpos (starEach (e :: es) X.env)).all (fun x => !x.1) && (backToKw cpos (keywordEach [] X.env)).all (fun x => x.1.isSome)
      && decide ((e :: es).length + ([] : List Keyword).length + (if ([] : List Keyword).isEmpty then 0 else 1) < 30)) = true := by rfl)
    (hline : (apos.endLine == cpos.line) = true := by rfl) (hs : starEach (e :: es) X.env = (false, eval e X.env) :: starEach es X.env := by rfl) (hplain : (backTo cpos (starEach es X.env)).any (·.1) = false := by rfl) :
    PE X (.Call (.Attribute o name apos) (e :: es) [] cpos) (TE' c W (mmeth T g mo ma)) := by
  refine (pe_bm pa slot hty hm ho ha hbase hfew hline hs hplain).imp fun σ H Q h => ?_
  have h := liftMt n h
  rw [← hK] at h
  exact h
theorem gf_bm {g : Val → List Val → Mu → Res (List Val)} (pa : PlainAttrs T) (slot : Slot T name id) (hty : typeOf (.builtin id) = pure (.type "method_descriptor")) (hm : MtF c X id g) (n : NoExcM g) (ho : PE X o (TE' c W mo)) (ha : PA X (e :: es) (TA' c W ma)) (hK : X.K = c.K := by rfl)
    (hbase : attributeBase o name X.env (eval o X.env) = eval o X.env := by rfl)
    (hfew : ((backTo cpos (starEach (e :: es) X.env)).all (fun x => !x.1) && (backToKw cpos (keywordEach [] X.env)).all (fun x => x.1.isSome)
      && decide ((e :: es).length + ([] : List Keyword).length + (if ([] : List Keyword).isEmpty then 0 else 1) < 30)) = true := by rfl)
    (hline : (apos.endLine == cpos.line) = true := by rfl) (hs : starEach (e :: es) X.env = (false, eval e X.env) :: starEach es X.env := by rfl) (hplain : (backTo cpos (starEach es X.env)).any (·.1) = false := by rfl) :
    PE X (.Call (.Attribute o name apos) (e :: es) [] cpos) (TF' c W (mmeth T g mo ma)) := by
  refine (pe_bm pa slot hty hm ho ha hbase hfew hline hs hplain).imp fun σ H Q h => ?_
  have h := liftMtF n h
  rw [← hK] at h
  exact h
theorem ge_bm0 {g : Val → List Val → Mu → Res Val} (pa : PlainAttrs T) (slot : Slot T name id) (hty : typeOf (.builtin id) = pure (.type "method_descriptor")) (hm : MtG c X id g) (n : NoExcM g) (ho : PE X o (TE' c W mo)) (hK : X.K = c.K := by rfl)
    (hbase : attributeBase o name X.env (eval o X.env) = eval o X.env := by rfl) (hline : (apos.endLine == cpos.line) = true := by rfl) :
    PE X (.Call (.Attribute o name apos) [] [] cpos) (TE' c W (mmeth T g mo anil)) := by
  refine (pe_bm0 pa slot hty hm ho hbase hline).imp fun σ H Q h => ?_
  have h := liftMt n h
  rw [← hK] at h
  obtain ⟨w, sl, e, s, rs, h'⟩ := h
  subst e
  refine ⟨w, sl, rfl, s, rs, ?_⟩
  cases q : mo sl w.μ with
  | stuck => rw [q] at h'; exact h'
  | exc e μ' => rw [q] at h'; exact h'
  | ok v μ' =>
    rw [q] at h'
    intro w1 hμ e1 s1 x rx
    obtain ⟨h1, w2, sl2, e2, s2, rs2, h2⟩ := h' w1 hμ e1 s1 x rx
    refine ⟨h1, ?_⟩
    rw [← e2]
    exact h2 w2 rfl (Ext.refl w2) s2 [] rfl
theorem gf_bm0 {g : Val → List Val → Mu → Res (List Val)} (pa : PlainAttrs T) (slot : Slot T name id) (hty : typeOf (.builtin id) = pure (.type "method_descriptor")) (hm : MtF c X id g) (n : NoExcM g) (ho : PE X o (TE' c W mo)) (hK : X.K = c.K := by rfl)
    (hbase : attributeBase o name X.env (eval o X.env) = eval o X.env := by rfl) (hline : (apos.endLine == cpos.line) = true := by rfl) :
    PE X (.Call (.Attribute o name apos) [] [] cpos) (TF' c W (mmeth T g mo anil)) := by
  refine (pe_bm0 pa slot hty hm ho hbase hline).imp fun σ H Q h => ?_
  have h := liftMtF n h
  rw [← hK] at h
  obtain ⟨w, sl, e, s, rs, h'⟩ := h
  subst e
  refine ⟨w, sl, rfl, s, rs, ?_⟩
  cases q : mo sl w.μ with
  | stuck => rw [q] at h'; exact h'
  | exc e μ' => rw [q] at h'; exact h'
  | ok v μ' =>
    rw [q] at h'
    intro w1 hμ e1 s1 x rx
    obtain ⟨h1, w2, sl2, e2, s2, rs2, h2⟩ := h' w1 hμ e1 s1 x rx
    refine ⟨h1, ?_⟩
    rw [← e2]
    exact h2 w2 rfl (Ext.refl w2) s2 [] rfl
end

/-! ### lists that change -/
/-- the items of a list that stands in the heap -/
def itemsH (a : Val) (μ : Mu) : Option (List Val) := match a with
  | .ref n => (match μ[n]? with | some (.lst ys) => some ys | _ => none)
  | .lst ys => some ys
  | _ => none
section
variable {c : Ct} {w : Wd} {Q : VK} {E : XK}
/-- the list at n becomes xs' -/
theorem Post.setL {n : Nat} {p : Addr} {xs' : List Val} {ys' : List V} {v : Val} {x : V} (h : Post c w (.ok v (w.μ.set n (.lst xs'))) Q E) (s : Sim c w) (hp : w.ρ[n]? = some p) (r : RVs c w xs' ys') (rv : RV c w v x) : Q x (upd w.H p (.lst ys')) := by
  have e : Ext w { w with μ := w.μ.set n (.lst xs'), H := upd w.H p (.lst ys') } := set_ext hp
  exact h { w with μ := w.μ.set n (.lst xs'), H := upd w.H p (.lst ys') } rfl e (set_sim s hp ⟨ys', upd_same, RVs.ext s e _ _ r⟩) x (RV.ext s e _ _ rv)
theorem ref_lst (s : Sim c w) {n : Nat} {x : V} {xs : List Val} (r : RV c w (.ref n) x) (h : w.μ[n]? = some (.lst xs)) : ∃ p ys, x = .ref p ∧ w.ρ[n]? = some p ∧ w.H p = some (.lst ys) ∧ RVs c w xs ys := by
  obtain ⟨p, e, hp⟩ := r
  obtain ⟨ys, h1, h2⟩ := s.ob n p _ hp h
  exact ⟨p, ys, e, hp, h1, h2⟩
end
def vAppend (a : Val) (vs : List Val) (μ : Mu) : Res Val := match a, vs with
  | .ref n, [y] => (match μ[n]? with
    | some (.lst xs) => if xs.length < LIM then .ok .non (μ.set n (.lst (xs ++ [y]))) else .stuck
    | _ => .stuck)
  | _, _ => .stuck
def vExtend (a : Val) (vs : List Val) (μ : Mu) : Res Val := match a, vs with
  | .ref n, [y] => (match μ[n]?, itemsH y μ with
    | some (.lst xs), some zs => if xs.length + zs.length ≤ LIM then .ok .non (μ.set n (.lst (xs ++ zs))) else .stuck
    | _, _ => .stuck)
  | _, _ => .stuck
def vPop (a : Val) (vs : List Val) (μ : Mu) : Res Val := match a, vs with
  | .ref n, [] => (match μ[n]? with
    | some (.lst xs) => (match xs[xs.length - 1]? with
      | some y => .ok y (μ.set n (.lst xs.dropLast))
      | none => .stuck)
    | _ => .stuck)
  | _, _ => .stuck
def vPopAt (a : Val) (vs : List Val) (μ : Mu) : Res Val := match a, vs with
  | .ref n, [.int i] => (match μ[n]? with
    | some (.lst xs) => if small62 i then (match seqIndex? i xs.length with
      | some k => (match xs[k]? with
        | some y => .ok y (μ.set n (.lst (xs.eraseIdx k)))
        | none => .stuck)
      | none => .stuck) else .stuck
    | _ => .stuck)
  | _, _ => .stuck
def vReverse (a : Val) (vs : List Val) (μ : Mu) : Res Val := match a, vs with
  | .ref n, [] => (match μ[n]? with
    | some (.lst xs) => .ok .non (μ.set n (.lst xs.reverse))
    | _ => .stuck)
  | _, _ => .stuck
def vInsert (a : Val) (vs : List Val) (μ : Mu) : Res Val := match a, vs with
  | .ref n, [.int i, y] => (match μ[n]? with
    | some (.lst xs) => if 0 ≤ i ∧ small62 i ∧ xs.length < LIM then .ok .non (μ.set n (.lst (xs.take i.toNat ++ [y] ++ xs.drop i.toNat))) else .stuck
    | _ => .stuck)
  | _, _ => .stuck
theorem nx_Append : NoExcM vAppend := fun a vs μ e μ' h => by
  unfold vAppend at h
  split at h
  · split at h
    · split at h <;> cases h
    · cases h
  · cases h
theorem nx_Extend : NoExcM vExtend := fun a vs μ e μ' h => by
  unfold vExtend at h
  split at h
  · split at h
    · split at h <;> cases h
    · cases h
  · cases h
theorem nx_Pop : NoExcM vPop := fun a vs μ e μ' h => by
  unfold vPop at h
  split at h
  · split at h
    · split at h <;> cases h
    · cases h
  · cases h
theorem nx_PopAt : NoExcM vPopAt := fun a vs μ e μ' h => by
  unfold vPopAt at h
  split at h
  · split at h
    · split at h
      · split at h
        · split at h <;> cases h
        · cases h
      · cases h
    · cases h
  · cases h
theorem nx_Reverse : NoExcM vReverse := fun a vs μ e μ' h => by
  unfold vReverse at h
  split at h
  · split at h <;> cases h
  · cases h
theorem nx_Insert : NoExcM vInsert := fun a vs μ e μ' h => by
  unfold vInsert at h
  split at h
  · split at h
    · split at h <;> cases h
    · cases h
  · cases h
section
variable {c : Ct} {X : Cx}
theorem itemsH_H {w : Wd} (s : Sim c w) {a : Val} {x : V} {xs : List Val} (r : RV c w a x) (h : itemsH a w.μ = some xs) : ∃ p ys, x = .ref p ∧ w.H p = some (.lst ys) ∧ RVs c w xs ys := by
  unfold itemsH at h
  split at h
  · rename_i n
    split at h
    · rename_i ys q
      cases h
      obtain ⟨p, zs, e, _, h1, h2⟩ := ref_lst s r q
      exact ⟨p, zs, e, h1, h2⟩
    · cases h
  · rename_i ys
    cases h
    obtain ⟨p, zs, e, h1, h2⟩ := r
    exact ⟨p, zs, e, h1.1, h2⟩
  · cases h
theorem mg_Append : MtG c X "list.append" vAppend := by
  intro pins s σ H x xs v us Q I rx rv ⟨w, a, vs, e, sm, r1, r2, h⟩
  subst e
  unfold vAppend at h
  split at h
  · rename_i n y
    split at h
    · rename_i zs q
      split at h
      · rename_i hl
        obtain ⟨p, ys, rfl, hp, h1, h2⟩ := ref_lst sm r1 q
        obtain ⟨z, rfl, rz⟩ := r2.one
        exact mt_append pins s σ w.H _ _ v us Q I rx rv ⟨p, ys, z, rfl, rfl, h1, by rw [← h2.length, ← LIM_eq]; exact hl, h.setL sm hp (h2.append ⟨z, [], rfl, rz, rfl⟩) rfl⟩
      · exact h.elim
    · exact h.elim
  · exact h.elim
theorem mg_Extend : MtG c X "list.extend" vExtend := by
  intro pins s σ H x xs v us Q I rx rv ⟨w, a, vs, e, sm, r1, r2, h⟩
  subst e
  unfold vExtend at h
  split at h
  · rename_i n y
    split at h
    · rename_i zs ws q q2
      split at h
      · rename_i hl
        obtain ⟨p, ys, rfl, hp, h1, h2⟩ := ref_lst sm r1 q
        obtain ⟨z, rfl, rz⟩ := r2.one
        obtain ⟨b, ks, rfl, h3, h4⟩ := itemsH_H sm rz q2
        exact mt_extend pins s σ w.H _ _ v us Q I rx rv ⟨p, b, ys, ks, rfl, rfl, h1, h3, by rw [← h2.length, ← h4.length, ← LIM_eq]; exact hl, h.setL sm hp (h2.append h4) rfl⟩
      · exact h.elim
    · exact h.elim
  · exact h.elim
theorem mg_Pop : MtG c X "list.pop" vPop := by
  intro pins s σ H x xs v us Q I rx rv ⟨w, a, vs, e, sm, r1, r2, h⟩
  subst e
  unfold vPop at h
  split at h
  · rename_i n
    split at h
    · rename_i zs q
      split at h
      · rename_i y hy
        obtain ⟨p, ys, rfl, hp, h1, h2⟩ := ref_lst sm r1 q
        obtain ⟨z, hz, rz⟩ := h2.get hy
        rw [h2.length] at hz
        exact mt_pop pins s σ w.H _ _ v us Q I rx rv ⟨p, ys, z, rfl, r2, h1, hz, h.setL sm hp h2.dropLast rz⟩
      · exact h.elim
    · exact h.elim
  · exact h.elim
theorem mg_PopAt : MtG c X "list.pop" vPopAt := by
  intro pins s σ H x xs v us Q I rx rv ⟨w, a, vs, e, sm, r1, r2, h⟩
  subst e
  unfold vPopAt at h
  split at h
  · rename_i n i
    split at h
    · rename_i zs q
      split at h
      · rename_i hi
        split at h
        · rename_i k hk
          split at h
          · rename_i y hy
            obtain ⟨p, ys, rfl, hp, h1, h2⟩ := ref_lst sm r1 q
            obtain ⟨z, hz, rz⟩ := h2.get hy
            obtain ⟨z', rfl, rz'⟩ := r2.one
            obtain ⟨i1, i2⟩ := small62_iff hi
            have rz' : z' = V.int i := rz'
            subst rz'
            exact mt_popAt pins s σ w.H _ _ v us Q I rx rv ⟨p, ys, i, k, z, rfl, rfl, h1, by omega, by omega, by rw [← h2.length]; exact hk, hz, h.setL sm hp (h2.eraseIdx k) rz⟩
          · exact h.elim
        · exact h.elim
      · exact h.elim
    · exact h.elim
  · exact h.elim
theorem mg_Reverse : MtG c X "list.reverse" vReverse := by
  intro pins s σ H x xs v us Q I rx rv ⟨w, a, vs, e, sm, r1, r2, h⟩
  subst e
  unfold vReverse at h
  split at h
  · rename_i n
    split at h
    · rename_i zs q
      obtain ⟨p, ys, rfl, hp, h1, h2⟩ := ref_lst sm r1 q
      exact mt_reverse pins s σ w.H _ _ v us Q I rx rv ⟨p, ys, rfl, r2, h1, h.setL sm hp h2.reverse rfl⟩
    · exact h.elim
  · exact h.elim
theorem mg_Insert : MtG c X "list.insert" vInsert := by
  intro pins s σ H x xs v us Q I rx rv ⟨w, a, vs, e, sm, r1, r2, h⟩
  subst e
  unfold vInsert at h
  split at h
  · rename_i n i y
    split at h
    · rename_i zs q
      split at h
      · rename_i hl
        obtain ⟨p, ys, rfl, hp, h1, h2⟩ := ref_lst sm r1 q
        obtain ⟨z1, z, rfl, r3, rz⟩ := r2.two
        have r3 : z1 = V.int i := r3
        subst r3
        obtain ⟨i1, i2⟩ := small62_iff hl.2.1
        exact mt_insert pins s σ w.H _ _ v us Q I rx rv ⟨p, ys, i, z, rfl, rfl, h1, by rw [← h2.length, ← LIM_eq]; exact hl.2.2, hl.1, by omega, h.setL sm hp (((h2.take _).append (show RVs c w [y] [z] from ⟨z, [], rfl, rz, rfl⟩)).append (h2.drop _)) rfl⟩
      · exact h.elim
    · exact h.elim
  · exact h.elim

/-! ### list + list, list * int: new lists -/
def OpF (c : Ct) (X : Cx) (f : Value → Value → PySem.Sem Value) (g : Val → Val → Mu → Res (List Val)) : Prop :=
  OpR X f fun x y H Q => ∃ w a b, w.H = H ∧ Sim c w ∧ RV c w a x ∧ RV c w b y ∧ PostF c w (g a b w.μ) Q fun _ _ _ => False
def NoExc2F (g : Val → Val → Mu → Res (List Val)) : Prop := ∀ a b μ e μ', g a b μ ≠ .exc e μ'
def mop2F (g : Val → Val → Mu → Res (List Val)) (a b : M Val) : M (List Val) := andThen a fun x => andThen b fun y => fun _ μ => g x y μ
def vCat (x y : Val) (μ : Mu) : Res (List Val) := match itemsH x μ, itemsH y μ with
  | some xs, some ys => if xs.length + ys.length ≤ LIM then .ok (xs ++ ys) μ else .stuck
  | _, _ => .stuck
def vRep (x y : Val) (μ : Mu) : Res (List Val) := match itemsH x μ, y with
  | some xs, .int k => if small62 k ∧ xs.length * k.toNat ≤ LIM then .ok (List.replicate k.toNat xs).flatten μ else .stuck
  | _, _ => .stuck
theorem nx_Cat : NoExc2F vCat := fun a b μ e μ' h => by
  unfold vCat at h
  split at h
  · split at h <;> cases h
  · cases h
theorem nx_Rep : NoExc2F vRep := fun a b μ e μ' h => by
  unfold vRep at h
  split at h
  · split at h <;> cases h
  · cases h
theorem of_Cat : OpF c X (binaryOp .Add) vCat := by
  intro pins s σ H x y v u Q I rx ry ⟨w, a, b, e, sm, r1, r2, h⟩
  subst e
  unfold vCat at h
  split at h
  · rename_i xs ys q1 q2
    split at h
    · rename_i hl
      obtain ⟨p, zs, rfl, h1, h2⟩ := itemsH_H sm r1 q1
      obtain ⟨p2, zs2, rfl, h3, h4⟩ := itemsH_H sm r2 q2
      exact op_cat pins s σ w.H _ _ v u Q I rx ry ⟨p, p2, zs, zs2, rfl, rfl, h1, h3, by rw [← h2.length, ← h4.length, ← LIM_eq]; exact hl, fun D hD => h.new sm (h2.append h4) hD⟩
    · exact h.elim
  · exact h.elim
theorem RVs.rep {w : Wd} {xs : List Val} {ys : List V} (r : RVs c w xs ys) : ∀ n : Nat, RVs c w (List.replicate n xs).flatten (List.replicate n ys).flatten
  | 0 => (rfl : ([] : List V) = [])
  | n + 1 => by
    rw [List.replicate_succ, List.replicate_succ, List.flatten_cons, List.flatten_cons]
    exact r.append (RVs.rep r n)
theorem of_Rep : OpF c X (binaryOp .Mult) vRep := by
  intro pins s σ H x y v u Q I rx ry ⟨w, a, b, e, sm, r1, r2, h⟩
  subst e
  unfold vRep at h
  split at h
  · rename_i xs k q1
    split at h
    · rename_i hl
      obtain ⟨p, zs, rfl, h1, h2⟩ := itemsH_H sm r1 q1
      have r2 : y = V.int k := r2
      subst r2
      obtain ⟨i1, i2⟩ := small62_iff hl.1
      exact op_rep pins s σ w.H _ _ v u Q I rx ry ⟨p, k, zs, rfl, rfl, h1, by omega, by omega, by rw [← h2.length, ← LIM_eq]; exact hl.2, fun D hD => h.new sm (h2.rep _) hD⟩
    · exact h.elim
  · exact h.elim
variable {W : WX} {a b : Expr} {ma mb : M Val} {pos : Pos}
theorem gf_op {op : Operator} {g : Val → Val → Mu → Res (List Val)} (ho : OpF c X (binaryOp op) g) (n : NoExc2F g) (ha : PE X a (TE' c W ma)) (hb : PE X b (TE' c W mb)) : PE X (.BinOp a op b pos) (TF' c W (mop2F g ma mb)) := by
  refine (pe_op ho ha hb).imp fun σ H Q ⟨w, sl, e, s, rs, h⟩ => ?_
  subst e
  refine te_then (R := fun w r => PostF c w r Q fun cls d H' => W cls d σ H') s rs excF_post (fun z => z) h fun v w1 e1 s1 rs1 h1 x rx => ?_
  refine te_then (R := fun w r => PostF c w r Q fun cls d H' => W cls d σ H') s1 rs1 excF_post (fun z => z) (h1.ext e1) fun u w2 e2 s2 rs2 h2 y ry => ?_
  exact ⟨w2, v, u, rfl, s2, RV.ext s1 e2 _ _ rx, ry, (h2.ext e2).noexc (n _ _ _)⟩
end
end G

/-! G11: sorted, min, max of data. -/
namespace G.Raw
open PySem PySem.W PySem.Calls PyProof.Rows
section
variable {prog : Program} {w : World} {A : Around} {E : Value → Shared → Prop} {s : Shared}
theorem collect_tupleG {l : Addr} {vs : List Value} {Q : List Value → Shared → Prop} (hl : s.heap.IsTuple l vs.toArray)
    (h : Q vs { s with heap := (s.heap.push (seqObj "list" #[] 0)).update s.heap.objs.size (Obj.mapSeq (· ++ vs.toArray)) }) (hsz : vs.length ≤ sizeLine) :
    wpAny (model prog w) A (collect (.ref l)) Q E s := by
  obtain ⟨o, ho, hc, n, hd⟩ := id hl
  unfold collect
  refine wpAny_bind (wpAny_runValue (codeAny_builtin entry_proto_collect' ?_))
  show wpAny _ _ (do again (.builtin "list.__iadd__" ⟨[← newList [], .ref l], []⟩)) _ _ s
  refine wpAny_bind (wpAny_newList (wpAny_pure ⟨Code.quiet_builtin _ (by decide +kernel), codeAny_builtin entry_list_iadd' ?_⟩))
  show wpAny _ _ (Builtin.List.listExtendWith (.ref s.heap.objs.size) (.ref l) (.ref s.heap.objs.size)) _ _ { s with heap := s.heap.push (seqObj "list" #[] 0) }
  unfold Builtin.List.listExtendWith
  have ho' : (s.heap.push (seqObj "list" #[] 0)).get? l = some o := Heap.get?_push_of_some _ ho
  refine wpAny_bind (wpAny_typeOf (T := "tuple") ⟨o, ho', hc⟩ ?_)
  have ht : (Value.type "tuple" == Value.type "tuple") = true := by rfl
  rw [if_pos (by rw [ht]; simp)]
  refine wpAny_bind (listItems_at ho' hd ?_)
  refine wpAny_bind (listItems_at (xs := #[]) (n := 0) (Heap.get?_push_size _ rfl) rfl ?_)
  rw [if_neg (by simp)]
  refine wpAny_bind (listUpdate_at (xs := #[]) (n := 0) (Heap.get?_push_size _ rfl) rfl ?_ (Nat.zero_le _) (by show (#[] ++ vs.toArray).size ≤ sizeLine + 1; simp only [Array.size_append, List.size_toArray, List.length_nil]; omega))
  refine wpAny_pure ?_
  show wpAny (model prog w) A (do
      let o ← load s.heap.objs.size
      match o.data with
      | .seq xs _ => pure xs.toList
      | _ => unsupported "internal:collect") Q E { s with heap := (s.heap.push (seqObj "list" #[] 0)).update s.heap.objs.size (Obj.mapSeq (· ++ vs.toArray)) }
  refine wpAny_bind (wpAny_load (get?_update_seq (Heap.get?_push_size _ rfl) _) ?_)
  show wpAny _ _ (pure ((#[] : Array Value) ++ vs.toArray).toList) Q E _
  rw [show ((#[] : Array Value) ++ vs.toArray).toList = vs by simp]
  exact wpAny_pure h
theorem sorted_of_sortT {l : Addr} {vs : List Value} {kw : List (Str × Value)} {Q : Value → Shared → Prop} (hl : s.heap.IsTuple l vs.toArray) (hL : vs.length ≤ sizeLine) (ha1 : argsOk "sorted" ⟨[.ref l], kw⟩) (ha2 : ∀ x, argsOk "list.sort" ⟨[.ref x], kw⟩)
    (body : ∀ E' : Value → Shared → Prop, wpAny (model prog w) A.in1.in1 (Builtin.«list.sort» ⟨[.ref (s.heap.objs.size + 1)], kw⟩) (fun f s' => f = .done (.ret .none) ∧ Q (.ref (s.heap.objs.size + 1)) s') E' { s with heap := copyHeap s.heap vs }) :
    wpAny (model prog w) A (call (.builtin "sorted") [.ref l] kw) Q E s := by
  refine call_function_entry_kw kind_sorted plain_sorted entry_sorted ha1 ?_
  unfold Builtin.«sorted»
  refine wpAny_bind (m := checkCount "sorted" 1 1 _) (wpAny_pure ?_)
  refine wpAny_bind (collect_tupleG hl ?_ hL)
  refine wpAny_bind (wpAny_newList ?_ hL)
  have hsz : ((s.heap.push (seqObj "list" #[] 0)).update s.heap.objs.size (Obj.mapSeq (· ++ vs.toArray))).objs.size = s.heap.objs.size + 1 := by
    rw [Heap.size_update, size_push']
  show wpAny _ _ _ _ _ { s with heap := copyHeap s.heap vs }
  rw [hsz]
  refine wpAny_bind (wpAny_holding (wpAny_call_entry_kw slot_list_sort ⟨_, copyHeap_at s.heap vs, rfl⟩ entry_list_sort ?body (ha2 _)))
  case body =>
    show wpAny (model prog w) A.in1.in1 (Builtin.«list.sort» ⟨[.ref (s.heap.objs.size + 1)], kw⟩) _ _ _
    refine wpAny_mono (body _) (fun f s' hf => ?_) fun _ _ e => e
    obtain ⟨rfl, hq⟩ := hf
    exact ⟨_, rfl, wpAny_pure ⟨_, rfl, hq⟩⟩
theorem sorted_dataT {β : Type} {vs : List Value} {bs : List β} {enc : β → PyData} {R : Value → β → Prop} {l : Addr} {Q : Value → Shared → Prop} (hl : s.heap.IsTuple l vs.toArray) (e : EachIs R vs bs) (er : EachIs (fun v b => ∃ as, Reads s.heap v (enc b) as) vs bs) (hal : AllAlike (bs.map enc)) (hk : Sortable (bs.map enc)) (hL : bs.length ≤ sizeLine)
    (hu : ∀ b, b ∈ bs → A.units + 2 + (enc b).depth < cLine) (h : ∀ out, out.length = bs.length → EachIs R out (bs.mergeSort (dataLe false enc)) → Q (.ref (s.heap.objs.size + 1)) { s with heap := sortedAll s.heap vs (List.toArray out) }) :
    wpAny (model prog w) A (call (.builtin "sorted") [.ref l]) Q E s := by
  have er' : EachIs (fun v b => ∃ as, Reads (sortingHeap (copyHeap s.heap vs) (s.heap.objs.size + 1) vs) v (enc b) as) vs bs := er.mono fun _ _ ⟨as, r⟩ => ⟨as, PyProof.Rows.Reads.keeps (fun _ _ => sorting_copy_old) r⟩
  have hL' : vs.length ≤ sizeLine := by rw [e.length]; exact hL
  have S := SortsAt.data (prog := prog) (w := w) (A := A.in1.in1) (s := { s with heap := sortingHeap (copyHeap s.heap vs) (s.heap.objs.size + 1) vs }) (each_map (R := fun v d => ∃ as, Reads (sortingHeap (copyHeap s.heap vs) (s.heap.objs.size + 1) vs) v d as) enc er') hal hk (bound_map hu)
  exact sorted_of_sortT hl hL' (args_sorted1 _) (fun _ => args_list_sort _) fun _ => list_sort_vals (s := { s with heap := copyHeap s.heap vs }) (copyHeap_at s.heap vs) S hL' ⟨rfl, h _ (by rw [sortVals_length false rfl]; exact e.length) (sortVals_data false e er' hal)⟩
end
end G.Raw
namespace G
open PySem PySem.Spec PyProof.Rows L2
open PySem.W (alike alikeAll dataLt dataLe keyToks AllAlike AlikeAll EachIs)

def vltD (x y : Val) : Bool := dataLt (toD x) (toD y)
def alikeVs (xs : List Val) : Bool := xs.all fun x => xs.all fun y => alike (toD x) (toD y)
def isTupC : Val → Bool
  | .tup (_ :: _) => true
  | _ => false
def notTup : Val → Bool
  | .tup _ => false
  | .non => false
  | _ => true
def notNon : Val → Bool
  | .non => false
  | _ => true
def sortOk (xs : List Val) : Bool := shps xs && decide (xs.length ≤ LIM) && alikeVs xs && (xs.all isTupC || xs.all notTup)
def cmpOk (xs : List Val) : Bool := shps xs && alikeVs xs && xs.all notNon
def insV (x : Val) : List Val → List Val
  | [] => [x]
  | y :: ys => if vltD y x then y :: insV x ys else x :: y :: ys
/-- sorted -/
def srt : List Val → List Val
  | [] => []
  | x :: xs => insV x (srt xs)
def minV (x : Val) (xs : List Val) : Val := xs.foldl (fun a y => if vltD y a then y else a) x
def maxV (x : Val) (xs : List Val) : Val := xs.foldl (fun a y => if vltD a y then y else a) x

/-! ### the insertion sort is the stable sort -/
abbrev leD : Val → Val → Bool := dataLe false toD
theorem leD_eq (a b : Val) : leD a b = !vltD b a := rfl
theorem leD_tot : PySem.W.TotalLe leD := PySem.W.sortLe_total _ _ _
theorem insV_perm (x : Val) : ∀ l : List Val, (insV x l).Perm (x :: l)
  | [] => List.Perm.refl _
  | y :: ys => by
    unfold insV
    split
    · exact ((insV_perm x ys).cons y).trans (List.Perm.swap x y ys)
    · exact List.Perm.refl _
theorem insV_sorted (x : Val) : ∀ l : List Val, l.Pairwise (fun a b => leD a b = true) → (insV x l).Pairwise (fun a b => leD a b = true)
  | [], _ => List.pairwise_singleton _ _
  | y :: ys, h => by
    obtain ⟨h1, h2⟩ := List.pairwise_cons.mp h
    unfold insV
    split
    · rename_i hl
      refine List.pairwise_cons.mpr ⟨fun z hz => ?_, insV_sorted x ys h2⟩
      rcases List.mem_cons.mp ((insV_perm x ys).mem_iff.mp hz) with e | e
      · rw [e]
        rcases leD_tot.total y x with q | q
        · exact q
        · rw [leD_eq, hl] at q; cases q
      · exact h1 z e
    · rename_i hl
      have hl : vltD y x = false := by simpa using hl
      have hxy : leD x y = true := by rw [leD_eq, hl]; rfl
      exact List.pairwise_cons.mpr ⟨fun z hz => (List.mem_cons.mp hz).elim (fun e => by rw [e]; exact hxy) fun e => leD_tot.trans _ _ _ hxy (h1 z e), h⟩
theorem insV_stable (c x : Val) : ∀ l : List Val, (insV x l).filter (PySem.W.sameRank leD c) = (x :: l).filter (PySem.W.sameRank leD c)
  | [] => rfl
  | y :: ys => by
    unfold insV
    split
    · rename_i hl
      rw [List.filter_cons, insV_stable c x ys]
      by_cases hy : PySem.W.sameRank leD c y = true
      · rw [if_pos hy]
        have hx : ¬ PySem.W.sameRank leD c x = true := fun hx => by
          unfold PySem.W.sameRank at hx hy
          rw [Bool.and_eq_true] at hx hy
          have := leD_tot.trans _ _ _ hx.2 hy.1
          rw [leD_eq, hl] at this
          cases this
        rw [List.filter_cons_of_neg hx, List.filter_cons_of_neg hx, List.filter_cons_of_pos hy]
      · rw [if_neg hy, List.filter_cons, List.filter_cons, List.filter_cons_of_neg hy]
    · rfl
theorem srt_sorted : ∀ l : List Val, (srt l).Pairwise (fun a b => leD a b = true)
  | [] => List.Pairwise.nil
  | x :: xs => insV_sorted x _ (srt_sorted xs)
theorem srt_perm : ∀ l : List Val, (srt l).Perm l
  | [] => List.Perm.refl _
  | x :: xs => (insV_perm x _).trans ((srt_perm xs).cons x)
theorem srt_stable (c : Val) : ∀ l : List Val, (srt l).filter (PySem.W.sameRank leD c) = l.filter (PySem.W.sameRank leD c)
  | [] => rfl
  | x :: xs => by
    show (insV x (srt xs)).filter _ = _
    rw [insV_stable, List.filter_cons, List.filter_cons, srt_stable c xs]
theorem srt_eq (l : List Val) : srt l = l.mergeSort leD := PySem.W.sort_unique leD_tot (srt_sorted l) (fun c => srt_stable c l)

/-! ### values with what they stand for -/
theorem toDs_map : ∀ xs : List Val, toDs xs = xs.map toD
  | [] => rfl
  | x :: xs => by simp only [toDs, List.map_cons, toDs_map xs]
section
variable {c : Ct} {w : Wd}
/-- an item: as a value here, as HandS has it -/
def Item (c : Ct) (w : Wd) (u : Value) (p : Val × V) : Prop := RelV p.2 u ∧ RV c w p.1 p.2
theorem each_items : ∀ {xs : List Val} {ys : List V} {us : List Value}, RVs c w xs ys → Vals ys us → EachIs (Item c w) us (xs.zip ys)
  | [], _, _, h, r => by
    have h : _ = [] := h
    subst h
    cases r
    exact .nil
  | x :: xs, _, _, ⟨y, ys, e, h1, h2⟩, r => by
    subst e
    cases r with
    | cons r1 r2 => exact .cons ⟨r1, h1⟩ (each_items h2 r2)
theorem items_out : ∀ {us : List Value} {ps : List (Val × V)}, EachIs (Item c w) us ps → Vals (ps.map (·.2)) us ∧ RVs c w (ps.map (·.1)) (ps.map (·.2))
  | _, _, .nil => ⟨.nil, rfl⟩
  | _, _, .cons (a := u) (b := p) h t => by
    obtain ⟨h1, h2⟩ := items_out t
    exact ⟨.cons h.1 h1, ⟨_, _, rfl, h.2, h2⟩⟩
theorem zip_one {xs : List Val} {ys : List V} (h : RVs c w xs ys) : (xs.zip ys).map (·.1) = xs := zip_fst h.length
theorem deps_mem : ∀ {xs : List Val} {n : Nat}, deps xs = some n → ∀ x ∈ xs, ∃ m, dep x = some m ∧ m ≤ n
  | [], _, _, x, hx => absurd hx (by simp)
  | y :: xs, n, h, x, hx => by
    simp only [deps] at h
    cases e1 : dep y with
    | none => rw [e1] at h; cases h
    | some a =>
      cases e2 : deps xs with
      | none => rw [e1, e2] at h; cases h
      | some b =>
        rw [e1, e2] at h
        cases h
        rcases List.mem_cons.mp hx with e | e
        · rw [e]; exact ⟨a, e1, Nat.le_max_left _ _⟩
        · obtain ⟨m, h1, h2⟩ := deps_mem e2 x e
          exact ⟨m, h1, Nat.le_trans h2 (Nat.le_max_right _ _)⟩
theorem shps_deps {xs : List Val} (h : shps xs = true) : ∃ n, deps xs = some n ∧ n ≤ 59 := by
  unfold shps at h
  cases e : deps xs with
  | none => rw [e] at h; cases h
  | some n => rw [e] at h; exact ⟨n, rfl, of_decide_eq_true h⟩
theorem alikeVs_mem {xs : List Val} (h : alikeVs xs = true) : AllAlike (xs.map toD) := by
  intro d hd d' hd'
  obtain ⟨x, hx, rfl⟩ := List.mem_map.mp hd
  obtain ⟨y, hy, rfl⟩ := List.mem_map.mp hd'
  exact List.all_eq_true.mp (List.all_eq_true.mp h x hx) y hy
end

def vSorted (vs : List Val) (μ : Mu) : Res (List Val) := match vs with
  | [v] => (match seqOf μ v with
    | some xs => if sortOk xs then .ok (srt xs) μ else .stuck
    | none => .stuck)
  | _ => .stuck
theorem nx_Sorted : NoExc vSorted := fun a μ e μ' h => by
  unfold vSorted at h
  split at h
  · split at h
    · split at h <;> cases h
    · cases h
  · cases h
def vMin (vs : List Val) (μ : Mu) : Res Val := match vs with
  | [v] => (match seqOf μ v with
    | some (x :: xs) => if cmpOk (x :: xs) then .ok (minV x xs) μ else .stuck
    | _ => .stuck)
  | _ => .stuck
def vMax (vs : List Val) (μ : Mu) : Res Val := match vs with
  | [v] => (match seqOf μ v with
    | some (x :: xs) => if cmpOk (x :: xs) then .ok (maxV x xs) μ else .stuck
    | _ => .stuck)
  | _ => .stuck
theorem nx_Min : NoExc vMin := fun a μ e μ' h => by
  unfold vMin at h
  split at h
  · split at h
    · split at h <;> cases h
    · cases h
  · cases h
theorem nx_Max : NoExc vMax := fun a μ e μ' h => by
  unfold vMax at h
  split at h
  · split at h
    · split at h <;> cases h
    · cases h
  · cases h
section
variable {c : Ct} {X : Cx}
theorem cf_Sorted (hK : X.K = c.K) (hu : X.A.units + 64 < cLine) : CaF c X (.builtin "sorted") vSorted := by
  intro pins s σ H xs us Q I r ⟨w, vs, e, sm, rv, h⟩
  subst e
  unfold vSorted at h
  split at h
  · rename_i v
    obtain ⟨x, ex, rx⟩ := rv.one
    subst ex
    split at h
    · rename_i zs e1
      split at h
      · rename_i hs
        unfold sortOk at hs
        simp only [Bool.and_eq_true, decide_eq_true_eq] at hs
        obtain ⟨⟨⟨hs, hl⟩, ha⟩, hk⟩ := hs
        obtain ⟨n, hd, hn⟩ := shps_deps hs
        obtain ⟨a, ys, f1, f2, f3⟩ := seqOf_sq sm rx e1
        subst f1
        rw [← hK] at f2
        have hIT : ∃ its : List Value, Vals ys its ∧ (s.heap.IsList a its.toArray ∨ s.heap.IsTuple a its.toArray) := by
          rcases f2 with f2 | f2
          · obtain ⟨its, rvs, pl, hz⟩ := I.list f2
            exact ⟨its, rvs, .inl pl.isList⟩
          · obtain ⟨its, rvs, pl, hz⟩ := I.tuple f2
            exact ⟨its, rvs, .inr pl⟩
        obtain ⟨its, rvs, pl⟩ := hIT
        rw [Vals.ref1 r]
        have e := each_items f3 rvs
        have hD : DpAll X.K w.H ys (toDs zs) := by rw [hK]; exact RVs.dp zs ys n f3 hd
        obtain ⟨as, R⟩ := Dp.readsAll I (toDs zs) ys its hD rvs
        have ez : (zs.zip ys).map (fun p : Val × V => toD p.1) = zs.map toD := by
          have q : (zs.zip ys).map (fun p : Val × V => toD p.1) = ((zs.zip ys).map (fun p : Val × V => p.1)).map toD := by rw [List.map_map]; rfl
          rw [q, zip_one f3]
        have er : EachIs (fun u (p : Val × V) => ∃ as, Reads s.heap u (toD p.1) as) its (zs.zip ys) := by
          refine PySem.W.readsAll_each (fun p : Val × V => toD p.1) (as := as) ?_
          rw [ez, ← toDs_map]; exact R
        have k1 : AllAlike ((zs.zip ys).map fun p : Val × V => toD p.1) := by
          rw [ez]; exact alikeVs_mem ha
        have k2 : PySem.W.Sortable ((zs.zip ys).map fun p : Val × V => toD p.1) := by
          rw [ez]
          rcases Bool.or_eq_true_iff.mp hk with hk | hk
          · refine .inl fun d hd => ?_
            obtain ⟨z, hz, rfl⟩ := List.mem_map.mp hd
            have := List.all_eq_true.mp hk z hz
            cases z with
            | tup l => cases l with
              | nil => cases this
              | cons p q => exact ⟨toD p, toDs q, rfl⟩
            | _ => cases this
          · refine .inr fun d hd => ?_
            obtain ⟨z, hz, rfl⟩ := List.mem_map.mp hd
            have := List.all_eq_true.mp hk z hz
            obtain ⟨m, hm, _⟩ := deps_mem ‹deps zs = some n› z hz
            cases z with
            | tup l => cases this
            | non => cases this
            | bl _ => exact ⟨(fun z => nomatch z), (fun _ z => nomatch z)⟩
            | int _ => exact ⟨(fun z => nomatch z), (fun _ z => nomatch z)⟩
            | str _ => exact ⟨(fun z => nomatch z), (fun _ z => nomatch z)⟩
            | lst _ => exact ⟨(fun z => nomatch z), (fun _ z => nomatch z)⟩
            | rol _ => cases hm
            | ref _ => cases hm
            | fn _ => cases hm
            | ty _ => cases hm
            | dct _ _ => cases hm
        have k3 : (zs.zip ys).length ≤ sizeLine := by
          rw [List.length_zip, ← f3.length, Nat.min_self, ← LIM_eq]; exact hl
        have k4 : ∀ p, p ∈ zs.zip ys → X.A.units + 2 + (toD p.1).depth < cLine := by
          intro p hp
          have hz : p.1 ∈ zs := by
            have := List.mem_map_of_mem (f := fun p : Val × V => p.1) hp
            rwa [zip_one f3] at this
          obtain ⟨m, hm, hmn⟩ := deps_mem hd p.1 hz
          have := (dep_lay p.1 m hm).2
          omega
        have k5 : ∀ out, out.length = (zs.zip ys).length → EachIs (Item c w) out ((zs.zip ys).mergeSort (dataLe false fun p : Val × V => toD p.1)) → EP X pins σ Q (.ref (s.heap.objs.size + 1)) { s with heap := PyProof.Rows.sortedAll s.heap its (List.toArray out) } := by
          intro out ho eo
          obtain ⟨k1, k2⟩ := items_out eo
          have em : ((zs.zip ys).mergeSort (dataLe false fun p : Val × V => toD p.1)).map (·.1) = srt zs := by
            have q := PySem.W.sort_maps (r := dataLe false fun p : Val × V => toD p.1) (s := leD) (fun p : Val × V => p.1) (l := zs.zip ys) (fun _ _ _ _ => rfl)
            rw [zip_one f3] at q
            rw [srt_eq]
            exact q
          rw [em] at k2
          obtain ⟨ep, he'⟩ := PyProof.Rows.sortedAll_at s.heap its out.toArray
          refine ⟨.ref _, upd w.H (s.heap.objs.size + 1) (.lst (((zs.zip ys).mergeSort (dataLe false fun p : Val × V => toD p.1)).map (·.2))), I.laid (t' := s.toks) (fun _ _ => PyProof.Rows.sortedAll_old) (Nat.le_succ _) ⟨?_, out, ep, k1, he'⟩, rfl, h.new sm k2 (I.hok.fresh (Nat.le_succ _))⟩
          rw [← k2.length, (srt_perm zs).length_eq, ← LIM_eq]; exact hl
        rcases pl with pl | pl
        · exact PySem.W.sorted_data (enc := fun p : Val × V => toD p.1) (R := Item c w) pl e er k1 k2 k3 k4 k5
        · exact Raw.sorted_dataT (enc := fun p : Val × V => toD p.1) (R := Item c w) pl e er k1 k2 k3 k4 k5
      · exact h.elim
    · exact h.elim
  · exact h.elim
theorem argBest_getD {f : Val → Val → Bool} (x : Val) (xs : List Val) : argBest (fun i j => f ((x :: xs).getD i .non) ((x :: xs).getD j .non)) xs.length ≤ xs.length ∧ (x :: xs).getD (argBest (fun i j => f ((x :: xs).getD i .non) ((x :: xs).getD j .non)) xs.length) .non = xs.foldl (fun a y => if f y a then y else a) x := by
  have := PySem.W.argBest_fold f Val.non x xs xs.length (Nat.le_refl _)
  rw [List.take_length] at this
  exact this
theorem getD_toDs : ∀ (xs : List Val) (i : Nat), (toDs xs).getD i PyData.none = toD (xs.getD i .non)
  | [], _ => rfl
  | x :: xs, 0 => rfl
  | x :: xs, i + 1 => by
    have := getD_toDs xs i
    simpa [toDs] using this
theorem getD_of {xs : List Val} {i : Nat} (h : i < xs.length) : xs[i]? = some (xs.getD i .non) := by
  rw [List.getElem?_eq_getElem h, List.getD_eq_getElem?_getD, List.getElem?_eq_getElem h]
  rfl
theorem cmpOk_alike {xs : List Val} (h : alikeVs xs = true) (hn : xs.all notNon = true) {n : Nat} (hd : deps xs = some n) : AlikeAll (toDs xs) := by
  rw [toDs_map]
  refine ⟨fun x hx y hy => alikeVs_mem h x hx y hy, fun d hd' => ?_⟩
  obtain ⟨x, hx, rfl⟩ := List.mem_map.mp hd'
  have q := List.all_eq_true.mp hn x hx
  obtain ⟨m, hm, _⟩ := deps_mem hd x hx
  cases x with
  | non => cases q
  | rol _ => cases hm
  | ref _ => cases hm
  | fn _ => cases hm
  | ty _ => cases hm
  | dct _ _ => cases hm
  | _ => exact fun z => nomatch z
theorem mm_run (hK : X.K = c.K) (hc : X.calm = true) (hu : X.A.units + 64 < cLine) {mx : Bool} {pins : List (Addr × Obj)} {s : Shared} {σ : St} {w : Wd} {Q : VK} {v : Val} {x : V} {u : Value} {z : Val} {zs : List Val} (I : Inv X pins σ w.H s) (sm : Sim c w) (rx : RV c w v x) (r : RelV x u) (e : seqOf w.μ v = some (z :: zs)) (hs : cmpOk (z :: zs) = true)
    (q : ∀ y, RV c w (if mx then maxV z zs else minV z zs) y → Q y w.H) : wpAny (model X.prog X.w) X.A (call (.builtin (if mx then "max" else "min")) [u]) (EP X pins σ Q) X.xe s := by
  unfold cmpOk at hs
  simp only [Bool.and_eq_true] at hs
  obtain ⟨⟨hs, ha⟩, hnn⟩ := hs
  obtain ⟨n, hd, hn⟩ := shps_deps hs
  obtain ⟨a, ys, rfl, f2, f3⟩ := seqOf_sq sm rx e
  cases r
  rw [← hK] at f2
  have hh := I.ok.hd hc
  have AA := cmpOk_alike ha hnn hd
  have dA : X.A.units + 1 + PyData.depthAll (toDs (z :: zs)) < cLine := by
    have := (deps_lay (z :: zs) n hd).2
    omega
  have hD : DpAll X.K w.H ys (toDs (z :: zs)) := by rw [hK]; exact RVs.dp _ ys n f3 hd
  have fin : ∀ (its : List Value), Vals ys its → ∀ (i : Nat) (s' : Shared) (k : (∃ h' tk, s' = { s with heap := h', toks := tk } ∧ ∀ b o, s.heap.get? b = some o → h'.get? b = some o)) (u' : Value), its.toArray[i]? = some u' → i < (z :: zs).length → (z :: zs).getD i .non = (if mx then maxV z zs else minV z zs) → EP X pins σ Q u' s' := by
    rintro its rvs i s' ⟨h', tk, rfl, hk⟩ u' hi hlt hv
    obtain ⟨y, hy, ry⟩ := f3.get (getD_of hlt)
    rw [hv] at ry
    rw [List.getElem?_toArray] at hi
    obtain ⟨u2, hu2, r2⟩ := rvs.get hy
    rw [hi] at hu2
    cases hu2
    exact ⟨y, w.H, I.kept hk, r2, q y ry⟩
  have bt1 : (fun i j => dataLt ((toDs (z :: zs)).getD i .none) ((toDs (z :: zs)).getD j .none)) = fun i j => vltD ((z :: zs).getD i .non) ((z :: zs).getD j .non) := by
    funext i j; rw [getD_toDs, getD_toDs]; rfl
  have bt2 : (fun i j => dataLt ((toDs (z :: zs)).getD j .none) ((toDs (z :: zs)).getD i .none)) = fun i j => (fun a b => vltD b a) ((z :: zs).getD i .non) ((z :: zs).getD j .non) := by
    funext i j; rw [getD_toDs, getD_toDs]; rfl
  have len : ∀ its : List Value, Vals ys its → its.toArray.size = zs.length + 1 := fun its rvs => by
    rw [List.size_toArray, ← rvs.length, ← f3.length]; rfl
  rcases f2 with f2 | f2
  · obtain ⟨its, rvs, pl, _⟩ := I.list f2
    obtain ⟨as, R⟩ := Dp.readsAll I _ ys its hD rvs
    have hsz := len its rvs
    have e1 : its.toArray.size - 1 = zs.length := by omega
    cases mx with
    | false =>
      refine PySem.call_min_walkH (PySem.W.iter_listW (A := X.A.in1) hh pl.isList fun s₂ e W st hfp hw hk => ?_)
      refine ⟨_, _, _, _, _, _, _, s.heap, _, rfl, W, st, hfp, by omega, hw, hk, PySem.W.cmpIn_lt (A := X.A.in1) (by simpa using R) AA dA, fun v s' hP m => ?_⟩
      rw [e1, bt1] at hP
      obtain ⟨b1, b2⟩ := argBest_getD (f := vltD) z zs
      exact fin its rvs _ s' (PySem.W.moved_old e rfl m) v hP (Nat.lt_succ_of_le b1) b2
    | true =>
      refine PySem.call_max_walkH (PySem.W.iter_listW (A := X.A.in1) hh pl.isList fun s₂ e W st hfp hw hk => ?_)
      refine ⟨_, _, _, _, _, _, _, s.heap, _, rfl, W, st, hfp, by omega, hw, hk, PySem.W.cmpIn_gt (A := X.A.in1) (by simpa using R) AA dA, fun v s' hP m => ?_⟩
      rw [e1, bt2] at hP
      obtain ⟨b1, b2⟩ := argBest_getD (f := fun a b => vltD b a) z zs
      exact fin its rvs _ s' (PySem.W.moved_old e rfl m) v hP (Nat.lt_succ_of_le b1) b2
  · obtain ⟨its, rvs, pl, _⟩ := I.tuple f2
    obtain ⟨as, R⟩ := Dp.readsAll I _ ys its hD rvs
    have hsz := len its rvs
    have e1 : its.toArray.size - 1 = zs.length := by omega
    cases mx with
    | false =>
      refine PySem.call_min_walkH (PySem.W.iter_tupleW (A := X.A.in1) hh pl fun s₂ e W st hfp hw hk => ?_)
      refine ⟨_, _, _, _, _, _, _, s.heap, _, rfl, W, st, hfp, by omega, hw, hk, PySem.W.cmpIn_lt (A := X.A.in1) (by simpa using R) AA dA, fun v s' hP m => ?_⟩
      rw [e1, bt1] at hP
      obtain ⟨b1, b2⟩ := argBest_getD (f := vltD) z zs
      exact fin its rvs _ s' (PySem.W.moved_old e rfl m) v hP (Nat.lt_succ_of_le b1) b2
    | true =>
      refine PySem.call_max_walkH (PySem.W.iter_tupleW (A := X.A.in1) hh pl fun s₂ e W st hfp hw hk => ?_)
      refine ⟨_, _, _, _, _, _, _, s.heap, _, rfl, W, st, hfp, by omega, hw, hk, PySem.W.cmpIn_gt (A := X.A.in1) (by simpa using R) AA dA, fun v s' hP m => ?_⟩
      rw [e1, bt2] at hP
      obtain ⟨b1, b2⟩ := argBest_getD (f := fun a b => vltD b a) z zs
      exact fin its rvs _ s' (PySem.W.moved_old e rfl m) v hP (Nat.lt_succ_of_le b1) b2
theorem Vals.inv1 {x : V} {us : List Value} (r : Vals [x] us) : ∃ u, us = [u] ∧ RelV x u := by
  cases r with
  | cons r t => cases t; exact ⟨_, rfl, r⟩
theorem cg_Min (hK : X.K = c.K) (hc : X.calm = true) (hu : X.A.units + 64 < cLine) : CaG c X (.builtin "min") vMin := by
  intro pins s σ H xs us Q I r ⟨w, vs, e, sm, rv, h⟩
  subst e
  unfold vMin at h
  split at h
  · rename_i v
    obtain ⟨x, ex, rx⟩ := rv.one
    subst ex
    obtain ⟨u, rfl, r1⟩ := Vals.inv1 r
    split at h
    · rename_i z zs e1
      split at h
      · rename_i hs
        exact mm_run (mx := false) hK hc hu I sm rx r1 e1 hs fun y ry => h.here sm ry
      · exact h.elim
    · exact h.elim
  · exact h.elim
theorem cg_Max (hK : X.K = c.K) (hc : X.calm = true) (hu : X.A.units + 64 < cLine) : CaG c X (.builtin "max") vMax := by
  intro pins s σ H xs us Q I r ⟨w, vs, e, sm, rv, h⟩
  subst e
  unfold vMax at h
  split at h
  · rename_i v
    obtain ⟨x, ex, rx⟩ := rv.one
    subst ex
    obtain ⟨u, rfl, r1⟩ := Vals.inv1 r
    split at h
    · rename_i z zs e1
      split at h
      · rename_i hs
        exact mm_run (mx := true) hK hc hu I sm rx r1 e1 hs fun y ry => h.here sm ry
      · exact h.elim
    · exact h.elim
  · exact h.elim
end
end G

/-! G12: y = [..], tests of a comprehension, -x, o[i] = e, dicts. -/
namespace G
open PySem PySem.Spec PyProof.Rows L2

section
variable {c : Ct} {W : WX} {X : Cx} {pos p p2 : Pos}
theorem imm_reads {m : M (List Val)} {σ : St} {H : Hp} {Q : VK} (h : TE' c W (mimm m) σ H Q) : TF' c W m σ H Q := by
  obtain ⟨w, sl, e, s, rs, h⟩ := h
  refine ⟨w, sl, e, s, rs, ?_⟩
  unfold mimm andThen at h
  cases q : m sl w.μ with
  | ok vs μ' =>
    rw [q] at h
    intro w' hμ ext sim D ys n r
    subst hμ
    exact Post.lst (h.ext ext) sim r n
  | exc x μ' => rw [q] at h; exact h
  | stuck => rw [q] at h; exact h
theorem mut_reads {m : M (List Val)} {σ : St} {H : Hp} {Q : VK} (h : TE' c W (mmut m) σ H Q) : TF' c W m σ H Q := by
  obtain ⟨w, sl, e, s, rs, h⟩ := h
  refine ⟨w, sl, e, s, rs, ?_⟩
  unfold mmut andThen at h
  cases q : m sl w.μ with
  | ok vs μ' =>
    rw [q] at h
    intro w' hμ ext sim D ys n r
    subst hμ
    have e1 : Ext w' { w' with ρ := w'.ρ ++ [D], μ := w'.μ ++ [.lst vs], H := upd w'.H D (.lst ys) } := alloc_ext n
    refine h _ rfl (ext.trans e1) (alloc_sim sim n ⟨ys, upd_same, RVs.ext sim e1 _ _ r⟩ (sim.rs_new n)) _ ⟨D, rfl, ?_⟩
    show (w'.ρ ++ [D])[w'.μ.length]? = some D
    rw [← sim.len]
    simp
  | exc x μ' => rw [q] at h; exact h
  | stuck => rw [q] at h; exact h
theorem set_reads {m : M Val} {i : Nat} {D : Ends} {σ : St} {H : Hp} (h : TS' c W (sasg m (.nm i)) D σ H) : TE' c W m σ H fun x H1 => gName i x σ H1 D.nx := by
  obtain ⟨w, sl, e, s, rs, h⟩ := h
  subst e
  exact ts_then s rs h fun v w1 e1 s1 rs1 h1 x rx => h1 w1 rfl e1 s1 _ (rs1.set rx i)
section
variable {elt tg iter : Expr} {ifs : List Expr} {scope : Scope} {own : List (Str × Nat)} {src : M Src} {t : Tgt} {mc : M Bool} {me : M Val} {i : Nat} {y : Str} {py spos : Pos}
theorem gs_setLc (mu : Bool) (hc : X.calm = true) (hN : X.N.Nodup) (hy : X.N[i]? = some y) (hyl : X.env.scope.names.lookup y = some .local)
    (hsw : swapsWith (.ListComp elt [⟨tg, iter, ifs, 0⟩] scope pos) (some (.Name y py)) spos.line X.env = pure true) (hi : PI X tg iter (TI' c W src)) (ok : BlkOk X.N X.env.scope scope own)
    (hg : ∀ (s : Shared) (H : Hp) (C : Addr) (cl : List (Str × Addr)) (fp : List Addr), PG (X.blk s H scope (compEnvC scope cl C X.env) fp) tg (TG' c t)) (ht : ∀ (s : Shared) (H : Hp) (C : Addr) (cl : List (Str × Addr)) (fp : List Addr), PTs (X.blk s H scope (compEnvC scope cl C X.env) fp) ifs (TT' c W0 mc))
    (he : ∀ (s : Shared) (H : Hp) (C : Addr) (cl : List (Str × Addr)) (fp : List Addr), PE (X.blk s H scope (compEnvC scope cl C X.env) fp) elt (TE' c W0 me)) (hsl : ∀ i ∈ t.slots, i ∈ own.map (·.2)) (hs : ∀ x, foldedSetIterable iter X.env x = pure x := by intro _; rfl) :
    PS X (.Assign [.Name y py] (.ListComp elt [⟨tg, iter, ifs, 0⟩] scope pos) spos) (TS' c W (sasg ((if mu then mmut else mimm) (mlc src (own.map (·.2)) t mc me)) (.nm i))) := by
  refine (ps_setLc hc hN hy hyl hsw hi ok hg ht he hs).imp fun D σ H h => ?_
  cases mu with
  | true => exact lc_reads (mut_reads (set_reads h)) hsl
  | false => exact lc_reads (imm_reads (set_reads h)) hsl
end
theorem gts_nil : PTs X [] (TT' c W tyes) := ⟨fun pins s σ H Q I ⟨w, sl, e, sm, rs, h⟩ => by
  subst e
  exact pts_nil.run pins s σ w.H Q I (h w rfl (Ext.refl w) sm)⟩
theorem gts_one {a : Expr} {m : M Bool} (h : PT X a (TT' c W m)) : PTs X [a] (TT' c W m) := pts_one h

/-! ### -x -/
def vNeg (x : Val) (μ : Mu) : Res Val := match x with
  | .int i => .ok (.int (-i)) μ
  | _ => .stuck
theorem ge_neg {a : Expr} {ma : M Val} (ha : PE X a (TE' c W ma)) : PE X (.UnaryOp .USub a pos) (TE' c W (mop1 vNeg ma)) := by
  refine (pe_un un_neg ha).imp fun σ H Q ⟨w, sl, e, s, rs, h⟩ => ?_
  subst e
  refine te_then (R := fun w r => Post c w r Q fun cls d H' => W cls d σ H') s rs exc_post (fun z => z) h fun v w1 e1 s1 rs1 h1 x rx => ?_
  cases v with
  | int i => exact ⟨i, rx, (h1.ext e1).here s1 rfl⟩
  | _ => exact h1.elim
end

/-! ### dicts with keys that are numbers and texts -/
def kOf : Val → Option Key
  | .int i => some (.inl i)
  | .str s => some (.inr s)
  | _ => none
def dFind (k : DKey) : List DKey → List Val → Option Val
  | j :: ks, v :: vs => if j = k then some v else dFind k ks vs
  | _, _ => none
def dRepl (k : DKey) (x : Val) : List DKey → List Val → List Val
  | j :: ks, v :: vs => (if j = k then x else v) :: dRepl k x ks vs
  | _, vs => vs
def dPut (k : DKey) (x : Val) (ks : List DKey) (vs : List Val) : List DKey × List Val := if ks.any (fun j => decide (j = k)) then (ks, dRepl k x ks vs) else (ks ++ [k], vs ++ [x])
section
variable {c : Ct} {w : Wd}
theorem kOf_rv {a : Val} {x : V} {k : Key} (h : kOf a = some k) (r : RV c w a x) : x = kV k := by
  cases a with
  | int i => cases h; exact r
  | str i => cases h; exact r
  | _ => cases h
theorem dFind_val {k : Key} : ∀ {kk : List Key} {vs : List Val} {ys : List V}, kk.length = ys.length → RVs c w vs ys →
    (∀ v, dFind (.k k) (kk.map .k) vs = some v → ∃ y, valV (kk.zip ys) k = some y ∧ RV c w v y) ∧ (dFind (.k k) (kk.map .k) vs = none → valV (kk.zip ys) k = none)
  | [], vs, ys, hl, r => ⟨fun v h => by simp [dFind] at h, fun _ => by simp [valV]⟩
  | j :: kk, [], ys, hl, r => by
    have r : ys = [] := r
    subst r
    simp at hl
  | j :: kk, v :: vs, ys, hl, ⟨y, yr, e, r1, r2⟩ => by
    subst e
    have ih := dFind_val (k := k) (kk := kk) (by simpa using hl) r2
    by_cases hj : j = k
    · subst hj
      refine ⟨fun z h => ?_, fun h => ?_⟩
      · simp only [List.map_cons, dFind, if_true] at h
        cases h
        exact ⟨y, valV_pos rfl, r1⟩
      · simp only [List.map_cons, dFind, if_true] at h
        cases h
    · have hj' : ¬ DKey.k j = DKey.k k := fun z => hj (by cases z; rfl)
      have e1 : dFind (.k k) ((j :: kk).map .k) (v :: vs) = dFind (.k k) (kk.map .k) vs := by simp only [List.map_cons, dFind, if_neg hj']
      have e2 : valV ((j :: kk).zip (y :: yr)) k = valV (kk.zip yr) k := valV_neg (p := (j, y)) hj
      rw [e1, e2]
      exact ih
theorem any_key {k : Key} : ∀ {kk : List Key} {ys : List V}, kk.length = ys.length → ((kk.zip ys).any fun kv => decide (kv.1 = k)) = (kk.map DKey.k).any (fun j => decide (j = .k k))
  | [], _, _ => rfl
  | j :: kk, [], h => by simp at h
  | j :: kk, y :: ys, h => by
    have ih := any_key (k := k) (kk := kk) (ys := ys) (by simpa using h)
    simp only [List.zip_cons_cons, List.any_cons, List.map_cons, ih]
    congr 1
    by_cases hj : j = k
    · subst hj; simp
    · have hj' : ¬ DKey.k j = DKey.k k := fun z => hj (by cases z; rfl)
      simp [hj, hj']
theorem dRepl_zip {k : Key} {x : Val} {z : V} (rx : RV c w x z) : ∀ {kk : List Key} {vs : List Val} {ys : List V}, kk.length = ys.length → RVs c w vs ys →
    ∃ ys', kk.length = ys'.length ∧ (kk.zip ys).map (fun kv => if kv.1 = k then (kv.1, z) else kv) = kk.zip ys' ∧ RVs c w (dRepl (.k k) x (kk.map .k) vs) ys'
  | [], vs, ys, hl, r => ⟨[], rfl, rfl, by
    have : ys = [] := List.eq_nil_of_length_eq_zero hl.symm
    subst this
    exact r⟩
  | j :: kk, [], ys, hl, r => by
    have r : ys = [] := r
    subst r
    simp at hl
  | j :: kk, v :: vs, ys, hl, ⟨y, yr, e, r1, r2⟩ => by
    subst e
    obtain ⟨ys', h1, h2, h3⟩ := dRepl_zip rx (k := k) (kk := kk) (by simpa using hl) r2
    by_cases hj : j = k
    · subst hj
      refine ⟨z :: ys', by simp [h1], by simp [h2], z, ys', rfl, ?_, h3⟩
      simp only [if_true]
      exact rx
    · have hj' : ¬ DKey.k j = DKey.k k := fun z => hj (by cases z; rfl)
      refine ⟨y :: ys', by simp [h1], by simp [h2, hj], y, ys', rfl, ?_, h3⟩
      simp only [if_neg hj']
      exact r1
theorem dPut_zip {k : Key} {x : Val} {z : V} (rx : RV c w x z) {kk : List Key} {vs : List Val} {ys : List V} (hl : kk.length = ys.length) (r : RVs c w vs ys) :
    ∃ (kk' : List Key) (ys' : List V), (dPut (.k k) x (kk.map .k) vs).1 = kk'.map .k ∧ kk'.length = ys'.length ∧ putK (kk.zip ys) k z = kk'.zip ys' ∧ RVs c w (dPut (.k k) x (kk.map .k) vs).2 ys' := by
  unfold dPut putK
  rw [any_key hl]
  split
  · obtain ⟨ys', h1, h2, h3⟩ := dRepl_zip rx (k := k) hl r
    exact ⟨kk, ys', rfl, h1, h2, h3⟩
  · refine ⟨kk ++ [k], ys ++ [z], by simp, by simp [hl], ?_, r.append ⟨z, [], rfl, rx, rfl⟩⟩
    rw [List.zip_append hl]
    rfl
end
def isKs : List DKey → Bool
  | [] => true
  | .k _ :: ks => isKs ks
  | .t _ :: _ => false
theorem isKs_map : ∀ {ks : List DKey}, isKs ks = true → ∃ kk : List Key, ks = kk.map .k
  | [], _ => ⟨[], rfl⟩
  | .k a :: ks, h => by
    obtain ⟨kk, e⟩ := isKs_map (ks := ks) h
    exact ⟨a :: kk, by rw [e]; rfl⟩
theorem ks_inj : ∀ {a b : List Key}, a.map DKey.k = b.map DKey.k → a = b
  | [], [], _ => rfl
  | [], _ :: _, h => by simp at h
  | _ :: _, [], h => by simp at h
  | x :: a, y :: b, h => by
    simp only [List.map_cons, List.cons.injEq, DKey.k.injEq] at h
    rw [h.1, ks_inj h.2]
theorem kt_ne {a : List Key} {b : List (List Key)} (h : a.map DKey.k = b.map DKey.t) (n : a ≠ []) : False := by
  cases a with
  | nil => exact n rfl
  | cons x a => cases b with
    | nil => simp at h
    | cons y b => simp at h
/-- subscripts of dicts, lists, tuples, texts -/
def vSub2 (x y : Val) (μ : Mu) : Res Val := match look μ x with
  | .dct ks vs => (match kOf y with
    | some k => if isKs ks then (match dFind (.k k) ks vs with
      | some v => .ok v μ
      | none => .stuck) else .stuck
    | none => .stuck)
  | _ => vIdx x y μ
theorem nx_Sub2 : NoExc2 vSub2 := fun a b μ e μ' h => by
  unfold vSub2 at h
  split at h
  · split at h
    · split at h
      · split at h <;> cases h
      · cases h
    · cases h
  · exact nx_Idx _ _ _ _ _ h
section
variable {c : Ct} {X : Cx}
theorem dk_at {w : Wd} {v : Val} {x : V} {ks : List DKey} {vs : List Val} (s : Sim c w) (r : RV c w v x) (h : look w.μ v = .dct ks vs) (hk : isKs ks = true) : ∃ (a : Addr) (kk : List Key) (ys : List V), x = .ref a ∧ ks = kk.map .k ∧ kk.length = ys.length ∧ w.H a = some (.dK (kk.zip ys)) ∧ RVs c w vs ys := by
  obtain ⟨a, ys, e, h1, h2⟩ := look_dct s r h
  rcases h1 with ⟨kk, e1, e2, e3⟩ | ⟨kt, e1, e2, e3⟩
  · exact ⟨a, kk, ys, e, e1, e2, e3, h2⟩
  · obtain ⟨kk, q⟩ := isKs_map hk
    rw [q] at e1
    refine (kt_ne e1 fun z => ?_).elim
    subst z
    cases kt with
    | nil => exact e2.2 rfl
    | cons _ _ => simp at e1
theorem ig_Sub2 (hK : X.K = c.K) (hu : X.A.units + 64 < cLine) : IxG c X vSub2 := by
  intro ev es pins s σ H x y v u Q I rx ry ⟨w, a, b, e, sm, r1, r2, h⟩ hs
  subst e
  unfold vSub2 at h
  split at h
  · rename_i ks vs e1
    split at h
    · rename_i k hk
      split at h
      · rename_i hi
        split at h
        · rename_i z hz
          obtain ⟨p, kk, ys, rfl, e2, e3, e4, e5⟩ := dk_at sm r1 e1 hi
          obtain rfl : v = Value.ref p := rx
          rw [e2] at hz
          obtain ⟨q, q1, q2⟩ := (dFind_val (k := k) e3 e5).1 z hz
          have g : DGet w.H p y (some q) := by rw [kOf_rv hk r2, ← q1]; exact DGet.k e4
          exact tail_any (dict_typeIs I g) slot_dict_getitem.lookup (d_getItem (by omega) I g ry fun w' s3 I3 rw' => ⟨q, w.H, I3, rw', h.here sm q2⟩) hs
        · exact h.elim
      · exact h.elim
    · exact h.elim
  · exact ig_Idx hK ev es pins s σ w.H x y v u Q I rx ry ⟨w, a, b, rfl, sm, r1, r2, h⟩ hs
/-- a table of the module's top, its keys texts -/
structure KTab (c : Ct) (w : World) (mg : Str → Option Value) (D : Str) (tbl : List (Str × Val)) : Prop where
  ex : ∃ a, mg D = some (.ref a) ∧ ∀ z v, tbl.lookup z = some v → ∃ y, KDct c.K w a z y ∧ ∀ wd, RV c wd v y
def vTab (tbl : List (Str × Val)) (k : Val) (μ : Mu) : Res Val := match k with
  | .str z => (match tbl.lookup z with
    | some v => .ok v μ
    | none => .stuck)
  | _ => .stuck
variable {W : WX} {b : Expr} {mb : M Val} {p pos : Pos} {D : Str} {tbl : List (Str × Val)}
theorem ge_tab (T : KTab c X.w X.mg D tbl) (hb : PE X b (TE' c W mb)) (hs : PlainIx b) (hK : X.K = c.K := by rfl) (hg : Gl X D := by rfl) (hdb : (D == ("__debug__" : Str)) = false := by decide) : PE X (.Subscript (.Name D p) b pos) (TE' c W (mop1 (vTab tbl) mb)) := by
  obtain ⟨a, hm, T⟩ := T.ex
  refine (pe_ix ix_kdict (pe_glob hg hm (v := .ref a) rfl hdb) hb hs).imp fun σ H Q ⟨w, sl, e, s, rs, h⟩ => ?_
  subst e
  refine te_then (R := fun w r => Post c w r Q fun cls d H' => W cls d σ H') s rs exc_post (fun z => z) h fun v w1 e1 s1 rs1 h1 x rx => ?_
  cases v with
  | str z =>
    simp only [vTab] at h1
    cases q : tbl.lookup z with
    | none => rw [q] at h1; exact h1.elim
    | some v =>
      rw [q] at h1
      obtain ⟨y, k1, k2⟩ := T z v q
      rw [← hK] at k1
      exact ⟨a, z, y, rfl, rx, k1, (h1.ext e1).here s1 (k2 w1)⟩
  | _ => exact h1.elim

/-! ### in, not in of a dict, of others -/
def vIn2 (x y : Val) (μ : Mu) : Res Val := match look μ y with
  | .dct ks vs => (match kOf x with
    | some k => if isKs ks then .ok (.bl (dFind (.k k) ks vs).isSome) μ else .stuck
    | none => .stuck)
  | _ => vIn x y μ
def vNotIn2 (x y : Val) (μ : Mu) : Res Val := match look μ y with
  | .dct ks vs => (match kOf x with
    | some k => if isKs ks then .ok (.bl (!(dFind (.k k) ks vs).isSome)) μ else .stuck
    | none => .stuck)
  | _ => vNotIn x y μ
theorem nx_In2 : NoExc2 vIn2 := fun a b μ e μ' h => by
  unfold vIn2 at h
  split at h
  · split at h
    · split at h <;> cases h
    · cases h
  · exact nx_In _ _ _ _ _ h
theorem nx_NotIn2 : NoExc2 vNotIn2 := fun a b μ e μ' h => by
  unfold vNotIn2 at h
  split at h
  · split at h
    · split at h <;> cases h
    · cases h
  · exact nx_NotIn _ _ _ _ _ h
theorem dget_some {w : Wd} {a : Addr} {kk : List Key} {ys : List V} {vs : List Val} {k : Key} (e3 : kk.length = ys.length) (e4 : w.H a = some (.dK (kk.zip ys))) (e5 : RVs c w vs ys) : ∃ o, DGet w.H a (kV k) o ∧ o.isSome = (dFind (.k k) (kk.map .k) vs).isSome := by
  refine ⟨_, DGet.k e4, ?_⟩
  cases q : dFind (.k k) (kk.map .k) vs with
  | none => rw [(dFind_val (k := k) e3 e5).2 q]; rfl
  | some z =>
    obtain ⟨y, h1, _⟩ := (dFind_val (k := k) e3 e5).1 z q
    rw [h1]; rfl
theorem og_In2 (hK : X.K = c.K) (hu : X.A.units + 65 < cLine) : OpG c X (compareOp .In) vIn2 := by
  intro pins s σ H x y v u Q I rx ry ⟨w, a, b, e, sm, r1, r2, h⟩
  subst e
  unfold vIn2 at h
  split at h
  · rename_i ks vs e1
    split at h
    · rename_i k hk
      split at h
      · rename_i hi
        obtain ⟨p, kk, ys, rfl, e2, e3, e4, e5⟩ := dk_at sm r2 e1 hi
        obtain rfl : u = Value.ref p := ry
        obtain ⟨o, g, go⟩ := dget_some (k := k) e3 e4 e5
        rw [← kOf_rv hk r1] at g
        refine d_in (by omega) I g rx fun s3 I3 => ⟨.bl _, w.H, I3, rfl, ?_⟩
        rw [go, ← e2]
        exact h.here sm rfl
      · exact h.elim
    · exact h.elim
  · exact og_In hK hu pins s σ w.H x y v u Q I rx ry ⟨w, a, b, rfl, sm, r1, r2, h⟩
theorem og_NotIn2 (hK : X.K = c.K) (hu : X.A.units + 65 < cLine) : OpG c X (compareOp .NotIn) vNotIn2 := by
  intro pins s σ H x y v u Q I rx ry ⟨w, a, b, e, sm, r1, r2, h⟩
  subst e
  unfold vNotIn2 at h
  split at h
  · rename_i ks vs e1
    split at h
    · rename_i k hk
      split at h
      · rename_i hi
        obtain ⟨p, kk, ys, rfl, e2, e3, e4, e5⟩ := dk_at sm r2 e1 hi
        obtain rfl : u = Value.ref p := ry
        obtain ⟨o, g, go⟩ := dget_some (k := k) e3 e4 e5
        rw [← kOf_rv hk r1] at g
        refine d_notIn (by omega) I g rx fun s3 I3 => ⟨.bl _, w.H, I3, rfl, ?_⟩
        rw [go, ← e2]
        exact h.here sm rfl
      · exact h.elim
    · exact h.elim
  · exact og_NotIn hK hu pins s σ w.H x y v u Q I rx ry ⟨w, a, b, rfl, sm, r1, r2, h⟩
end
end G

/-! G13: written dicts, o[i] = e. -/
namespace G
open PySem PySem.Spec PyProof.Rows L2

/-! ### {k: v, ..} -/
def mpairs : List (M Val × M Val) → M (List (Val × Val))
  | [] => fun _ μ => .ok [] μ
  | (mk, mv) :: r => andThen mk fun k => andThen mv fun v => andThen (mpairs r) fun ps => fun _ μ => .ok ((k, v) :: ps) μ
def dMerge : List DKey → List Val → List (Key × Val) → List DKey × List Val
  | ks, vs, [] => (ks, vs)
  | ks, vs, (k, v) :: r => dMerge (dPut (.k k) v ks vs).1 (dPut (.k k) v ks vs).2 r
/-- the keys of pairs -/
def kPairs : List (Val × Val) → Option (List (Key × Val))
  | [] => some []
  | (k, v) :: r => match kOf k, kPairs r with
    | some k, some r => some ((k, v) :: r)
    | _, _ => none
/-- a written dict, as one that nobody changes -/
def mdisp (ms : List (M Val × M Val)) : M Val := andThen (mpairs ms) fun ps => fun _ μ => match kPairs ps with
  | some kv => if kv.length ≤ 15 then .ok (.dct (dMerge [] [] kv).1 (dMerge [] [] kv).2) μ else .stuck
  | none => .stuck
/-- .. as one that is changed -/
def mdispM (ms : List (M Val × M Val)) : M Val := andThen (mpairs ms) fun ps => fun _ μ => match kPairs ps with
  | some kv => if kv.length ≤ 15 then .ok (.ref μ.length) (μ ++ [.dct (dMerge [] [] kv).1 (dMerge [] [] kv).2]) else .stuck
  | none => .stuck
def RPs (c : Ct) (w : Wd) : List (Val × Val) → List (V × V) → Prop
  | [], xs => xs = []
  | p :: ps, xs => ∃ q r, xs = q :: r ∧ RV c w p.1 q.1 ∧ RV c w p.2 q.2 ∧ RPs c w ps r
section
variable {c : Ct} {W : WX} {X : Cx} {pos : Pos}
theorem RPs.ext {w w' : Wd} (s : Sim c w) (e : Ext w w') : ∀ {ps : List (Val × Val)} {xs : List (V × V)}, RPs c w ps xs → RPs c w' ps xs
  | [], _, h => h
  | _ :: _, _, ⟨q, r, e1, h1, h2, h3⟩ => ⟨q, r, e1, RV.ext s e _ _ h1, RV.ext s e _ _ h2, RPs.ext s e h3⟩
abbrev trsOf (c : Ct) (W : WX) (ms : List (M Val × M Val)) : List (TE × TE) := ms.map fun m => (TE' c W m.1, TE' c W m.2)
theorem pairs_reads : ∀ (ms : List (M Val × M Val)) {w : Wd} {sl : Sl} {σ : St} {K : List (V × V) → Hp → Prop}, Sim c w → RSl c w sl σ →
    (match mpairs ms sl w.μ with
      | .ok ps μ' => ∀ w', w'.μ = μ' → Ext w w' → Sim c w' → ∀ xs, RPs c w' ps xs → K xs w'.H
      | .exc e μ' => ∀ w', w'.μ = μ' → Ext w w' → Sim c w' → ∀ cls d, RX c w' e cls d → W cls d σ w'.H
      | .stuck => False) → tPairs (trsOf c W ms) σ w.H K
  | [], w, sl, σ, K, s, rs, h => h w rfl (Ext.refl w) s [] rfl
  | (mk, mv) :: r, w, sl, σ, K, s, rs, h => by
    refine ⟨w, sl, rfl, s, rs, ?_⟩
    show Post c w (mk sl w.μ) _ _
    unfold mpairs andThen at h
    cases q : mk sl w.μ with
    | stuck => rw [q] at h; exact h
    | exc e μ' => rw [q] at h; exact h
    | ok k μ1 =>
      rw [q] at h
      intro w1 hμ1 e1 s1 x rx
      subst hμ1
      have rs1 := rs.ext s e1
      refine ⟨w1, sl, rfl, s1, rs1, ?_⟩
      show Post c w1 (mv sl w1.μ) _ _
      dsimp only [andThen] at h
      cases q2 : mv sl w1.μ with
      | stuck => rw [q2] at h; exact h
      | exc e μ' => rw [q2] at h; exact fun w2 hμ e2 s2 cls d r => h w2 hμ (e1.trans e2) s2 cls d r
      | ok v μ2 =>
        rw [q2] at h
        intro w2 hμ2 e2 s2 y ry
        subst hμ2
        have rs2 := rs1.ext s1 e2
        refine pairs_reads r s2 rs2 ?_
        dsimp only [andThen] at h
        cases q3 : mpairs r sl w2.μ with
        | stuck => rw [q3] at h; exact h
        | exc e μ' => rw [q3] at h; exact fun w3 hμ e3 s3 cls d r => h w3 hμ (e1.trans (e2.trans e3)) s3 cls d r
        | ok ps μ3 =>
          rw [q3] at h
          intro w3 hμ3 e3 s3 xs rxs
          exact h w3 hμ3 (e1.trans (e2.trans e3)) s3 _ ⟨(x, y), xs, rfl, RV.ext s1 (e2.trans e3) _ _ rx, RV.ext s2 e3 _ _ ry, rxs⟩
theorem kPairs_rv {w : Wd} : ∀ {ps : List (Val × Val)} {kv : List (Key × Val)} {xs : List (V × V)}, kPairs ps = some kv → RPs c w ps xs →
    ∃ kvs : List (Key × V), xs = kvs.map (fun p => (kV p.1, p.2)) ∧ kvs.map (·.1) = kv.map (·.1) ∧ RVs c w (kv.map (·.2)) (kvs.map (·.2))
  | [], kv, xs, h, r => by
    cases h
    have r : xs = [] := r
    subst r
    exact ⟨[], rfl, rfl, rfl⟩
  | (k, v) :: ps, kv, _, h, ⟨q, r, e, h1, h2, h3⟩ => by
    subst e
    simp only [kPairs] at h
    cases q1 : kOf k with
    | none => rw [q1] at h; cases h
    | some k' =>
      cases q2 : kPairs ps with
      | none => rw [q1, q2] at h; cases h
      | some kr =>
        rw [q1, q2] at h
        cases h
        obtain ⟨kvs, e1, e2, e3⟩ := kPairs_rv q2 h3
        refine ⟨(k', q.2) :: kvs, ?_, by simp [e2], q.2, _, rfl, h2, e3⟩
        rw [e1, List.map_cons, ← kOf_rv q1 h1]
theorem dMerge_zip {w : Wd} : ∀ {kv : List (Key × Val)} {kvs : List (Key × V)} {kk : List Key} {vs : List Val} {ys : List V}, kvs.map (·.1) = kv.map (·.1) → RVs c w (kv.map (·.2)) (kvs.map (·.2)) → kk.length = ys.length → RVs c w vs ys →
    ∃ (kk' : List Key) (ys' : List V), (dMerge (kk.map .k) vs kv).1 = kk'.map .k ∧ kk'.length = ys'.length ∧ mergeK (kk.zip ys) kvs = kk'.zip ys' ∧ RVs c w (dMerge (kk.map .k) vs kv).2 ys'
  | [], [], kk, vs, ys, _, _, hl, r => ⟨kk, ys, rfl, hl, rfl, r⟩
  | [], _ :: _, _, _, _, h, _, _, _ => by simp at h
  | _ :: _, [], _, _, _, h, _, _, _ => by simp at h
  | (k, v) :: kv, (k', z) :: kvs, kk, vs, ys, h, ⟨y, yr, e, r1, r2⟩, hl, r => by
    simp only [List.map_cons, List.cons.injEq] at h e
    obtain ⟨h1, h2⟩ := h
    obtain ⟨rfl, rfl⟩ := e
    subst h1
    obtain ⟨kk', ys', a1, a2, a3, a4⟩ := dPut_zip (k := k') r1 hl r
    obtain ⟨kk2, ys2, b1, b2, b3, b4⟩ := dMerge_zip h2 r2 a2 a4
    refine ⟨kk2, ys2, ?_, b2, ?_, ?_⟩
    · show (dMerge (dPut (.k k') v (kk.map .k) vs).1 (dPut (.k k') v (kk.map .k) vs).2 kv).1 = _
      rw [a1]; exact b1
    · show mergeK (putK (kk.zip ys) k' z) kvs = _
      rw [a3]; exact b3
    · show RVs c w (dMerge (dPut (.k k') v (kk.map .k) vs).1 (dPut (.k k') v (kk.map .k) vs).2 kv).2 ys2
      rw [a1]; exact b4
mutual
theorem RV.lessRs {w1 : Wd} {rs : List Addr} (hr : ∀ a, a ∈ rs → a ∈ w1.rs) : ∀ (x : Val) (v : V), RV c w1 x v → RV c { w1 with rs := rs } x v
  | .non, _, h => h
  | .bl _, _, h => h
  | .int _, _, h => h
  | .str _, _, h => h
  | .tup xs, _, ⟨a, ys, e1, e2, e3⟩ => ⟨a, ys, e1, e2, RVs.lessRs hr xs ys e3⟩
  | .lst xs, _, ⟨a, ys, e1, e2, e3⟩ => ⟨a, ys, e1, ⟨e2.1, e2.2.1, fun z => e2.2.2 (hr a z)⟩, RVs.lessRs hr xs ys e3⟩
  | .rol xs, _, ⟨a, ys, e1, e2, e3⟩ => ⟨a, ys, e1, e2, RVs.lessRs hr xs ys e3⟩
  | .ref n, _, h => h
  | .fn _, _, h => h
  | .ty _, _, h => h
  | .dct ks vs, _, ⟨a, ys, e1, e2, e3⟩ => ⟨a, ys, e1, ⟨e2.1, e2.2.1, fun z => e2.2.2 (hr a z)⟩, RVs.lessRs hr vs ys e3⟩
theorem RVs.lessRs {w1 : Wd} {rs : List Addr} (hr : ∀ a, a ∈ rs → a ∈ w1.rs) : ∀ (xs : List Val) (ys : List V), RVs c w1 xs ys → RVs c { w1 with rs := rs } xs ys
  | [], _, h => h
  | x :: xs, _, ⟨y, r, e1, e2, e3⟩ => ⟨y, r, e1, RV.lessRs hr x y e2, RVs.lessRs hr xs r e3⟩
end
/-- the world in which a written dict's pairs are made -/
def Wd.resD (w : Wd) (p : Addr) : Wd := { w with H := upd w.H p (.dK []), rs := p :: w.rs }
theorem resD_off {w : Wd} {p : Addr} (n : w.H p = none) : Off w (w.resD p) p := ⟨fun a h => upd_ne h, rfl, fun a h => (List.mem_cons.mp h).elim .inr .inl, .inr n⟩
theorem disp_core {w w1 : Wd} {p : Addr} (s : Sim c w) (n : w.H p = none) (e : Ext (w.resD p) w1) (s1 : Sim c w1) : w1.H p = some (.dK []) ∧ p ∉ w1.ρ ∧ w1.rs = p :: w.rs ∧ p ∉ w.rs ∧
    Ext w (w1.but p w.rs) ∧ Off w1 (w1.but p w.rs) p ∧ Sim c (w1.but p w.rs) := by
  have hp : p ∉ w.ρ := fun h => s.ne_new n h rfl
  have h1 : w1.H p = some (.dK []) := e.keep p _ (show upd w.H p (.dK []) p = _ from upd_same) hp
  have h2 : p ∉ w1.ρ := e.notin (show upd w.H p (.dK []) p = _ from upd_same) hp
  have h3 : w1.rs = p :: w.rs := e.rs
  have h4 := s.rs_new n
  have f : Off w1 (w1.but p w.rs) p := ⟨fun a h => if_neg h, rfl, fun a h => .inl (by rw [h3]; exact List.mem_cons_of_mem _ h), .inl ⟨by rw [h3]; exact List.mem_cons_self, _, h1, .inr (.inl ⟨_, rfl⟩)⟩⟩
  have eb : (w.resD p).but p w.rs = w := by
    show ({ ρ := w.ρ, μ := w.μ, H := fun a => if a = p then none else upd w.H p (.dK []) a, rs := w.rs } : Wd) = w
    have : (fun a => if a = p then none else upd w.H p (.dK []) a) = w.H := by
      funext a
      by_cases h : a = p
      · rw [if_pos h, h, n]
      · rw [if_neg h, upd_ne h]
    rw [this]
  refine ⟨h1, h2, h3, h4, ?_, f, s1.off f rfl h2 fun hm => absurd hm h4⟩
  have := but_ext (rs := w.rs) e (show upd w.H p (.dK []) p ≠ none by rw [upd_same]; exact fun z => nomatch z) hp
  rw [eb] at this
  exact this
theorem disp_exc {w w1 : Wd} {p : Addr} (n : w.H p = none) (e : Ext (w.resD p) w1) (s1 : Sim c w1) : Ext w { w1 with rs := w.rs } ∧ Sim c { w1 with rs := w.rs } := by
  obtain ⟨δ, d1, d2⟩ := e.pre
  have old : ∀ a o, w.H a = some o → (w.resD p).H a = some o := fun a o h => by
    show upd w.H p (.dK []) a = _
    rw [upd_ne (ne_of_none h n)]; exact h
  refine ⟨⟨⟨δ, d1, fun a h => ?_⟩, rfl, fun a o h1 h2 => e.keep a o (old a o h1) h2, fun a h => ?_⟩, s1.len, s1.nd, fun i a o h1 h2 => ?_, fun a ha => ?_⟩
  · cases q : w.H a with
    | none => rfl
    | some o =>
      have := d2 a h
      rw [old a o q] at this; cases this
  · cases q : w.H a with
    | none => exact absurd q h
    | some o => exact e.there a (by rw [old a o q]; exact fun z => nomatch z)
  · have f : ∀ {xs : List Val} {ys : List V}, RVs c w1 xs ys → RVs c { w1 with rs := w.rs } xs ys := fun r => RVs.lessRs (by rw [e.rs]; exact fun a h => List.mem_cons_of_mem _ h) _ _ r
    have ro := s1.ob i a o h1 h2
    cases o with
    | lst xs => obtain ⟨ys, q1, q2⟩ := ro; exact ⟨ys, q1, f q2⟩
    | dct ks vs => obtain ⟨ys, q1, q2⟩ := ro; exact ⟨ys, q1, f q2⟩
  · exact s1.rs a (by rw [e.rs]; exact List.mem_cons_of_mem _ ha)
theorem RX.less {w1 : Wd} {rs : List Addr} (hr : ∀ a, a ∈ rs → a ∈ w1.rs) {e : Exn} {C : Value} {d : Option Addr} (r : RX c w1 e C d) : RX c { w1 with rs := rs } e C d := by
  obtain ⟨A, h1, h2, h3⟩ := r
  refine ⟨A, h1, h2, h3.imp id fun ⟨dx, ys, a1, a2, a3, a4, a5⟩ => ⟨dx, ys, a1, a2, a3, a4, RVs.lessRs hr _ _ a5⟩⟩
theorem but_upd {w1 : Wd} {p : Addr} {rs : List Addr} {o : HO} : upd (w1.but p rs).H p o = upd w1.H p o := by
  funext a
  by_cases h : a = p
  · rw [h, upd_same, upd_same]
  · rw [upd_ne h, upd_ne h]; exact if_neg h
theorem disp_reads (mu : Bool) {ms : List (M Val × M Val)} {σ : St} {H : Hp} {Q : VK} (h : TE' c W ((if mu then mdispM else mdisp) ms) σ H Q) : tDisp (trsOf c W ms) σ H Q := by
  obtain ⟨w, sl, e, s, rs, h⟩ := h
  subst e
  intro p n
  have hp : p ∉ w.ρ := fun h => s.ne_new n h rfl
  have s0 : Sim c (w.resD p) := s.off (resD_off n) rfl hp fun _ => ⟨_, upd_same⟩
  refine pairs_reads ms (w := w.resD p) s0 (rs.off (resD_off n)) ?_
  show match mpairs ms sl w.μ with
      | .ok ps μ' => ∀ w', w'.μ = μ' → Ext (w.resD p) w' → Sim c w' → ∀ xs, RPs c w' ps xs → _
      | .exc e μ' => ∀ w', w'.μ = μ' → Ext (w.resD p) w' → Sim c w' → ∀ cls d, RX c w' e cls d → W cls d σ w'.H
      | .stuck => False
  have h : Post c w (andThen (mpairs ms) (fun ps => fun _ μ => match kPairs ps with
    | some kv => if kv.length ≤ 15 then (if mu then .ok (.ref μ.length) (μ ++ [.dct (dMerge [] [] kv).1 (dMerge [] [] kv).2]) else .ok (.dct (dMerge [] [] kv).1 (dMerge [] [] kv).2) μ) else .stuck
    | none => .stuck) sl w.μ) Q fun cls d H' => W cls d σ H' := by
    cases mu <;> exact h
  unfold andThen at h
  cases q : mpairs ms sl w.μ with
  | stuck => rw [q] at h; exact h
  | exc e μ' =>
    rw [q] at h
    intro w1 hμ e1 s1 cls d r
    subst hμ
    obtain ⟨k1, k2⟩ := disp_exc n e1 s1
    exact h { w1 with rs := w.rs } rfl k1 k2 cls d (r.less fun a ha => by rw [e1.rs]; exact List.mem_cons_of_mem _ ha)
  | ok ps μ' =>
    rw [q] at h
    intro w1 hμ e1 s1 xs rxs
    subst hμ
    obtain ⟨h1, h2, h3, h4, h5, h6, h7⟩ := disp_core s n e1 s1
    dsimp only at h
    cases qk : kPairs ps with
    | none => rw [qk] at h; exact h.elim
    | some kv =>
      rw [qk] at h
      dsimp only at h
      split at h
      · rename_i hl
        obtain ⟨kvs, a1, a2, a3⟩ := kPairs_rv qk rxs
        refine ⟨h1, kvs, a1, ?_, ?_⟩
        · have := congrArg List.length a2
          rw [List.length_map, List.length_map] at this
          omega
        · obtain ⟨kk', ys', b1, b2, b3, b4⟩ := dMerge_zip (kk := []) (vs := []) (ys := []) a2 a3 rfl rfl
          have b3 : mergeK [] kvs = kk'.zip ys' := b3
          rw [b3]
          have r5 : RVs c (w1.but p w.rs) (dMerge [] [] kv).2 ys' := RVs.off h6 _ _ b4
          have n5 : (w1.but p w.rs).H p = none := if_pos rfl
          rw [← but_upd (rs := w.rs)]
          cases mu with
          | false =>
            simp only [Bool.false_eq_true, if_false] at h
            exact h { w1.but p w.rs with H := upd (w1.but p w.rs).H p (.dK (kk'.zip ys')) } rfl (h5.trans (fresh_ext n5)) (fresh_sim h7 n5) _ ⟨p, ys', rfl, ⟨.inl ⟨kk', b1, b2, upd_same⟩, h2, h4⟩, RVs.ext h7 (fresh_ext n5) _ _ r5⟩
          | true =>
            simp only [if_true] at h
            have e6 : Ext (w1.but p w.rs) { w1.but p w.rs with ρ := (w1.but p w.rs).ρ ++ [p], μ := (w1.but p w.rs).μ ++ [.dct (dMerge [] [] kv).1 (dMerge [] [] kv).2], H := upd (w1.but p w.rs).H p (.dK (kk'.zip ys')) } := alloc_ext n5
            refine h _ rfl (h5.trans e6) (alloc_sim h7 n5 ⟨ys', .inl ⟨kk', b1, b2, upd_same⟩, RVs.ext h7 e6 _ _ r5⟩ h4) _ ⟨p, rfl, ?_⟩
            show (w1.ρ ++ [p])[w1.μ.length]? = some p
            rw [← s1.len]
            simp
      · exact h.elim
theorem ge_disp (mu : Bool) {ms : List (M Val × M Val)} {keys : List (Option Expr)} {values : List Expr} (h : PPs X pos keys values (trsOf c W ms)) (hall : keys.all (·.isSome) = true := by rfl) (hl : keys.length = values.length := by rfl) (h0 : keys ≠ [] := by exact fun z => nomatch z)
    (h15 : keys.length ≤ 15 := by decide) : PE X (.Dict keys values pos) (TE' c W ((if mu then mdispM else mdisp) ms)) := (pe_disp h hall hl h0 h15).imp fun _ _ _ h => disp_reads mu h
end

/-! ### {} -/
section
variable {c : Ct} {W : WX} {X : Cx} {pos : Pos}
def mdnew : M Val := fun _ μ => .ok (.ref μ.length) (μ ++ [.dct [] []])
theorem ge_dnew : PE X (.Dict [] [] pos) (TE' c W mdnew) := by
  refine pe_dnewK.imp fun σ H Q ⟨w, sl, e, s, rs, h⟩ => ?_
  subst e
  intro p n
  have e1 : Ext w { w with ρ := w.ρ ++ [p], μ := w.μ ++ [.dct [] []], H := upd w.H p (.dK []) } := alloc_ext n
  refine h _ rfl e1 (alloc_sim s n ⟨[], .inl ⟨[], rfl, rfl, upd_same⟩, rfl⟩ (s.rs_new n)) _ ⟨p, rfl, ?_⟩
  show (w.ρ ++ [p])[w.μ.length]? = some p
  rw [← s.len]
  simp
def mdnewI : M Val := fun _ μ => .ok (.dct [] []) μ
theorem ge_dnewI : PE X (.Dict [] [] pos) (TE' c W mdnewI) := by
  refine pe_dnewK.imp fun σ H Q ⟨w, sl, e, s, rs, h⟩ => ?_
  subst e
  intro p n
  refine h { w with H := upd w.H p (.dK []) } rfl (fresh_ext n) (fresh_sim s n) _ ⟨p, [], rfl, ⟨.inl ⟨[], rfl, rfl, upd_same⟩, fun hm => s.ne_new n hm rfl, s.rs_new n⟩, rfl⟩

/-! ### o[i] = e -/
def vPut (o i v : Val) (μ : Mu) : Option Mu := match o with
  | .ref n => (match μ[n]? with
    | some (.lst xs) => (match i with
      | .int k => (match ixN xs.length k with
        | some j => some (μ.set n (.lst (xs.set j v)))
        | none => none)
      | _ => none)
    | some (.dct ks vs) => (match kOf i with
      | some k => if isKs ks && decide (ks.length < LIM) then some (μ.set n (.dct (dPut (.k k) v ks vs).1 (dPut (.k k) v ks vs).2)) else none
      | none => none)
    | none => none)
  | _ => none
def ssetI (mv mo mi : M Val) : B := sthen mv fun v => sthen mo fun o => sthen mi fun i => fun sl μ => match vPut o i v μ with
  | some μ' => .nx sl μ'
  | none => .stuck
theorem RVs.set' {w : Wd} {xs : List Val} {ys : List V} {x : Val} {v : V} (r : RVs c w xs ys) (rv : RV c w x v) (i : Nat) : RVs c w (xs.set i x) (ys.set i v) := RVs.set rv i r
theorem pset (hu : X.A.units + 64 < cLine) : PSet X fun o i v H Q => ∃ w a b z μ', w.H = H ∧ Sim c w ∧ RV c w a o ∧ RV c w b i ∧ RV c w z v ∧ vPut a b z w.μ = some μ' ∧ ∀ w', w'.μ = μ' → Ext w w' → Sim c w' → Q w'.H := by
  intro pins s σ H o i v ov iv u Q I ro ri rv ⟨w, a, b, z, μ', e, sm, r1, r2, r3, h, hq⟩
  subst e
  unfold vPut at h
  split at h
  · rename_i n
    split at h
    · rename_i xs q
      split at h
      · rename_i k
        split at h
        · rename_i j hj
          cases h
          obtain ⟨p, ys, rfl, hp, h1, h2⟩ := ref_lst sm r1 q
          have r2 : i = V.int k := r2
          subst r2
          refine set_list pins s σ w.H _ _ v ov iv u Q I ro ri rv ⟨p, ys, k, j, rfl, rfl, h1, by rw [← h2.length]; exact hj, ?_⟩
          have e : Ext w { w with μ := w.μ.set n (.lst (xs.set j z)), H := upd w.H p (.lst (ys.set j v)) } := set_ext hp
          exact hq { w with μ := w.μ.set n (.lst (xs.set j z)), H := upd w.H p (.lst (ys.set j v)) } rfl e (set_sim sm hp ⟨_, upd_same, RVs.ext sm e _ _ (h2.set' r3 j)⟩)
        · cases h
      · cases h
    · rename_i ks vs q
      split at h
      · rename_i k hk
        split at h
        · rename_i hi
          cases h
          obtain ⟨hi, hl⟩ := Bool.and_eq_true_iff.mp hi
          have hl := of_decide_eq_true hl
          have q2 : look w.μ (.ref n) = .dct ks vs := by simp only [look, q]
          obtain ⟨p, kk, ys, rfl, e2, e3, e4, e5⟩ := dk_at sm r1 q2 hi
          obtain ⟨p', ep, hp⟩ := r1
          cases ep
          obtain rfl : ov = Value.ref p := ro
          subst e2
          obtain ⟨kk', ys', b1, b2, b3, b4⟩ := dPut_zip (k := k) r3 e3 e5
          have hlen : (kk.zip ys).length < sizeLine := by
            rw [List.length_zip, ← e3, Nat.min_self, ← LIM_eq]
            rwa [List.length_map] at hl
          have g : DPut w.H p i v (upd w.H p (.dK (kk'.zip ys'))) := by
            rw [kOf_rv hk r2, ← b3]; exact DPut.k e4 hlen
          refine d_setItem (by omega) I g ri rv fun s' I' => ⟨_, I', ?_⟩
          have e : Ext w { w with μ := w.μ.set n (.dct (dPut (.k k) z (kk.map .k) vs).1 (dPut (.k k) z (kk.map .k) vs).2), H := upd w.H p (.dK (kk'.zip ys')) } := set_ext hp
          exact hq { w with μ := w.μ.set n (.dct (dPut (.k k) z (kk.map .k) vs).1 (dPut (.k k) z (kk.map .k) vs).2), H := upd w.H p (.dK (kk'.zip ys')) } rfl e (set_sim sm hp ⟨ys', .inl ⟨kk', b1, b2, upd_same⟩, RVs.ext sm e _ _ b4⟩)
        · cases h
      · cases h
    · cases h
  · cases h
theorem gs_setI {o i v : Expr} {mo mi mv : M Val} {p2 : Pos} (hu : X.A.units + 64 < cLine) (hv : PE X v (TE' c W mv)) (ho : PE X o (TE' c W mo)) (hi : PE X i (TE' c W mi))
    (hs : swapsWithSole [.Subscript o i p2] v pos.line X.env = pure false := by rfl) (hw : swappedStores [.Subscript o i p2] v X.env = pure none := by rfl)
    (h1 : (assignEach [.Subscript o i p2] X.env).map (·.2) = [assign (.Subscript o i p2) X.env] := by rfl)
    (ha : ∀ v, assign (.Subscript o i p2) X.env v = (do
      let ov ← holding [v] (eval o X.env)
      let iv ← holding [v, ov] (eval i X.env)
      standAt p2
      holding [v, ov, iv] (setItem ov iv v)
      release [v, ov, iv] []) := by intro _; rfl) :
    PS X (.Assign [.Subscript o i p2] v pos) (TS' c W (ssetI mv mo mi)) := by
  refine (ps_asg hv (pg_sub ho hi (pset (c := c) hu) ha) hs hw h1).imp fun D σ H ⟨w, sl, e, s, rs, h⟩ => ?_
  subst e
  refine ts_then s rs h fun v w1 e1 s1 rs1 h1 x rx => ?_
  refine ts_then s1 rs1 (PostS.ext h1 e1) fun o w2 e2 s2 rs2 h2 y ry => ?_
  refine ts_then s2 rs2 (PostS.ext h2 e2) fun i w3 e3 s3 rs3 h3 z rz => ?_
  have h3 := PostS.ext h3 e3
  cases q : vPut o i v w3.μ with
  | none => rw [q] at h3; exact h3.elim
  | some μ' =>
    rw [q] at h3
    exact ⟨w3, o, i, v, μ', rfl, s3, RV.ext s2 e3 _ _ ry, rz, RV.ext s1 (e2.trans e3) _ _ rx, q, fun w4 hμ e4 s4 => h3 w4 hμ e4 s4 σ (rs3.ext s3 e4)⟩
end

/-! ### + and * of anything -/
def vAdd2 (x y : Val) (μ : Mu) : Res Val := match itemsH x μ, itemsH y μ with
  | some xs, some ys => if xs.length + ys.length ≤ LIM then .ok (.lst (xs ++ ys)) μ else .stuck
  | _, _ => vAdd x y μ
def vMul2 (x y : Val) (μ : Mu) : Res Val := match itemsH x μ with
  | some xs => (match y with
    | .int k => if small62 k ∧ xs.length * k.toNat ≤ LIM then .ok (.lst (List.replicate k.toNat xs).flatten) μ else .stuck
    | _ => .stuck)
  | none => vMul x y μ
theorem nx_Add2 : NoExc2 vAdd2 := fun a b μ e μ' h => by
  unfold vAdd2 at h
  split at h
  · split at h <;> cases h
  · exact nx_Add _ _ _ _ _ h
theorem nx_Mul2 : NoExc2 vMul2 := fun a b μ e μ' h => by
  unfold vMul2 at h
  split at h
  · split at h
    · split at h <;> cases h
    · cases h
  · exact nx_Mul _ _ _ _ _ h
section
variable {c : Ct} {X : Cx}
theorem og_Add2 (hK : X.K = c.K) : OpG c X (binaryOp .Add) vAdd2 := by
  intro pins s σ H x y v u Q I rx ry ⟨w, a, b, e, sm, r1, r2, h⟩
  subst e
  unfold vAdd2 at h
  split at h
  · rename_i xs ys q1 q2
    split at h
    · rename_i hl
      obtain ⟨p, zs, rfl, h1, h2⟩ := itemsH_H sm r1 q1
      obtain ⟨p2, zs2, rfl, h3, h4⟩ := itemsH_H sm r2 q2
      exact op_cat pins s σ w.H _ _ v u Q I rx ry ⟨p, p2, zs, zs2, rfl, rfl, h1, h3, by rw [← h2.length, ← h4.length, ← LIM_eq]; exact hl, fun D hD => h.lst sm (h2.append h4) hD⟩
    · exact h.elim
  · exact og_Add hK pins s σ w.H x y v u Q I rx ry ⟨w, a, b, rfl, sm, r1, r2, h⟩
theorem og_Mul2 : OpG c X (binaryOp .Mult) vMul2 := by
  intro pins s σ H x y v u Q I rx ry ⟨w, a, b, e, sm, r1, r2, h⟩
  subst e
  unfold vMul2 at h
  split at h
  · rename_i xs q1
    split at h
    · rename_i k
      split at h
      · rename_i hl
        obtain ⟨p, zs, rfl, h1, h2⟩ := itemsH_H sm r1 q1
        have r2 : y = V.int k := r2
        subst r2
        obtain ⟨i1, i2⟩ := small62_iff hl.1
        exact op_rep pins s σ w.H _ _ v u Q I rx ry ⟨p, k, zs, rfl, rfl, h1, by omega, by omega, by rw [← h2.length, ← LIM_eq]; exact hl.2, fun D hD => h.lst sm (h2.rep _) hD⟩
      · exact h.elim
    · exact h.elim
  · exact og_Mul pins s σ w.H x y v u Q I rx ry ⟨w, a, b, rfl, sm, r1, r2, h⟩
end
end G

/-! G14: the rules as a program prints them. -/
namespace G
open PySem PySem.Spec PyProof.Rows L2

theorem u65 {k : Nat} {A : Around} (r : Room k A) : A.units + 65 < cLine := by have := r.un; omega
section
variable {c : Ct} {W : WX} {X : Cx} {pos p p2 : Pos} {a b d : Expr} {ma mb md : M Val} {x : Str}
theorem v_ (i : Nat) (hN : X.N[i]? = some x := by rfl) (hv : Vis X.env.scope x := by first | exact Or.inl rfl | exact Or.inr (Or.inl rfl) | exact Or.inr (Or.inr rfl)) (hd : (x == ("__debug__" : Str)) = false := by decide) (hcd : (x == ("__classdict__" : Str)) = false := by decide) : PE X (.Name x pos) (TE' c W (mvar i)) := ge_var hN hv hd hcd
/-- a constant of the module -/
structure GlobT (c : Ct) (mg : Str → Option Value) (x : Str) (v : Val) : Prop where
  ex : ∃ u y, mg x = some u ∧ RelV y u ∧ ∀ w, RV c w v y
theorem k_ {v : Val} (T : GlobT c X.mg x v) (hg : Gl X x := by rfl) (hdb : (x == ("__debug__" : Str)) = false := by decide) : PE X (.Name x pos) (TE' c W (mcst v)) := by
  obtain ⟨u, y, h1, h2, h3⟩ := T.ex
  exact ge_glob h1 h2 h3 hg hdb
theorem not_ (ha : PE X a (TE' c W ma)) (hK : X.K = c.K := by rfl) : PE X (.UnaryOp .Not a pos) (TE' c W (mnot ma)) := ge_not hK ha
theorem and_ {rest : List Expr} (ha : PE X a (TE' c W ma)) (hb : PE X (.BoolOp .And (b :: rest) pos) (TE' c W mb)) (hK : X.K = c.K := by rfl) : PE X (.BoolOp .And (a :: b :: rest) pos) (TE' c W (mand ma mb)) := ge_and hK ha hb
theorem or_ {rest : List Expr} (ha : PE X a (TE' c W ma)) (hb : PE X (.BoolOp .Or (b :: rest) pos) (TE' c W mb)) (hK : X.K = c.K := by rfl) : PE X (.BoolOp .Or (a :: b :: rest) pos) (TE' c W (mor ma mb)) := ge_or hK ha hb
theorem tr_ (ha : PE X a (TE' c W ma)) (hK : X.K = c.K := by rfl) (he : ∀ whole, isTrue a X.env whole = (do let v ← whole; standAt a.pos; holding [v] (truthy v)) := by intro _; rfl) : PT X a (TT' c W (mtruth ma)) := gt_truth hK ha he
theorem ix_ (hu : X.A.units + 65 < cLine) (ha : PE X a (TE' c W ma)) (hb : PE X b (TE' c W mb)) (hs : PlainIx b := by intro _ _; rfl) (hK : X.K = c.K := by rfl) : PE X (.Subscript a b pos) (TE' c W (mop2 vSub2 ma mb)) := ge_ix (ig_Sub2 hK (by omega)) nx_Sub2 ha hb hs
theorem tab_ {D : Str} {tbl : List (Str × Val)} (T : KTab c X.w X.mg D tbl) (hb : PE X b (TE' c W mb)) (hs : PlainIx b := by intro _ _; rfl) (hK : X.K = c.K := by rfl) (hg : Gl X D := by rfl) (hdb : (D == ("__debug__" : Str)) = false := by decide) : PE X (.Subscript (.Name D p) b pos) (TE' c W (mop1 (vTab tbl) mb)) := ge_tab T hb hs hK hg hdb
theorem sl_ {lo hi : Option Expr} {ml mh : M (Option Int)} (ha : PE X a (TE' c W ma)) (hl : PO X lo (TO' c W ml)) (hh : PO X hi (TO' c W mh)) (hK : X.K = c.K := by rfl) :
    PE X (.Subscript a (.Slice lo hi none p2) pos) (TE' c W (mslice vSlice ma ml mh)) := ge_slice (sg_Slice hK) nx_Slice ha hl hh

/-! operators -/
section
variable {op : Operator} {g : Val → Val → Mu → Res Val}
/-- an operator's rule, whatever the context -/
structure BinT (c : Ct) (op : Operator) (g : Val → Val → Mu → Res Val) : Prop where
  o : ∀ X : Cx, X.K = c.K → OpG c X (binaryOp op) g
  n : NoExc2 g
theorem b_Add : BinT c .Add vAdd2 := ⟨fun _ h => og_Add2 h, nx_Add2⟩
theorem b_Sub : BinT c .Sub vSub := ⟨fun _ _ => og_Sub, nx_Sub⟩
theorem b_Mult : BinT c .Mult vMul2 := ⟨fun _ _ => og_Mul2, nx_Mul2⟩
theorem b_FloorDiv : BinT c .FloorDiv vFdiv := ⟨fun _ _ => og_Fdiv, nx_Fdiv⟩
theorem b_Mod : BinT c .Mod vMod := ⟨fun _ _ => og_Mod, nx_Mod⟩
theorem bin_ (T : BinT c op g) (ha : PE X a (TE' c W ma)) (hb : PE X b (TE' c W mb)) (hK : X.K = c.K := by rfl) : PE X (.BinOp a op b pos) (TE' c W (mop2 g ma mb)) := ge_op (T.o X hK) T.n ha hb
end
section
variable {op op' : CmpOp} {g g' : Val → Val → Mu → Res Val}
structure CmpT (c : Ct) (op : CmpOp) (g : Val → Val → Mu → Res Val) : Prop where
  o : ∀ X : Cx, X.K = c.K → X.A.units + 65 < cLine → OpG c X (compareOp op) g
  n : NoExc2 g
theorem c_Eq : CmpT c .Eq vEq := ⟨fun _ h hu => og_Eq h (by omega), nx_Eq⟩
theorem c_NotEq : CmpT c .NotEq vNe := ⟨fun _ h hu => og_Ne h (by omega), nx_Ne⟩
theorem c_Lt : CmpT c .Lt vLt := ⟨fun _ h hu => og_Lt, nx_Lt⟩
theorem c_LtE : CmpT c .LtE vLe := ⟨fun _ h hu => og_Le, nx_Le⟩
theorem c_Gt : CmpT c .Gt vGt := ⟨fun _ h hu => og_Gt, nx_Gt⟩
theorem c_GtE : CmpT c .GtE vGe := ⟨fun _ h hu => og_Ge, nx_Ge⟩
theorem c_In : CmpT c .In vIn2 := ⟨fun _ h hu => og_In2 h hu, nx_In2⟩
theorem c_NotIn : CmpT c .NotIn vNotIn2 := ⟨fun _ h hu => og_NotIn2 h hu, nx_NotIn2⟩
theorem c_Is : CmpT c .Is vIsN := ⟨fun _ h hu => og_IsN, nx_IsN⟩
theorem c_IsNot : CmpT c .IsNot vNotN := ⟨fun _ h hu => og_NotN, nx_NotN⟩
theorem cmp_ (T : CmpT c op g) (hu : X.A.units + 65 < cLine) (ha : PE X a (TE' c W ma)) (hb : PE X b (TE' c W mb)) (hm : behindInMarks op b = false := by rfl) (hK : X.K = c.K := by rfl) : PE X (.Compare a [op] [b] pos) (TE' c W (mop2 g ma mb)) := ge_cmp (T.o X hK hu) T.n ha hb hm
theorem tcmp_ (T : CmpT c op g) (hu : X.A.units + 65 < cLine) (ha : PE X a (TE' c W ma)) (hb : PE X b (TE' c W mb)) (hm : behindInMarks op b = false := by rfl) (hK : X.K = c.K := by rfl) : PT X (.Compare a [op] [b] pos) (TT' c W (mbool (mop2 g ma mb))) := gt_cmp (T.o X hK hu) T.n ha hb hm
theorem chain_ (T : CmpT c op g) (T' : CmpT c op' g') (hu : X.A.units + 65 < cLine) (ha : PE X a (TE' c W ma)) (hb : PE X b (TE' c W mb)) (hd : PE X d (TE' c W md)) (hm : lastMarks [op, op'] [b, d] = false := by with_unfolding_all rfl) (hK : X.K = c.K := by rfl) : PE X (.Compare a [op, op'] [b, d] pos) (TE' c W (mchain g g' ma mb md)) := ge_chain (T.o X hK hu) T.n (T'.o X hK hu) T'.n ha hb hd hm
theorem tchain_ (T : CmpT c op g) (T' : CmpT c op' g') (hu : X.A.units + 65 < cLine) (ha : PE X a (TE' c W ma)) (hb : PE X b (TE' c W mb)) (hd : PE X d (TE' c W md)) (hm : lastMarks [op, op'] [b, d] = false := by with_unfolding_all rfl) (hK : X.K = c.K := by rfl) : PT X (.Compare a [op, op'] [b, d] pos) (TT' c W (mbool (mchain g g' ma mb md))) := by
  refine gt_bool' (pt_chain (T.o X hK hu) (T'.o X hK hu) ha hb hd hm) fun σ H Q ⟨w, sl, e, s, rs, h⟩ => ?_
  subst e
  refine te_then (R := fun w r => Post c w r Q fun cls d H' => W cls d σ H') s rs exc_post (fun z => z) h fun v w1 e1 s1 rs1 h1 x rx => ?_
  refine te_then (R := fun w r => Post c w r Q fun cls d H' => W cls d σ H') s1 rs1 exc_post (fun z => z) (h1.ext e1) fun u w2 e2 s2 rs2 h2 y ry => ?_
  refine ⟨w2, v, u, rfl, s2, RV.ext s1 e2 _ _ rx, ry, ?_⟩
  refine tr_then (m := fun _ μ => g v u μ) (R := fun w r => Post c w r Q fun cls d H' => W cls d σ H') (T.n _ _ _) (fun z => z) (h2.ext e2) fun z w3 e3 s3 h3 p rp => ?_
  have h3 := h3.ext e3
  have rs3 := rs2.ext s2 e3
  cases z with
  | bl k =>
    refine ⟨k, rp, ?_⟩
    cases k with
    | true =>
      refine iteT ?_
      refine te_then (R := fun w r => Post c w r Q fun cls d H' => W cls d σ H') s3 rs3 exc_post (fun z => z) h3 fun q w4 e4 s4 rs4 h4 y' ry' => ?_
      exact ⟨w4, u, q, rfl, s4, RV.ext s2 (e3.trans e4) _ _ ry, ry', (h4.ext e4).noexc (T'.n _ _ _)⟩
    | false => exact iteF (h3.here s3 rfl)
  | _ => exact h3.elim
end

/-! built-in functions -/
section
variable {e : Expr} {es : List Expr} {mr : M (List Val)} {id : String} {g : List Val → Mu → Res Val} {gF : List Val → Mu → Res (List Val)}
structure FunT (c : Ct) (f : Value) (g : List Val → Mu → Res Val) : Prop where
  o : ∀ X : Cx, X.K = c.K → X.calm = true → X.A.units + 65 < cLine → CaG c X f g
  n : NoExc g
structure FunF (c : Ct) (f : Value) (g : List Val → Mu → Res (List Val)) : Prop where
  o : ∀ X : Cx, X.K = c.K → X.calm = true → X.A.units + 65 < cLine → CaF c X f g
  n : NoExc g
theorem f_len : FunT c (.builtin "len") vLen := ⟨fun _ h _ _ => cg_Len h, nx_Len⟩
theorem f_abs : FunT c (.builtin "abs") vAbs := ⟨fun _ _ _ _ => cg_Abs, nx_Abs⟩
theorem f_int : FunT c (.type "int") vInt := ⟨fun _ _ _ _ => cg_Int, nx_Int⟩
theorem f_max2 : FunT c (.builtin "max") vMax2 := ⟨fun _ _ h _ => cg_Max2 h, nx_Max2⟩
theorem f_min2 : FunT c (.builtin "min") vMin2 := ⟨fun _ _ h _ => cg_Min2 h, nx_Min2⟩
theorem f_max : FunT c (.builtin "max") vMax := ⟨fun _ h1 h2 hu => cg_Max h1 h2 (by omega), nx_Max⟩
theorem f_min : FunT c (.builtin "min") vMin := ⟨fun _ h1 h2 hu => cg_Min h1 h2 (by omega), nx_Min⟩
theorem f_tuple : FunT c (.type "tuple") vTuple := ⟨fun _ h _ _ => cg_Tuple h, nx_Tuple⟩
theorem f_any : FunT c (.builtin "any") vAny := ⟨fun _ h h2 _ => cg_Any h h2, nx_Any⟩
theorem f_all : FunT c (.builtin "all") vAll := ⟨fun _ h h2 _ => cg_All h h2, nx_All⟩
theorem f_sum : FunT c (.builtin "sum") vSum := ⟨fun _ h h2 _ => cg_Sum h h2, nx_Sum⟩
theorem f_isinstance : FunT c (.builtin "isinstance") vIsi := ⟨fun _ h _ _ => cg_Isi h, nx_Isi⟩
theorem f_list : FunF c (.type "list") vList := ⟨fun _ h _ _ => cf_List h, nx_List⟩
theorem f_sorted : FunF c (.builtin "sorted") vSorted := ⟨fun _ h _ hu => cf_Sorted h (by omega), nx_Sorted⟩
theorem cb_ (F : FunT c (.builtin id) g) (hm : X.mg x = none) (hu : X.A.units + 65 < cLine) (ha : PA X (e :: es) (TA' c W mr)) (hK : X.K = c.K := by rfl) (hc : X.calm = true := by rfl) (hg : Gl X x := by rfl) (hv : bootBuiltins x = some (.builtin id) := by decide +kernel) (hn : x ≠ "__name__" := by decide) (hdb : (x == ("__debug__" : Str)) = false := by decide)
    (he : starEach (e :: es) X.env = (false, eval e X.env) :: starEach es X.env := by rfl) (hpl : (backTo pos (starEach es X.env)).any (·.1) = false := by rfl) : PE X (.Call (.Name x p) (e :: es) [] pos) (TE' c W (mcall g mr)) := ge_callB (F.o X hK hc hu) F.n hm ha hg hv hn hdb he hpl
theorem ct_ (F : FunT c (.type id) g) (hm : X.mg x = none) (hu : X.A.units + 65 < cLine) (ha : PA X (e :: es) (TA' c W mr)) (hK : X.K = c.K := by rfl) (hc : X.calm = true := by rfl) (hg : Gl X x := by rfl) (hv : bootBuiltins x = some (.type id) := by decide +kernel) (hn : x ≠ "__name__" := by decide) (hdb : (x == ("__debug__" : Str)) = false := by decide)
    (he : starEach (e :: es) X.env = (false, eval e X.env) :: starEach es X.env := by rfl) (hpl : (backTo pos (starEach es X.env)).any (·.1) = false := by rfl) : PE X (.Call (.Name x p) (e :: es) [] pos) (TE' c W (mcall g mr)) := ge_callT (F.o X hK hc hu) F.n hm ha hg hv hn hdb he hpl
theorem fb_ (F : FunF c (.builtin id) gF) (hm : X.mg x = none) (hu : X.A.units + 65 < cLine) (ha : PA X (e :: es) (TA' c W mr)) (hK : X.K = c.K := by rfl) (hc : X.calm = true := by rfl) (hg : Gl X x := by rfl) (hv : bootBuiltins x = some (.builtin id) := by decide +kernel) (hn : x ≠ "__name__" := by decide) (hdb : (x == ("__debug__" : Str)) = false := by decide)
    (he : starEach (e :: es) X.env = (false, eval e X.env) :: starEach es X.env := by rfl) (hpl : (backTo pos (starEach es X.env)).any (·.1) = false := by rfl) : PE X (.Call (.Name x p) (e :: es) [] pos) (TF' c W (mcall gF mr)) := gf_callB (F.o X hK hc hu) F.n hm ha hg hv hn hdb he hpl
theorem ft_ (F : FunF c (.type id) gF) (hm : X.mg x = none) (hu : X.A.units + 65 < cLine) (ha : PA X (e :: es) (TA' c W mr)) (hK : X.K = c.K := by rfl) (hc : X.calm = true := by rfl) (hg : Gl X x := by rfl) (hv : bootBuiltins x = some (.type id) := by decide +kernel) (hn : x ≠ "__name__" := by decide) (hdb : (x == ("__debug__" : Str)) = false := by decide)
    (he : starEach (e :: es) X.env = (false, eval e X.env) :: starEach es X.env := by rfl) (hpl : (backTo pos (starEach es X.env)).any (·.1) = false := by rfl) : PE X (.Call (.Name x p) (e :: es) [] pos) (TF' c W (mcall gF mr)) := gf_callT (F.o X hK hc hu) F.n hm ha hg hv hn hdb he hpl
end

/-! targets, walks, statements -/
theorem n_ (i : Nat) (hN : X.N.Nodup) (hi : X.N[i]? = some x := by rfl) (hx : Loc X.env.scope x := by first | exact Or.inl rfl | exact Or.inr rfl) (hf : X.fn x = true ∨ X.env.scope.names.lookup x = some .local := by first | exact .inl rfl | exact .inr rfl) : PG X (.Name x pos) (TG' c (.nm i)) := gg_nm hN hi hx hf
theorem in_ {tg l : Expr} {ml : M Val} (hl : PE X l (TE' c W ml)) (hK : X.K = c.K := by rfl) : PI X tg l (TI' c W (iseq ml)) := gi_seq hK hl
theorem set_ (i : Nat) {m : M Val} {e : Expr} (hN : X.N.Nodup) (he : PE X e (TE' c W m)) (hi : X.N[i]? = some x := by rfl) (hx : Loc X.env.scope x := by first | exact Or.inl rfl | exact Or.inr rfl) (hs : swapsWith e (some (.Name x p2)) pos.line X.env = pure false := by rfl) (hf : X.fn x = true ∨ X.env.scope.names.lookup x = some .local := by first | exact .inl rfl | exact .inr rfl) :
    PS X (.Assign [.Name x p2] e pos) (TS' c W (sasg m (.nm i))) := gs_set hN hi hx he hs hf
theorem for_ {tg iter : Expr} {body : List Stmt} {src : M Src} {t : Tgt} {b : B} (hp : PassesOwn (model X.prog X.w) X.A X.env X.xe) (hi : PI X tg iter (TI' c W src)) (hg : PG X tg (TG' c t)) (hb : PSs X body (TS' c W b)) (hc : X.calm = true := by rfl)
    (hs : ∀ x, foldedSetIterable iter X.env x = pure x := by intro _; rfl) : PS X (.For tg iter body [] pos) (TS' c W (sfor src t b)) := gs_for hp hc hi hg hb hs
theorem tp_ {es : List Expr} {k : Nat} {ts : List Tgt} {n : Nat} (h : PGs X es (TGs' c ts)) (hts : ts.length = n := by rfl) (hn : (assignEach es X.env).length = n := by rfl) (hst : (assignEach es X.env).findIdx? (·.1) = none := by rfl) (hK : X.K = c.K := by rfl) (hc : X.calm = true := by rfl) : PG X (.Tuple es k pos) (TG' c (.tp ts)) := gg_tp hK hc h hts hn hst
section
variable {elt tg iter : Expr} {ifs : List Expr} {scope : Scope} {src : M Src} {t : Tgt} {mc : M Bool} {me : M Val} {y : Str} {py spos : Pos}
theorem lc_ (own : List (Str × Nat)) (hN : X.N.Nodup) (hi : PI X tg iter (TI' c W src))
    (hg : ∀ (s : Shared) (H : Hp) (C : Addr) (cl : List (Str × Addr)) (fp : List Addr), PG (X.blk s H scope (compEnvC scope cl C X.env) fp) tg (TG' c t)) (ht : ∀ (s : Shared) (H : Hp) (C : Addr) (cl : List (Str × Addr)) (fp : List Addr), PTs (X.blk s H scope (compEnvC scope cl C X.env) fp) ifs (TT' c W0 mc))
    (he : ∀ (s : Shared) (H : Hp) (C : Addr) (cl : List (Str × Addr)) (fp : List Addr), PE (X.blk s H scope (compEnvC scope cl C X.env) fp) elt (TE' c W0 me)) (ok : blkC X.N X.env.scope scope own = true := by kernel_rfl) (hsl : ∀ i ∈ t.slots, i ∈ own.map (·.2) := by decide) (hc : X.calm = true := by rfl) (hs : ∀ x, foldedSetIterable iter X.env x = pure x := by intro _; rfl) :
    PE X (.ListComp elt [⟨tg, iter, ifs, 0⟩] scope pos) (TF' c W (mlc src (own.map (·.2)) t mc me)) := gf_lc hc hN hi (blkOk_by ok) hg ht he hsl hs
theorem setlc_ (mu : Bool) (i : Nat) (own : List (Str × Nat)) (hN : X.N.Nodup) (hi : PI X tg iter (TI' c W src))
    (hg : ∀ (s : Shared) (H : Hp) (C : Addr) (cl : List (Str × Addr)) (fp : List Addr), PG (X.blk s H scope (compEnvC scope cl C X.env) fp) tg (TG' c t)) (ht : ∀ (s : Shared) (H : Hp) (C : Addr) (cl : List (Str × Addr)) (fp : List Addr), PTs (X.blk s H scope (compEnvC scope cl C X.env) fp) ifs (TT' c W0 mc))
    (he : ∀ (s : Shared) (H : Hp) (C : Addr) (cl : List (Str × Addr)) (fp : List Addr), PE (X.blk s H scope (compEnvC scope cl C X.env) fp) elt (TE' c W0 me)) (hsw : swapsWith (.ListComp elt [⟨tg, iter, ifs, 0⟩] scope pos) (some (.Name y py)) spos.line X.env = pure true := by exact sw_true rfl rfl rfl (by kernel_rfl)) (ok : blkC X.N X.env.scope scope own = true := by kernel_rfl) (hy : X.N[i]? = some y := by rfl) (hyl : X.env.scope.names.lookup y = some .local := by rfl) (hsl : ∀ i ∈ t.slots, i ∈ own.map (·.2) := by decide) (hc : X.calm = true := by rfl) (hs : ∀ x, foldedSetIterable iter X.env x = pure x := by intro _; rfl) :
    PS X (.Assign [.Name y py] (.ListComp elt [⟨tg, iter, ifs, 0⟩] scope pos) spos) (TS' c W (sasg ((if mu then mmut else mimm) (mlc src (own.map (·.2)) t mc me)) (.nm i))) := gs_setLc mu hc hN hy hyl hsw hi (blkOk_by ok) hg ht he hsl hs
end
theorem par_ (i j : Nat) {x y : Str} {m : M (List Val)} {px py pt : Pos} {kt k2 pt2} (hN : X.N.Nodup) (ha : PA X [a, b] (TA' c W m)) (hij : i ≠ j := by decide) (hi : X.N[i]? = some x := by rfl) (hj : X.N[j]? = some y := by rfl)
    (hx : X.env.scope.names.lookup x = some .local := by rfl) (hy : X.env.scope.names.lookup y = some .local := by rfl)
    (hw : swappedStores [.Tuple [.Name x px, .Name y py] kt pt] (.Tuple [a, b] k2 pt2) X.env = pure (some [x, y]) := by rfl)
    (hs : swapsWithSole [.Tuple [.Name x px, .Name y py] kt pt] (.Tuple [a, b] k2 pt2) pos.line X.env = pure false := by rfl) (hc : X.calm = true := by rfl) :
    PS X (.Assign [.Tuple [.Name x px, .Name y py] kt pt] (.Tuple [a, b] k2 pt2) pos) (TS' c W (spar m i j)) := gs_par hc hN hi hj hij hx hy ha hw hs
end
end G

/-! G15: the ends of a law. -/
namespace G
open PySem PySem.Spec PyProof.Rows L2

theorem u64 {A : Around} (h : A.units + 65 < cLine) : A.units + 64 < cLine := by omega
structure DefT (c : Ct) (mg : Str → Option Value) (x : Str) (st : Stmt) (ps : List Str) : Prop where
  ex : ∃ f fd, Fun c.K x x st f fd ∧ mg x = some (.ref f) ∧ PySem.W.keepIn c.K (.ref f) = true ∧ Binds c.K fd ps []
theorem lookup_cons {β : Type} {k z : Str} {b v : β} {l : List (Str × β)} (h : List.lookup z ((k, b) :: l) = some v) : (k = z ∧ b = v) ∨ List.lookup z l = some v := by
  rw [List.lookup_cons] at h
  by_cases e : z == k
  · rw [e] at h
    exact .inl ⟨(eq_of_beq e).symm, Option.some.inj h⟩
  · rw [show (z == k) = false by simpa using e] at h
    exact .inr h
/-- what is asked of the law, in plain Lean -/
def LawOk (f : Sem) : Prop := ∀ ns : List Int, ns.length ≤ 63 → ∃ μ, f [.rol (ns.map .int)] [] = .ok (.bl true) μ
def spLawG (K : PySem.W.Frag) : Sp := fun vs H Q _ => ∃ (a : Addr) (ns : List Int), vs = [.ref a] ∧ ((∃ o, H a = some (.frz o (.lst (ns.map V.int)))) ∨ StL K a (ns.map V.int)) ∧ ns.length ≤ 63 ∧ ∀ H', Q (.bl true) H'
theorem RVs_ints {c : Ct} {w : Wd} : ∀ ns : List Int, RVs c w (ns.map Val.int) (ns.map V.int)
  | [] => rfl
  | n :: ns => ⟨_, _, rfl, rfl, RVs_ints ns⟩
theorem law_fn {P : Program} {w : World} {c : Ct} {mg : Str → Option Value} {base : Heap} {k : Nat} {f : Sem} {fa : Addr} {fd : FuncData} (HL : LawOk f) (F : FnOk P w c.K mg base (L2.CX P w) k fa fd ["script"] (spG c f)) : FnOk P w c.K mg base (L2.CX P w) k fa fd ["script"] (spLawG c.K) := by
  refine F.imp fun vs H Q E ⟨a, ns, e, h, hl, q⟩ => ?_
  subst e
  obtain ⟨μ, hf⟩ := HL ns hl
  refine ⟨{ ρ := [], μ := [], H := H, rs := [] }, [.rol (ns.map .int)], rfl, ⟨rfl, List.nodup_nil, (fun i a o h => by simp at h), (fun a h => by cases h)⟩, ⟨.ref a, [], rfl, ⟨a, ns.map V.int, rfl, h, RVs_ints ns⟩, rfl⟩, ?_⟩
  show Post c _ (f [.rol (ns.map .int)] []) Q E
  rw [hf]
  intro w' _ _ _ x rx
  rw [show x = V.bl true from rx]
  exact q _
theorem walkG {l : PySem.W.OpenLaw} {k : Nat} {q : Program} {loose : List Str} {XP : (Str → Option Value) → Heap → Prop} {YP : World → Heap → Prop} {d : DefRec} {K : Params → PySem.W.Frag} (hn : l.most = some 63) (hdf : d.params.defaults = []) (hr : Room k callerA)
    (hY : ∀ (w : World) (h : Heap), YP w h → (K w.params).In h)
    (F : ∀ (w : World) (mg : Str → Option Value) (fa : Addr) (h : Heap), (K w.params).In h → h.Ns mainGlobals mg → mg d.name = some (.ref fa) →
      ∃ fd : FuncData, (∀ (s : Shared) (u : Value), BindsTo s fd ⟨[u], []⟩ [("script", u)]) ∧ ∀ base : Heap, (K w.params).In base → base.Ns mainGlobals mg → FnOk l.prog w (K w.params) mg base (L2.CX l.prog w) k fa fd ["script"] (spLawG (K w.params))) :
    PySem.W.WalkO q loose XP YP l.row.toRowW d [] (fun f vs => PySem.call f vs) :=
  L2.walk_of (n := 63) (k := k) (x := "script") (CX := fun w => L2.CX l.prog w) (sp := fun w => spLawG (K w.params)) hn (by decide) hdf hr hY F
    (fun w H a ns hl hO hS => ⟨a, ns, rfl, by
      rcases hS with (h | ⟨o, h⟩) | h
      · rcases hO a with q | ⟨o, xs, q⟩ <;> (rw [h] at q; cases q)
      · exact .inl ⟨o, h⟩
      · exact .inr h, hl, fun _ => rfl⟩) fun w H s e s' ⟨_, _, _, _, _, _, _, _, _, _, _, _, z⟩ => z
theorem sqT_st {K : PySem.W.Frag} {H : Hp} {a : Addr} {its : List Value} {n : Nat} {sl : Array (Option Value)} {ys : List V} (h : K.lookup a = some ⟨.type "tuple", none, .seq its.toArray n, sl⟩) (hn : its.length ≤ LIM) (v : Vals ys its) : SqT K H a ys :=
  .inr ⟨_, its.toArray, n, h, rfl, rfl, by rw [List.size_toArray, ← LIM_eq]; exact hn, v⟩
theorem exm_by {K : PySem.W.Frag} {C H : Addr} {b : Bool} (h1 : PySem.W.subIn K (.ref H) (.type "BaseException") = some true) (h2 : PySem.W.isClsIn K H = true) (h3 : PySem.W.typeIn K (.ref H) = some (.type "type")) (h4 : PySem.W.subIn K (.ref C) (.ref H) = some b) : PySem.W.exmOne K (.ref C) (.ref H) = some b := by
  have h2 : (PySem.W.clsIn K H).isSome = true := h2
  unfold PySem.W.exmOne
  rw [h1, if_pos (by decide +kernel)]
  show (if ((PySem.W.clsIn K H).isSome && PySem.W.typeIn K (.ref H) == some (.type "type")) = true then PySem.W.subIn K (.ref C) (.ref H) else none) = some b
  rw [h2, h3, if_pos (by decide +kernel)]
  exact h4
end G

/-! G16: reasoning about programs. -/
namespace G
open PySem

def Flow.isNx : Flow → Bool
  | .nx _ _ => true
  | _ => false
def Flow.sl : Flow → Sl
  | .nx sl _ => sl
  | _ => []
def Flow.mu : Flow → Mu
  | .nx _ μ => μ
  | _ => []
theorem Flow.of_nx {f : Flow} (h : f.isNx = true) : f = .nx f.sl f.mu := by
  cases f <;> first | rfl | cases h

/-! ### a row of statements -/
theorem seq_nx {a b : B} {sl sl' : Sl} {μ μ' : Mu} (h : a sl μ = .nx sl' μ') : sseq a b sl μ = b sl' μ' := by
  unfold sseq; rw [h]
theorem asg_ok {m : M Val} {i : Nat} {sl : Sl} {μ μ' : Mu} {v : Val} (h : m sl μ = .ok v μ') : sasg m (.nm i) sl μ = .nx (sl.set i (some v)) μ' := by
  unfold sasg sthen; rw [h]; rfl
theorem ret_ok {m : M Val} {sl : Sl} {μ μ' : Mu} {v : Val} (h : m sl μ = .ok v μ') : sret m sl μ = .rt v μ' := by
  unfold sret sthen; rw [h]
theorem seq_rt {a b : B} {sl : Sl} {μ μ' : Mu} {v : Val} (h : a sl μ = .rt v μ') : sseq a b sl μ = .rt v μ' := by
  unfold sseq; rw [h]
theorem defB_rt {np nl : Nat} {b : B} {vs : List Val} {μ μ' : Mu} {v : Val} (hl : vs.length = np) (h : b (startS nl vs) μ = .rt v μ') : defB np nl b vs μ = .ok v μ' := by
  unfold defB; rw [if_pos hl, h]

section
variable {sl : Sl} {μ μ1 μ2 : Mu} {a b m : M Val} {r as : M (List Val)} {v u : Val} {vs : List Val} {x : Res Val}
theorem acons_ok (h1 : a sl μ = .ok v μ1) (h2 : r sl μ1 = .ok vs μ2) : acons a r sl μ = .ok (v :: vs) μ2 := by
  unfold acons andThen; rw [h1]; dsimp only; rw [h2]
theorem anil_ok : anil sl μ = .ok [] μ := rfl
theorem mlst_ok (h : as sl μ = .ok vs μ1) (hl : vs.length ≤ LIM) : mlst as sl μ = .ok vs μ1 := by
  unfold mlst andThen; rw [h]; exact if_pos hl
theorem mtup_ok (h : as sl μ = .ok vs μ1) (hl : vs.length ≤ LIM) : mtup as sl μ = .ok (.tup vs) μ1 := by
  unfold mtup andThen; rw [h]; exact if_pos hl
theorem mimm_ok (h : as sl μ = .ok vs μ1) : mimm as sl μ = .ok (.lst vs) μ1 := by
  unfold mimm andThen; rw [h]
theorem mmut_ok (h : as sl μ = .ok vs μ1) : mmut as sl μ = .ok (.ref μ1.length) (μ1 ++ [.lst vs]) := by
  unfold mmut andThen; rw [h]
theorem mcall_ok {g : List Val → Mu → Res Val} (h : as sl μ = .ok vs μ1) : mcall g as sl μ = g vs μ1 := by
  unfold mcall andThen; rw [h]
theorem mcallF_ok {g : List Val → Mu → Res (List Val)} (h : as sl μ = .ok vs μ1) : mcall g as sl μ = g vs μ1 := by
  unfold mcall andThen; rw [h]
theorem mop2_ok {g : Val → Val → Mu → Res Val} (h1 : a sl μ = .ok v μ1) (h2 : b sl μ1 = .ok u μ2) : mop2 g a b sl μ = g v u μ2 := by
  unfold mop2 andThen; rw [h1]; dsimp only; rw [h2]
theorem mop1_ok {g : Val → Mu → Res Val} (h1 : a sl μ = .ok v μ1) : mop1 g a sl μ = g v μ1 := by
  unfold mop1 andThen; rw [h1]
theorem short_ok (hl : vs.length ≤ LIM) : short (.ok vs μ) = .ok vs μ := if_pos hl
theorem mbool_ok {k : Bool} (h : m sl μ = .ok (.bl k) μ1) : mbool m sl μ = .ok k μ1 := by
  unfold mbool andThen; rw [h]
theorem sif_ok {t : M Bool} {p q : B} {k : Bool} (h : t sl μ = .ok k μ1) : sif t p q sl μ = (if k then p else q) sl μ1 := by
  unfold sif sthen; rw [h]
theorem sifT {t : M Bool} {p q : B} (h : t sl μ = .ok true μ1) : sif t p q sl μ = p sl μ1 := by
  rw [sif_ok h]; rfl
theorem sifF {t : M Bool} {p q : B} (h : t sl μ = .ok false μ1) : sif t p q sl μ = q sl μ1 := by
  rw [sif_ok h]; rfl
theorem setI_ok {mv mo mi : M Val} {o i : Val} {μ3 μ4 : Mu} (h1 : mv sl μ = .ok v μ1) (h2 : mo sl μ1 = .ok o μ2) (h3 : mi sl μ2 = .ok i μ3) (h4 : vPut o i v μ3 = some μ4) : ssetI mv mo mi sl μ = .nx sl μ4 := by
  unfold ssetI sthen; rw [h1]; dsimp only; rw [h2]; dsimp only; rw [h3]; dsimp only; rw [h4]
end

/-! ### calls -/
theorem callD_pure {g : Sem} {vs : List Val} {μ μ' : Mu} {v v' : Val} (h0 : ups vs = 0) (h : g vs [] = .ok v μ') (hf : freeze μ' 0 v = some v') : callD g vs μ = .ok v' μ := by
  unfold callD
  rw [h0, if_pos ⟨Nat.zero_le _, rfl⟩]
  show (match g vs [] with
    | .ok v μ' => (match freeze μ' 0 v with
      | some v' => if ((μ'.take 0).all (clO 0)) = true then Res.ok v' (μ'.take 0 ++ μ) else .stuck
      | none => .stuck)
    | .exc e μ' => callX 0 μ μ' e
    | .stuck => .stuck) = _
  rw [h]
  dsimp only
  rw [hf]
  rfl
theorem callD_pureX {g : Sem} {vs : List Val} {μ μ' : Mu} {i : Nat} (h0 : ups vs = 0) (h : g vs [] = .exc ⟨i, []⟩ μ') : callD g vs μ = .exc ⟨i, []⟩ μ := by
  unfold callD
  rw [h0, if_pos ⟨Nat.zero_le _, rfl⟩]
  show (match g vs [] with
    | .ok v μ' => (match freeze μ' 0 v with
      | some v' => if ((μ'.take 0).all (clO 0)) = true then Res.ok v' (μ'.take 0 ++ μ) else .stuck
      | none => .stuck)
    | .exc e μ' => callX 0 μ μ' e
    | .stuck => .stuck) = _
  rw [h]
  rfl
theorem callM_pure {g : Sem} {vs : List Val} {μ μ' : Mu} {m : Nat} {xs xs' : List Val} (h0 : ups vs = 0) (h : g vs [] = .ok (.ref m) μ') (hm : μ'[m]? = some (.lst xs)) (hf : freezes (some m) μ' 0 xs = some xs') : callM g vs μ = .ok (.ref μ.length) (μ ++ [.lst xs']) := by
  unfold callM
  rw [h0, if_pos ⟨Nat.zero_le _, rfl⟩]
  rw [show μ.take 0 = [] from rfl, h]
  dsimp only
  rw [if_pos (Nat.zero_le _), hm]
  dsimp only
  rw [hf]
  rfl
/-- the first thing of the heap is handed on -/
theorem callD_one {g : Sem} {vs : List Val} {o o' : Ob} {rest rest' : Mu} {v v' : Val} (h1 : ups vs = 1) (hc : clO 1 o = true) (h : g vs [o] = .ok v (o' :: rest')) (hf : freeze (o' :: rest') 1 v = some v') (hc' : clO 1 o' = true) : callD g vs (o :: rest) = .ok v' (o' :: rest) := by
  unfold callD
  rw [h1, if_pos ⟨Nat.succ_le_succ (Nat.zero_le _), by show (clO 1 o && true) = true; rw [hc]; rfl⟩]
  show (match g vs [o] with
    | .ok v μ' => (match freeze μ' 1 v with
      | some v' => if ((μ'.take 1).all (clO 1)) = true then Res.ok v' (μ'.take 1 ++ rest) else .stuck
      | none => .stuck)
    | .exc e μ' => callX 1 (o :: rest) μ' e
    | .stuck => .stuck) = _
  rw [h]
  dsimp only
  rw [hf]
  dsimp only
  rw [if_pos (by show (clO 1 o' && true) = true; rw [hc']; rfl)]
  rfl
theorem freeze_cl {k : Nat} {v : Val} {μ : Mu} (h : cl k v = true) : freeze μ k v = some v := fz_cl v h
theorem ups_ints : ∀ l : List Int, ups (l.map .int) = 0
  | [] => rfl
  | x :: l => by show max 0 (ups (l.map .int)) = 0; rw [ups_ints l]; rfl
theorem cls_ints (k : Nat) : ∀ l : List Int, cls k (l.map .int) = true
  | [] => rfl
  | x :: l => by show (true && cls k (l.map .int)) = true; rw [cls_ints k l]; rfl
end G

/-! G17: what a law draws of its script. -/
namespace G
open PySem

def drawStep : B := sseq (sasg (mop2 vMod (mcall vInt (acons (mop2 vAdd2 (mop2 vAdd2 (mop2 vMul2 (mvar 1) (mcst (.int 48271))) (mop2 vMod (mcall vAbs (acons (mcall vInt (acons (mvar 2) (anil))) (anil))) (mcst (.int 65521)))) (mcst (.int 1))) (anil))) (mcst (.int 2147483647))) (.nm 1))
    (sskip)
def drawB : B :=
  sseq (sasg (mcst (.int 7)) (.nm 1))
  (sseq (sfor (iseq (mvar 0)) (.nm 2)
    (drawStep))
  (sseq (sret (mmut (mlst (acons (mimm (mlc (iseq (mvar 0)) (List.map (·.2) ([("cell", 2)] : List (PySem.Str × Nat))) (.nm 2) (tyes) (mcall vAbs (acons (mcall vInt (acons (mvar 2) (anil))) (anil))))) (acons (mop1 vNeg (mcst (.int 1))) (acons (mcst (.int 0)) (acons (mvar 1) (anil))))))))
  (sskip)))
def f_draw : Sem := defB 1 3 drawB
def takeB : B :=
  sseq (sif (mbool (mop2 vEq (mop2 vSub2 (mvar 0) (mcst (.int 2))) (mcst (.int 0))))
    (sseq (ssetI (mop2 vAdd2 (mop2 vSub2 (mvar 0) (mcst (.int 1))) (mcst (.int 1))) (mvar 0) (mcst (.int 1)))
    (sseq (sif (mbool (mop2 vLt (mop2 vSub2 (mvar 0) (mcst (.int 1))) (mcall vLen (acons (mop2 vSub2 (mvar 0) (mcst (.int 0))) (anil)))))
      (sseq (ssetI (mop2 vSub2 (mop2 vSub2 (mvar 0) (mcst (.int 0))) (mop2 vSub2 (mvar 0) (mcst (.int 1)))) (mvar 0) (mcst (.int 2)))
      (sskip))
      (sskip))
    (sseq (sif (mbool (mop2 vEq (mop2 vSub2 (mvar 0) (mcst (.int 2))) (mcst (.int 0))))
      (sseq (ssetI (mop2 vMod (mcall vInt (acons (mop2 vAdd2 (mop2 vMul2 (mop2 vSub2 (mvar 0) (mcst (.int 3))) (mcst (.int 48271))) (mcst (.int 11))) (anil))) (mcst (.int 2147483647))) (mvar 0) (mcst (.int 3)))
      (sseq (ssetI (mop2 vSub2 (mvar 0) (mcst (.int 3))) (mvar 0) (mcst (.int 2)))
      (sskip)))
      (sskip))
    (sskip))))
    (sskip))
  (sseq (sasg (mop2 vMod (mcall vInt (acons (mop2 vSub2 (mvar 0) (mcst (.int 2))) (anil))) (mvar 1)) (.nm 2))
  (sseq (ssetI (mop2 vFdiv (mop2 vSub2 (mvar 0) (mcst (.int 2))) (mvar 1)) (mvar 0) (mcst (.int 2)))
  (sseq (sret (mvar 2))
  (sskip))))
def f_take : Sem := defB 2 3 takeB

/-- a draw as it stands -/
def Dr (xs : List Int) (a b s : Int) : Ob := .lst [.lst (xs.map .int), .int a, .int b, .int s]
structure DrOk (xs : List Int) (a b s : Int) : Prop where
  xs : ∀ x ∈ xs, 0 ≤ x
  a : -1 ≤ a
  b : 0 ≤ b
  s0 : 0 ≤ s
  s1 : s < 2147483647
def IsDr (o : Ob) : Prop := ∃ xs a b s, o = Dr xs a b s ∧ DrOk xs a b s

theorem mul_ok (i : Int) (μ : Mu) : vMul2 (.int i) (.int 48271) μ = .ok (.int (i * 48271)) μ := if_pos (.inr (by decide))
theorem mod_ok (i : Int) (j : Int) (h : j ≠ 0) (μ : Mu) : vMod (.int i) (.int j) μ = .ok (.int (i.fmod j)) μ := if_pos h
theorem fdiv_ok (i : Int) (j : Int) (h : j ≠ 0) (h2 : j.natAbs < 1073741824) (μ : Mu) : vFdiv (.int i) (.int j) μ = .ok (.int (i.fdiv j)) μ := if_pos ⟨h, h2⟩
theorem step_ok (r : Option Val) (s n : Int) (z : Option Val) (μ : Mu) : drawStep [r, some (.int s), some (.int n)] μ = .nx [r, some (.int (((s * 48271 + (if n < 0 then -n else n).fmod 65521) + 1).fmod 2147483647)), some (.int n)] μ := by
  unfold drawStep
  simp only [sseq, sasg, sthen, mcall, andThen, acons, anil, mop2, mvar, mcst, sskip, List.getElem?_cons_succ, List.getElem?_cons_zero, mul_ok]
  rfl
theorem fmod_b (i : Int) : 0 ≤ i.fmod 2147483647 ∧ i.fmod 2147483647 < 2147483647 := ⟨Int.fmod_nonneg_of_pos _ (by decide), Int.fmod_lt_of_pos _ (by decide)⟩
theorem loop_ok (r : Option Val) (μ : Mu) : ∀ (ns : List Int) (s : Int) (z : Option Val), 0 ≤ s → s < 2147483647 → ∃ s' z', 0 ≤ s' ∧ s' < 2147483647 ∧ forL (.nm 2) drawStep (ns.map .int) [r, some (.int s), z] μ = .nx [r, some (.int s'), z'] μ
  | [], s, z, h0, h1 => ⟨s, z, h0, h1, rfl⟩
  | n :: ns, s, z, h0, h1 => by
    obtain ⟨b1, b2⟩ := fmod_b ((s * 48271 + (if n < 0 then -n else n).fmod 65521) + 1)
    obtain ⟨s', z', a1, a2, a3⟩ := loop_ok r μ ns _ (some (.int n)) b1 b2
    refine ⟨s', z', a1, a2, ?_⟩
    rw [← a3]
    show (match bindT (.nm 2) (.int n) [r, some (.int s), z] μ with | none => Flow.stuck | some sl' => match drawStep sl' μ with
          | .nx sl2 μ2 => forL (.nm 2) drawStep (ns.map .int) sl2 μ2
          | .ct sl2 μ2 => forL (.nm 2) drawStep (ns.map .int) sl2 μ2
          | .bk sl2 μ2 => .nx sl2 μ2
          | r => r) = _
    show (match drawStep [r, some (.int s), some (.int n)] μ with
          | .nx sl2 μ2 => forL (.nm 2) drawStep (ns.map .int) sl2 μ2
          | .ct sl2 μ2 => forL (.nm 2) drawStep (ns.map .int) sl2 μ2
          | .bk sl2 μ2 => .nx sl2 μ2
          | r => r) = _
    rw [step_ok r s n z μ]
def absI (n : Int) : Int := if n < 0 then -n else n
theorem absI_nn (n : Int) : 0 ≤ absI n := by unfold absI; split <;> omega
theorem lc_abs (sl : Sl) (r : Val) (s : Option Val) (z : Option Val) (μ : Mu) : ∀ ns : List Int, lcL [2] (.nm 2) tyes (mcall vAbs (acons (mcall vInt (acons (mvar 2) (anil))) (anil))) (ns.map .int) [some r, s, z] μ = .ok ((ns.map absI).map .int) μ
  | [] => rfl
  | n :: ns => by
    have ih := lc_abs sl r s z μ ns
    show (match lcL [2] (.nm 2) tyes (mcall vAbs (acons (mcall vInt (acons (mvar 2) (anil))) (anil))) (ns.map .int) [some r, s, z] μ with
      | .ok vs μ3 => Res.ok (Val.int (absI n) :: vs) μ3
      | _ => .stuck) = _
    rw [ih]
    rfl
theorem draw_ok (ns : List Int) (hl : ns.length ≤ 63) : ∃ o, IsDr o ∧ f_draw [.rol (ns.map .int)] [] = .ok (.ref 0) [o] := by
  obtain ⟨s, z, h0, h1, hloop⟩ := loop_ok (some (.rol (ns.map .int))) [] ns 7 none (by decide) (by decide)
  refine ⟨Dr (ns.map absI) (-1) 0 s, ⟨_, _, _, _, rfl, fun x hx => ?_, by decide, by decide, h0, h1⟩, ?_⟩
  · obtain ⟨n, _, rfl⟩ := List.mem_map.mp hx
    exact absI_nn n
  · refine defB_rt rfl ?_
    show drawB [some (.rol (ns.map .int)), none, none] [] = _
    unfold drawB
    rw [seq_nx (asg_ok (v := .int 7) rfl)]
    show sseq (sfor (iseq (mvar 0)) (.nm 2) (drawStep)) _ [some (.rol (ns.map .int)), some (.int 7), none] [] = _
    have e : sfor (iseq (mvar 0)) (.nm 2) drawStep [some (.rol (ns.map .int)), some (.int 7), none] [] = .nx [some (.rol (ns.map .int)), some (.int s), z] [] := hloop
    rw [seq_nx e]
    refine seq_rt (ret_ok ?_)
    have e2 : mlc (iseq (mvar 0)) (List.map (·.2) ([("cell", 2)] : List (PySem.Str × Nat))) (.nm 2) (tyes) (mcall vAbs (acons (mcall vInt (acons (mvar 2) (anil))) (anil))) [some (.rol (ns.map .int)), some (.int s), z] [] = .ok ((ns.map absI).map .int) [] := by
      show short (lcL [2] (.nm 2) tyes (mcall vAbs (acons (mcall vInt (acons (mvar 2) (anil))) (anil))) (ns.map .int) [some (.rol (ns.map .int)), some (.int s), z] []) = _
      rw [lc_abs [] _ _ _ _ ns]
      exact short_ok (by simp only [List.length_map]; unfold LIM; omega)
    exact mmut_ok (vs := [.lst ((ns.map absI).map .int), .int (-1), .int 0, .int s]) (μ1 := []) (mlst_ok (acons_ok (mimm_ok e2) (acons_ok (μ1 := []) rfl (acons_ok (μ1 := []) rfl (acons_ok (μ1 := []) rfl rfl)))) (by show 4 ≤ LIM; unfold LIM; omega))
theorem Dr_cl (k : Nat) (xs : List Int) (a b s : Int) : clO k (Dr xs a b s) = true := by
  show (cls k (xs.map .int) && true) = true
  rw [cls_ints]; rfl
theorem IsDr.cl {o : Ob} (h : IsDr o) (k : Nat) : clO k o = true := by
  obtain ⟨xs, a, b, s, rfl, _⟩ := h
  exact Dr_cl k xs a b s
theorem drawM_ok (ns : List Int) (hl : ns.length ≤ 63) : ∃ o, IsDr o ∧ callM f_draw [.rol (ns.map .int)] [] = .ok (.ref 0) [o] := by
  obtain ⟨o, ⟨xs, a, b, s, e, h⟩, h2⟩ := draw_ok ns hl
  subst e
  refine ⟨_, ⟨xs, a, b, s, rfl, h⟩, ?_⟩
  refine callM_pure (by show max (ups (ns.map .int)) 0 = 0; rw [ups_ints]; rfl) h2 (xs := [.lst (xs.map .int), .int a, .int b, .int s]) rfl ?_
  exact fzs_cl _ (Dr_cl 0 xs a b s)

/-! ### take -/
theorem dr0 (xs : List Int) (a b s : Int) (r : Mu) : vSub2 (.ref 0) (.int 0) (Dr xs a b s :: r) = .ok (.lst (xs.map .int)) (Dr xs a b s :: r) := rfl
theorem dr1 (xs : List Int) (a b s : Int) (r : Mu) : vSub2 (.ref 0) (.int 1) (Dr xs a b s :: r) = .ok (.int a) (Dr xs a b s :: r) := rfl
theorem dr2 (xs : List Int) (a b s : Int) (r : Mu) : vSub2 (.ref 0) (.int 2) (Dr xs a b s :: r) = .ok (.int b) (Dr xs a b s :: r) := rfl
theorem dr3 (xs : List Int) (a b s : Int) (r : Mu) : vSub2 (.ref 0) (.int 3) (Dr xs a b s :: r) = .ok (.int s) (Dr xs a b s :: r) := rfl
theorem pr1 (xs : List Int) (a b s i : Int) (r : Mu) : vPut (.ref 0) (.int 1) (.int i) (Dr xs a b s :: r) = some (Dr xs i b s :: r) := rfl
theorem pr2 (xs : List Int) (a b s i : Int) (r : Mu) : vPut (.ref 0) (.int 2) (.int i) (Dr xs a b s :: r) = some (Dr xs a i s :: r) := rfl
theorem pr3 (xs : List Int) (a b s i : Int) (r : Mu) : vPut (.ref 0) (.int 3) (.int i) (Dr xs a b s :: r) = some (Dr xs a b i :: r) := rfl
theorem eq_int (i j : Int) (μ : Mu) : vEq (.int i) (.int j) μ = .ok (.bl (i == j)) μ := rfl
theorem lt_int (i j : Int) (μ : Mu) : vLt (.int i) (.int j) μ = .ok (.bl (decide (i < j))) μ := rfl
theorem atI_int {l : List Int} {i : Int} (h0 : 0 ≤ i) (h1 : i < l.length) : ∃ x, x ∈ l ∧ L2.atI (l.map Val.int) i = some (.int x) := by
  have hj : i.toNat < l.length := by omega
  refine ⟨l[i.toNat], List.getElem_mem hj, ?_⟩
  have := L2.atI_nat (j := i.toNat) (v := Val.int l[i.toNat]) (by rw [List.getElem?_map, List.getElem?_eq_getElem hj]; rfl)
  rwa [Int.toNat_of_nonneg h0] at this
theorem ix_lst (l : List Val) (i : Int) (v : Val) (μ : Mu) (h : L2.atI l i = some v) : vSub2 (.lst l) (.int i) μ = .ok v μ := by
  show (match L2.atI l i with | some v => Res.ok v μ | none => .stuck) = _
  rw [h]
section
variable {xs : List Int} {a b s : Int} (sl1 sl2 : Option Val)
abbrev tk2 : B := sif (mbool (mop2 vLt (mop2 vSub2 (mvar 0) (mcst (.int 1))) (mcall vLen (acons (mop2 vSub2 (mvar 0) (mcst (.int 0))) (anil)))))
      (sseq (ssetI (mop2 vSub2 (mop2 vSub2 (mvar 0) (mcst (.int 0))) (mop2 vSub2 (mvar 0) (mcst (.int 1)))) (mvar 0) (mcst (.int 2)))
      (sskip))
      (sskip)
theorem tk2_ok (h : DrOk xs a b s) (ha : 0 ≤ a) : ∃ b', DrOk xs a b' s ∧ tk2 [some (.ref 0), sl1, sl2] [Dr xs a b s] = .nx [some (.ref 0), sl1, sl2] [Dr xs a b' s] := by
  have e1 : mbool (mop2 vLt (mop2 vSub2 (mvar 0) (mcst (.int 1))) (mcall vLen (acons (mop2 vSub2 (mvar 0) (mcst (.int 0))) (anil)))) [some (.ref 0), sl1, sl2] [Dr xs a b s] = .ok (decide (a < ((xs.map Val.int).length : Int))) [Dr xs a b s] := rfl
  by_cases hl : a < (xs.length : Int)
  · obtain ⟨x, hx, hx2⟩ := atI_int ha hl
    refine ⟨x, ⟨h.xs, h.a, h.xs x hx, h.s0, h.s1⟩, ?_⟩
    refine (sif_ok e1).trans ?_
    rw [decide_eq_true (by simpa using hl)]
    show sseq _ sskip _ _ = _
    refine (seq_nx (setI_ok (v := .int x) (o := .ref 0) (i := .int 2) (μ1 := [Dr xs a b s]) (mop2_ok (v := .lst (xs.map .int)) (u := .int a) (μ1 := [Dr xs a b s]) rfl rfl |>.trans (ix_lst _ _ _ _ hx2)) rfl rfl (pr2 xs a b s x []))).trans rfl
  · refine ⟨b, h, ?_⟩
    refine (sif_ok e1).trans ?_
    rw [decide_eq_false (by simpa using hl)]
    rfl
abbrev tk3 : B := sif (mbool (mop2 vEq (mop2 vSub2 (mvar 0) (mcst (.int 2))) (mcst (.int 0))))
      (sseq (ssetI (mop2 vMod (mcall vInt (acons (mop2 vAdd2 (mop2 vMul2 (mop2 vSub2 (mvar 0) (mcst (.int 3))) (mcst (.int 48271))) (mcst (.int 11))) (anil))) (mcst (.int 2147483647))) (mvar 0) (mcst (.int 3)))
      (sseq (ssetI (mop2 vSub2 (mvar 0) (mcst (.int 3))) (mvar 0) (mcst (.int 2)))
      (sskip)))
      (sskip)
theorem tk3_ok (h : DrOk xs a b s) : ∃ b' s', DrOk xs a b' s' ∧ tk3 [some (.ref 0), sl1, sl2] [Dr xs a b s] = .nx [some (.ref 0), sl1, sl2] [Dr xs a b' s'] := by
  have e1 : mbool (mop2 vEq (mop2 vSub2 (mvar 0) (mcst (.int 2))) (mcst (.int 0))) [some (.ref 0), sl1, sl2] [Dr xs a b s] = .ok (b == 0) [Dr xs a b s] := rfl
  cases hb : (b == 0) with
  | false => exact ⟨b, s, h, (sif_ok e1).trans (by rw [hb]; rfl)⟩
  | true =>
    obtain ⟨f0, f1⟩ := fmod_b (s * 48271 + 11)
    refine ⟨_, _, ⟨h.xs, h.a, f0, f0, f1⟩, ?_⟩
    refine (sif_ok e1).trans ?_
    rw [hb]
    show sseq _ _ _ _ = _
    have e2 : mop2 vMod (mcall vInt (acons (mop2 vAdd2 (mop2 vMul2 (mop2 vSub2 (mvar 0) (mcst (.int 3))) (mcst (.int 48271))) (mcst (.int 11))) (anil))) (mcst (.int 2147483647)) [some (.ref 0), sl1, sl2] [Dr xs a b s] = .ok (.int ((s * 48271 + 11).fmod 2147483647)) [Dr xs a b s] := by
      refine (mop2_ok (v := .int (s * 48271 + 11)) (u := .int 2147483647) (μ1 := [Dr xs a b s]) ?_ rfl).trans (mod_ok _ _ (by decide) _)
      refine (mcall_ok (vs := [.int (s * 48271 + 11)]) (μ1 := [Dr xs a b s]) (acons_ok ?_ rfl)).trans rfl
      refine (mop2_ok (v := .int (s * 48271)) (u := .int 11) (μ1 := [Dr xs a b s]) ?_ rfl).trans rfl
      exact (mop2_ok (v := .int s) (u := .int 48271) (μ1 := [Dr xs a b s]) rfl rfl).trans (mul_ok _ _)
    rw [seq_nx (setI_ok e2 rfl rfl (pr3 xs a b s _ []))]
    refine (seq_nx (setI_ok (v := .int ((s * 48271 + 11).fmod 2147483647)) (μ1 := [Dr xs a b ((s * 48271 + 11).fmod 2147483647)]) rfl rfl rfl (pr2 xs a b _ _ []))).trans rfl
end
theorem take_ok {xs : List Int} {a b s m : Int} (h : DrOk xs a b s) (h0 : 0 < m) (h1 : m < 1073741824) : ∃ r o, 0 ≤ r ∧ r < m ∧ IsDr o ∧ f_take [.ref 0, .int m] [Dr xs a b s] = .ok (.int r) [o] := by
  have e1 : mbool (mop2 vEq (mop2 vSub2 (mvar 0) (mcst (.int 2))) (mcst (.int 0))) [some (.ref 0), some (.int m), none] [Dr xs a b s] = .ok (b == 0) [Dr xs a b s] := rfl
  have part : ∃ a' b' s', DrOk xs a' b' s' ∧ sif (mbool (mop2 vEq (mop2 vSub2 (mvar 0) (mcst (.int 2))) (mcst (.int 0))))
    (sseq (ssetI (mop2 vAdd2 (mop2 vSub2 (mvar 0) (mcst (.int 1))) (mcst (.int 1))) (mvar 0) (mcst (.int 1))) (sseq tk2 (sseq tk3 (sskip)))) (sskip) [some (.ref 0), some (.int m), none] [Dr xs a b s] = .nx [some (.ref 0), some (.int m), none] [Dr xs a' b' s'] := by
    cases hb : (b == 0) with
    | false => exact ⟨a, b, s, h, (sif_ok e1).trans (by rw [hb]; rfl)⟩
    | true =>
      have ha := h.a
      have h' : DrOk xs (a + 1) b s := ⟨h.xs, by omega, h.b, h.s0, h.s1⟩
      obtain ⟨b2, h2, e2⟩ := tk2_ok (some (.int m)) none h' (by omega)
      obtain ⟨b3, s3, h3, e3⟩ := tk3_ok (some (.int m)) none h2
      refine ⟨a + 1, b3, s3, h3, ?_⟩
      refine (sif_ok e1).trans ?_
      rw [hb]
      have e4 : ssetI (mop2 vAdd2 (mop2 vSub2 (mvar 0) (mcst (.int 1))) (mcst (.int 1))) (mvar 0) (mcst (.int 1)) [some (.ref 0), some (.int m), none] [Dr xs a b s] = .nx [some (.ref 0), some (.int m), none] [Dr xs (a + 1) b s] := rfl
      exact (seq_nx e4).trans ((seq_nx e2).trans ((seq_nx e3).trans rfl))
  obtain ⟨a', b', s', h', e'⟩ := part
  have hb' := h'.b
  refine ⟨b'.fmod m, Dr xs a' (b'.fdiv m) s', Int.fmod_nonneg_of_pos _ h0, Int.fmod_lt_of_pos _ h0, ⟨_, _, _, _, rfl, h'.xs, h'.a, ?_, h'.s0, h'.s1⟩, ?_⟩
  · rw [Int.fdiv_eq_ediv_of_nonneg _ (by omega)]
    exact Int.ediv_nonneg hb' (by omega)
  refine defB_rt rfl ?_
  show takeB [some (.ref 0), some (.int m), none] [Dr xs a b s] = _
  unfold takeB
  rw [seq_nx e']
  have e5 : mop2 vMod (mcall vInt (acons (mop2 vSub2 (mvar 0) (mcst (.int 2))) (anil))) (mvar 1) [some (.ref 0), some (.int m), none] [Dr xs a' b' s'] = .ok (.int (b'.fmod m)) [Dr xs a' b' s'] := by
    refine (mop2_ok (v := .int b') (u := .int m) (μ1 := [Dr xs a' b' s']) rfl rfl).trans (mod_ok _ _ (by omega) _)
  rw [seq_nx (asg_ok e5)]
  show sseq _ _ [some (.ref 0), some (.int m), some (.int (b'.fmod m))] _ = _
  have e6 : mop2 vFdiv (mop2 vSub2 (mvar 0) (mcst (.int 2))) (mvar 1) [some (.ref 0), some (.int m), some (.int (b'.fmod m))] [Dr xs a' b' s'] = .ok (.int (b'.fdiv m)) [Dr xs a' b' s'] := by
    refine (mop2_ok (v := .int b') (u := .int m) (μ1 := [Dr xs a' b' s']) rfl rfl).trans (fdiv_ok _ _ (by omega) (by omega) _)
  rw [seq_nx (setI_ok e6 rfl rfl (pr2 xs a' b' s' _ []))]
  exact seq_rt (ret_ok rfl)
/-- the n-th of m, as a caller sees it -/
theorem takeD_ok {o : Ob} {rest : Mu} {m : Int} (h : IsDr o) (h0 : 0 < m) (h1 : m < 1073741824) : ∃ (r : Int) (o' : Ob), 0 ≤ r ∧ r < m ∧ IsDr o' ∧ callD f_take [.ref 0, .int m] (o :: rest) = .ok (.int r) (o' :: rest) := by
  obtain ⟨xs, a, b, s, rfl, h⟩ := h
  obtain ⟨r, o', r0, r1, ho', e⟩ := take_ok h h0 h1
  exact ⟨r, o', r0, r1, ho', callD_one rfl (Dr_cl 1 xs a b s) e (freeze_cl rfl) (ho'.cl 1)⟩
/-- one of a list -/
theorem pick_ok {L : List Val} {r : Int} (h0 : 0 ≤ r) (h1 : r < (L.length : Int)) (μ : Mu) : ∃ v, v ∈ L ∧ vSub2 (.lst L) (.int r) μ = .ok v μ := by
  have hj : r.toNat < L.length := by omega
  refine ⟨L[r.toNat], List.getElem_mem hj, ix_lst _ _ _ _ ?_⟩
  have := L2.atI_nat (j := r.toNat) (v := L[r.toNat]) (List.getElem?_eq_getElem hj)
  rwa [Int.toNat_of_nonneg h0] at this
end G

/-! G18: x[::-1], texts split, calls of values, sorted of a tuple. -/
namespace G
open PySem PySem.Spec PyProof.Rows L2

/-! ### a list backwards -/
def vRev (x : Val) (μ : Mu) : Res (List Val) := match look μ x with
  | .lst xs => .ok xs.reverse μ
  | _ => .stuck
def mop1F (g : Val → Mu → Res (List Val)) (a : M Val) : M (List Val) := andThen a fun x => fun _ μ => g x μ
section
variable {c : Ct} {W : WX} {X : Cx} {a : Expr} {ma : M Val} {p1 p2 p3 pos : Pos} {j : Nat}
theorem gf_rev (ha : PE X a (TE' c W ma)) (hK : X.K = c.K := by rfl) (ht : ∀ o r, letTemporaryGo a o r = pure () := by intro _ _; rfl) : PE X (.Subscript a (.Slice none none (some (.UnaryOp .USub (.Constant (.int 1) j p1) p2)) p3) pos) (TF' c W (mop1F vRev ma)) := by
  refine ⟨fun pins s σ H Q I ⟨w, sl, e, sm, rs, h⟩ => ?_⟩
  subst e
  have h : TE' c W ma σ w.H fun x H1 => ∃ w1 v, w1.H = H1 ∧ Sim c w1 ∧ RV c w1 v x ∧ PostF c w1 (vRev v w1.μ) Q fun cls d H' => W cls d σ H' := by
    refine te_then (R := fun w r => PostF c w r Q fun cls d H' => W cls d σ H') sm rs excF_post (fun z => z) h fun v w1 e1 s1 rs1 h1 x rx => ⟨w1, v, rfl, s1, rx, h1.ext e1⟩
  refine wpAny_Subscript_Slice_step slot_list_getitem.lookup (thn (ha.run pins s σ w.H _ I h) fun u s1 ⟨x, H1, I1, r1, w1, v, e, s1', rx, q1⟩ => ?_) ht
  subst e
  refine wpAny_Slice ?_
  rw [evalPart_none]
  refine wpAny_pure (wpAny_pure ?_)
  rw [evalPart_some]
  refine thn ((pe_un (X := X) un_neg pe_int).run pins s1 σ w1.H (fun y H2 => y = .int (-1) ∧ H2 = w1.H) I1 ⟨1, rfl, rfl, rfl⟩) fun st s2 ⟨y, H2, I2, r2, e1, e2⟩ => ?_
  subst e1 e2
  obtain ⟨t, rfl⟩ := r2
  unfold vRev at q1
  split at q1
  · rename_i xs el
    obtain ⟨b, ys, rfl, f2, f3⟩ := look_lst s1' rx el
    rw [← hK] at f2
    cases r1
    have I3 : Inv X pins σ w1.H { s2 with heap := s2.heap.push { cls := .type "slice", data := .fields #[.none, .none, .int (-1) t] } } := I2.kept (t' := s2.toks) fun b ob q => Heap.get?_push_of_some _ q
    obtain ⟨its, r, pl, hz⟩ := I3.list f2
    refine ⟨pl.isList.typeIs, ?_⟩
    refine wpAny_getItem_list_slice pl.isList (Heap.IsSliceOf.new ..) .none .none (.int (-1) t) (by decide) ?_ (by rw [List.size_toArray, ← r.length]; exact hz)
    rw [PySem.W.krv_pick]
    refine ⟨.ref _, _, I3.laid (t' := s2.toks) (o := .lst ys.reverse) (fun b ob q => Heap.get?_push_of_some _ q) (Nat.le_refl _) ⟨?_, its.reverse, 0, ?_, Heap.get?_push_size _ rfl⟩, rfl, q1.new s1' f3.reverse (I3.hok.fresh (Nat.le_refl _))⟩
    · rw [List.length_reverse]; exact hz
    · exact r.reverse
  · exact q1.elim
end

/-! ### split -/
def vSplit (x : Val) (vs : List Val) (μ : Mu) : Res (List Val) := match x, vs with
  | .str a, [.str b] => if (b.length == 0) = false ∧ a.length + 2 ≤ LIM then .ok ((Txt.split a b).map .str) μ else .stuck
  | _, _ => .stuck
theorem nx_Split : NoExcM vSplit := fun a vs μ e μ' h => by
  unfold vSplit at h
  split at h
  · split at h <;> cases h
  · cases h
theorem RVs_strs {c : Ct} {w : Wd} : ∀ xs : List Str, RVs c w (xs.map Val.str) (xs.map V.str)
  | [] => rfl
  | n :: ns => ⟨_, _, rfl, rfl, RVs_strs ns⟩
section
variable {c : Ct} {X : Cx}
theorem mf_Split : MtF c X "str.split" vSplit := by
  intro pins s σ H x xs v us Q I rx rv ⟨w, a, vs, e, sm, r1, r2, h⟩
  subst e
  unfold vSplit at h
  split at h
  · rename_i z b
    split at h
    · rename_i hl
      obtain ⟨y, rfl, ry⟩ := r2.one
      refine mt_split pins s σ w.H _ _ v us Q I rx rv ⟨z, b, r1, by rw [show y = V.str b from ry], hl.1, by rw [← LIM_eq]; exact hl.2, fun p n => h.new sm (RVs_strs _) n⟩
    · exact h.elim
  · exact h.elim
end

/-! ### a call of a value -/
/-- defs as values: which number stands for what -/
structure FnTab (c : Ct) (P : Program) (w : World) (mg : Str → Option Value) (base : Heap) (L : Nat) (tbl : Nat → Option Sem) : Prop where
  ex : ∀ k g, tbl k = some g → ∃ (a : Addr) (fd : FuncData) (ps : List Str) (l : Nat), c.fa k = some a ∧ l ≤ L ∧ FnOk P w c.K mg base (L2.CX P w) l a fd ps (spG c g) ∧ PySem.W.keepIn c.K (.ref a) = true ∧ Binds c.K fd ps []
def mcallV (tbl : Nat → Option Sem) (mf : M Val) (as : M (List Val)) : M Val := andThen mf fun f => match f with
  | .fn k => (match tbl k with
    | some g => mcall (callD g) as
    | none => fun _ _ => .stuck)
  | _ => fun _ _ => .stuck
section
variable {c : Ct} {W : WX} {X : Cx} {ee e : Expr} {es : List Expr} {mf : M Val} {ma : M (List Val)} {pos : Pos} {L : Nat} {tbl : Nat → Option Sem}
theorem ge_callV (F : FnTab c X.prog X.w X.mg X.base L tbl) (hr : Room L X.A) (tk : Takes X W) (he : PE X ee (TE' c W mf)) (ha : PA X (e :: es) (TA' c W ma)) (hK : X.K = c.K := by rfl)
    (heq : eval (.Call ee (e :: es) [] pos) X.env = (do callWith pos (← eval ee X.env) [] (backTo pos (starEach (e :: es) X.env)) (backToKw pos (keywordEach [] X.env))) := by rfl)
    (hs : starEach (e :: es) X.env = (false, eval e X.env) :: starEach es X.env := by rfl) (hpl : (backTo pos (starEach es X.env)).any (·.1) = false := by rfl) :
    PE X (.Call ee (e :: es) [] pos) (TE' c W (mcallV tbl mf ma)) := by
  refine ⟨fun pins s σ H Q I ⟨w, sl, e0, sm, rs, h⟩ => ?_⟩
  subst e0
  rw [heq]
  have h : TE' c W mf σ w.H fun x H1 => ∃ (k : Nat) (g : Sem) (a : Addr), tbl k = some g ∧ c.fa k = some a ∧ x = .ref a ∧ TE' c W (mcall (callD g) ma) σ H1 Q := by
    refine te_then (R := fun w r => Post c w r Q fun cls d H' => W cls d σ H') sm rs exc_post (fun z => z) h fun v w1 e1 s1 rs1 h1 x rx => ?_
    cases v with
    | fn k =>
      dsimp only at h1
      cases q : tbl k with
      | none => rw [q] at h1; exact h1.elim
      | some g =>
        rw [q] at h1
        obtain ⟨a, e2, e3⟩ := rx
        exact ⟨k, g, a, q, e3, e2, w1, sl, rfl, s1, rs1, h1.ext e1⟩
    | _ => exact h1.elim
  refine wpAny_bind (thn (he.run pins s σ w.H _ I h) fun u s1 ⟨x, H1, I1, r1, k, g, a, e1, e2, e3, h2⟩ => ?_)
  subst e3
  cases r1
  obtain ⟨a', fd, ps, l, f1, f2, f3, f4, f5⟩ := F.ex k g e1
  rw [e2] at f1
  cases f1
  rw [← hK] at f3 f4 f5
  refine PySem.W.callWith_K (h₀ := X.base) I1.ok.mod.kin f4 (thn (ha.run pos pins s1 σ _ _ I1 (liftD h2)) fun us s2 ⟨vs, H2, I2, r, q⟩ => ⟨I2.kIn, ?_⟩) hs hpl
  exact run_fnS f3 (hr.mono f2) f5 (passAt tk σ) I2 r q
/-- a def's name as a value -/
structure FnT (c : Ct) (mg : Str → Option Value) (x : Str) (k : Nat) : Prop where
  ex : ∃ a, mg x = some (.ref a) ∧ c.fa k = some a
theorem fn_ {x : Str} {k : Nat} (T : FnT c X.mg x k) (hg : Gl X x := by rfl) (hdb : (x == ("__debug__" : Str)) = false := by decide) : PE X (.Name x pos) (TE' c W (mcst (.fn k))) := by
  obtain ⟨a, h1, h2⟩ := T.ex
  exact ge_glob h1 (y := .ref a) rfl (fun _ => ⟨a, rfl, h2⟩) hg hdb
end
end G

/-! G19: more reasoning about programs. -/
namespace G
open PySem

/-- a call that hands on nothing that changes, whatever the heap -/
theorem callD_frame {g : Sem} {vs : List Val} (h0 : ups vs = 0) (μ : Mu) : callD g vs μ = match callD g vs [] with
  | .ok v _ => .ok v μ
  | .exc e _ => .exc e μ
  | .stuck => .stuck := by
  unfold callD
  rw [h0, if_pos ⟨Nat.zero_le _, rfl⟩, if_pos ⟨Nat.zero_le _, rfl⟩]
  show (match g vs [] with
    | .ok v μ' => (match freeze μ' 0 v with
      | some v' => if ((μ'.take 0).all (clO 0)) = true then Res.ok v' (μ'.take 0 ++ μ) else .stuck
      | none => .stuck)
    | .exc e μ' => callX 0 μ μ' e
    | .stuck => .stuck) = match (match g vs [] with
    | .ok v μ' => (match freeze μ' 0 v with
      | some v' => if ((μ'.take 0).all (clO 0)) = true then Res.ok v' (μ'.take 0 ++ []) else .stuck
      | none => .stuck)
    | .exc e μ' => callX 0 [] μ' e
    | .stuck => .stuck) with
  | .ok v _ => .ok v μ
  | .exc e _ => .exc e μ
  | .stuck => .stuck
  cases g vs [] with
  | stuck => rfl
  | ok v μ' =>
    dsimp only
    cases freeze μ' 0 v with
    | none => rfl
    | some v' => rfl
  | exc e μ' =>
    dsimp only
    unfold callX
    cases frzE μ' 0 e with
    | none => rfl
    | some e' => rfl
theorem callD_of {g : Sem} {vs : List Val} {v : Val} {μ0 : Mu} (h0 : ups vs = 0) (h : callD g vs [] = .ok v μ0) (μ : Mu) : callD g vs μ = .ok v μ := by
  rw [callD_frame h0 μ, h]
theorem callD_ofX {g : Sem} {vs : List Val} {e : Exn} {μ0 : Mu} (h0 : ups vs = 0) (h : callD g vs [] = .exc e μ0) (μ : Mu) : callD g vs μ = .exc e μ := by
  rw [callD_frame h0 μ, h]
/-- a result that is a value, without a heap -/
def Res.val : Res Val → Option Val
  | .ok v _ => some v
  | _ => none
theorem Res.of_val {r : Res Val} {v : Val} (h : r.val = some v) : ∃ μ, r = .ok v μ := by
  cases r with
  | ok u μ => cases h; exact ⟨μ, rfl⟩
  | exc _ _ => cases h
  | stuck => cases h
section
variable {sl : Sl} {μ μ1 μ2 : Mu} {a b m : M Val} {r as : M (List Val)} {v u : Val} {vs : List Val} {x : Res Val}
theorem drop_ok (h : m sl μ = .ok v μ1) : sdrop m sl μ = .nx sl μ1 := by
  unfold sdrop sthen; rw [h]
theorem bl_truth {k : Bool} : vtruth μ (.bl k) = some k := by cases k <;> rfl
theorem mtruth_bl {k : Bool} (h : m sl μ = .ok (.bl k) μ1) : mtruth m sl μ = .ok k μ1 := by
  unfold mtruth andThen; rw [h]; dsimp only; rw [bl_truth]
theorem tnot_ok {t : M Bool} {k : Bool} (h : t sl μ = .ok k μ1) : tnot t sl μ = .ok (!k) μ1 := by
  unfold tnot andThen; rw [h]
end
/-- a comprehension over things that stand, test and item without effect -/
theorem lcL_pure {own : List Nat} {t : Tgt} {cond : M Bool} {elt : M Val} {sl : Sl} {μ : Mu} (s : Val → Sl) (p : Val → Bool) (f : Val → Val) : ∀ (xs : List Val), (∀ x ∈ xs, bindT t x (wipeS sl own) μ = some (s x)) → (∀ x ∈ xs, cond (s x) μ = .ok (p x) μ) → (∀ x ∈ xs, p x = true → elt (s x) μ = .ok (f x) μ) →
    lcL own t cond elt xs sl μ = .ok ((xs.filter p).map f) μ
  | [], _, _, _ => rfl
  | x :: xs, hb, hc, he => by
    have ih := lcL_pure (own := own) (t := t) (cond := cond) (elt := elt) (sl := sl) (μ := μ) s p f xs (fun y hy => hb y (List.mem_cons_of_mem _ hy)) (fun y hy => hc y (List.mem_cons_of_mem _ hy)) fun y hy => he y (List.mem_cons_of_mem _ hy)
    unfold lcL
    rw [hb x List.mem_cons_self]
    dsimp only
    rw [hc x List.mem_cons_self]
    cases hp : p x with
    | false =>
      dsimp only
      rw [ih, List.filter_cons_of_neg (by rw [hp]; exact Bool.false_ne_true)]
    | true =>
      dsimp only
      rw [he x List.mem_cons_self hp]
      dsimp only
      rw [ih, List.filter_cons_of_pos hp]
      rfl
theorem mlc_vals {src : M Src} {own : List Nat} {t : Tgt} {cond : M Bool} {elt : M Val} {sl : Sl} {μ μ1 : Mu} {xs vs : List Val} (h1 : src sl μ = .ok (.vals xs) μ1) (h2 : lcL own t cond elt xs sl μ1 = .ok vs μ1) (hl : vs.length ≤ LIM) : mlc src own t cond elt sl μ = .ok vs μ1 := by
  unfold mlc andThen
  rw [h1]
  dsimp only
  rw [h2]
  exact short_ok hl
/-- a for whose turns all go on -/
theorem forL_inv {t : Tgt} {body : B} (P : Sl → Mu → Prop) : ∀ (xs : List Val) (sl : Sl) (μ : Mu), P sl μ → (∀ x ∈ xs, ∀ sl μ, P sl μ → ∃ sl0, bindT t x sl μ = some sl0 ∧ ∃ sl' μ', (body sl0 μ = .nx sl' μ' ∨ body sl0 μ = .ct sl' μ') ∧ P sl' μ') →
    ∃ sl' μ', forL t body xs sl μ = .nx sl' μ' ∧ P sl' μ'
  | [], sl, μ, h, _ => ⟨sl, μ, rfl, h⟩
  | x :: xs, sl, μ, h, hb => by
    obtain ⟨sl0, e0, sl1, μ1, e1, h1⟩ := hb x List.mem_cons_self sl μ h
    obtain ⟨sl2, μ2, e2, h2⟩ := forL_inv P xs sl1 μ1 h1 fun y hy => hb y (List.mem_cons_of_mem _ hy)
    refine ⟨sl2, μ2, ?_, h2⟩
    unfold forL
    rw [e0]
    dsimp only
    rcases e1 with e1 | e1 <;> rw [e1] <;> exact e2
theorem sfor_vals {src : M Src} {t : Tgt} {body : B} {sl : Sl} {μ μ1 : Mu} {xs : List Val} (h : src sl μ = .ok (.vals xs) μ1) : sfor src t body sl μ = forL t body xs sl μ1 := by
  unfold sfor sthen; rw [h]
theorem iseq_lst {m : M Val} {sl : Sl} {μ μ1 : Mu} {xs : List Val} (h : m sl μ = .ok (.lst xs) μ1) : iseq m sl μ = .ok (.vals xs) μ1 := by
  unfold iseq andThen; rw [h]; rfl
theorem iseq_tup {m : M Val} {sl : Sl} {μ μ1 : Mu} {xs : List Val} (h : m sl μ = .ok (.tup xs) μ1) : iseq m sl μ = .ok (.vals xs) μ1 := by
  unfold iseq andThen; rw [h]; rfl
end G

/-! the program, its constants -/
namespace Y
open G PySem PySem.Spec PyProof.Rows L2
def v_ARROWS : Val := .tup [.tup [.str "vsr", .str "fsr"], .tup [.str "vsr", .str "mvsr"], .tup [.str "mcsr", .str "mvsr"], .tup [.str "csr", .str "vsr"], .tup [.str "csr", .str "mcsr"], .tup [.str "ocsr", .str "csr"], .tup [.str "cocsr", .str "ocsr"], .tup [.str "lrc", .str "rec"], .tup [.str "aca", .str "rec"], .tup [.str "st", .str "lrc"], .tup [.str "st", .str "aca"], .tup [.str "tpl", .str "ocsr"], .tup [.str "stpl", .str "tpl"], .tup [.str "stpl", .str "st"], .tup [.str "rg", .str "cocsr"], .tup [.str "rg", .str "stpl"], .tup [.str "to", .str "ocsr"], .tup [.str "ser", .str "rg"], .tup [.str "ser", .str "to"]]
def v_WORDS : Val := .tup [.str "fsr", .str "vsr", .str "csr", .str "ocsr", .str "cocsr", .str "mvsr", .str "mcsr", .str "rec", .str "lrc", .str "aca", .str "st", .str "rg", .str "tpl", .str "stpl", .str "to", .str "ser"]
def mt_Malformed : Nat → Option Bool
  | 0 => some false
  | 1 => some true
  | _ => none
def b__law_draw : B :=
  sseq (sasg (mcst (.int 7)) (.nm 1))
  (sseq (sfor (iseq (mvar 0)) (.nm 2)
    (sseq (sasg (mop2 vMod (mcall vInt (acons (mop2 vAdd2 (mop2 vAdd2 (mop2 vMul2 (mvar 1) (mcst (.int 48271))) (mop2 vMod (mcall vAbs (acons (mcall vInt (acons (mvar 2) (anil))) (anil))) (mcst (.int 65521)))) (mcst (.int 1))) (anil))) (mcst (.int 2147483647))) (.nm 1))
    (sskip)))
  (sseq (sret (mmut (mlst (acons (mimm (mlc (iseq (mvar 0)) (List.map (·.2) ([("cell", 2)] : List (PySem.Str × Nat))) (.nm 2) (tyes) (mcall vAbs (acons (mcall vInt (acons (mvar 2) (anil))) (anil))))) (acons (mop1 vNeg (mcst (.int 1))) (acons (mcst (.int 0)) (acons (mvar 1) (anil))))))))
  (sskip)))
def f__law_draw : Sem := defB 1 3 b__law_draw
def b_arrows : B :=
  sseq (sret (mcall vTuple (acons (mimm (mcall vSorted (acons (mcst v_ARROWS) (anil)))) (anil))))
  (sskip)
def f_arrows : Sem := defB 0 0 b_arrows
def b__law_arrows : B :=
  sseq (sasg (mcst (.str "vsr fsr vsr mvsr mcsr mvsr csr vsr csr mcsr ocsr csr cocsr ocsr lrc rec aca rec st lrc")) (.nm 0))
  (sseq (sasg (mop2 vAdd2 (mvar 0) (mcst (.str " st aca tpl ocsr stpl tpl stpl st rg cocsr rg stpl to ocsr ser rg ser to"))) (.nm 0))
  (sseq (sasg (mimm (mmeth "str" vSplit (mvar 0) (acons (mcst (.str " ")) (anil)))) (.nm 1))
  (sseq (sret (mimm (mlc (irng1 (acons (mop2 vFdiv (mcall vLen (acons (mvar 1) (anil))) (mcst (.int 2))) (anil))) (List.map (·.2) ([("k", 2)] : List (PySem.Str × Nat))) (.nm 2) (tyes) (mtup (acons (mop2 vSub2 (mvar 1) (mop2 vMul2 (mcst (.int 2)) (mvar 2))) (acons (mop2 vSub2 (mvar 1) (mop2 vAdd2 (mop2 vMul2 (mcst (.int 2)) (mvar 2)) (mcst (.int 1)))) (anil)))))))
  (sskip))))
def f__law_arrows : Sem := defB 0 3 b__law_arrows
def b__law_reached : B :=
  sseq (sasg (mmut (mlst (acons (mvar 0) (anil)))) (.nm 1))
  (sseq (sasg (mcst (.int 0)) (.nm 2))
  (sseq (swhile (mbool (mop2 vLt (mvar 2) (mcall vLen (acons (mvar 1) (anil)))))
    (sseq (sfor (iseq (mcall (callD f__law_arrows) anil)) (.tp [.nm 3, .nm 4])
      (sseq (sif (tand (mbool (mop2 vEq (mvar 3) (mop2 vSub2 (mvar 1) (mvar 2)))) (mbool (mop2 vNotIn2 (mvar 4) (mvar 1))))
        (sseq (sdrop (mmeth "list" vAppend (mvar 1) (acons (mvar 4) (anil))))
        (sskip))
        (sskip))
      (sskip)))
    (sseq (sasg (mop2 vAdd2 (mvar 2) (mcst (.int 1))) (.nm 2))
    (sskip))) FUEL)
  (sseq (sret (mvar 1))
  (sskip))))
def f__law_reached : Sem := defB 1 5 b__law_reached
def b__law_words : B :=
  sseq (sret (mimm (mmeth "str" vSplit (mcst (.str "fsr vsr csr ocsr cocsr mvsr mcsr rec lrc aca st rg tpl stpl to ser")) (acons (mcst (.str " ")) (anil)))))
  (sskip)
def f__law_words : Sem := defB 0 0 b__law_words
def b_check_word : B :=
  sseq (sif (tor (tnot (mtruth (mcall vIsi (acons (mvar 0) (acons (mcst (.ty "str")) (anil)))))) (mbool (mop2 vNotIn2 (mvar 0) (mcst v_WORDS))))
    (sseq (sraise 1)
    (sskip))
    (sskip))
  (sskip)
def f_check_word : Sem := defB 1 1 b_check_word
def b_check_pair : B :=
  sseq (sdrop (mcall (callD f_check_word) (acons (mvar 0) (anil))))
  (sseq (sdrop (mcall (callD f_check_word) (acons (mvar 1) (anil))))
  (sskip))
def f_check_pair : Sem := defB 2 2 b_check_pair
def b_chain_between : B :=
  sseq (spar (acons (mdispM [((mvar 0), (mcst .non))]) (acons (mmut (mlst (acons (mvar 0) (anil)))) anil)) 2 3)
  (sseq (swhile (tand (mbool (mop2 vGt (mcall vLen (acons (mvar 3) (anil))) (mcst (.int 0)))) (mbool (mop2 vNotIn2 (mvar 1) (mvar 2))))
    (sseq (sasg (mmeth "list" vPopAt (mvar 3) (acons (mcst (.int 0)) (anil))) (.nm 5))
    (sseq (sfor (iseq (mcst v_ARROWS)) (.tp [.nm 6, .nm 7])
      (sseq (sif (tand (mbool (mop2 vEq (mvar 6) (mvar 5))) (mbool (mop2 vNotIn2 (mvar 7) (mvar 2))))
        (sseq (ssetI (mvar 5) (mvar 2) (mvar 7))
        (sseq (sdrop (mmeth "list" vAppend (mvar 3) (acons (mvar 7) (anil))))
        (sskip)))
        (sskip))
      (sskip)))
    (sskip))) FUEL)
  (sseq (sif (mbool (mop2 vNotIn2 (mvar 1) (mvar 2)))
    (sseq (sret (mcst .non))
    (sskip))
    (sskip))
  (sseq (sasg (mmut (mlst (acons (mvar 1) (anil)))) (.nm 4))
  (sseq (swhile (mbool (mop2 vNe (mop2 vSub2 (mvar 4) (mop1 vNeg (mcst (.int 1)))) (mvar 0)))
    (sseq (sdrop (mmeth "list" vAppend (mvar 4) (acons (mop2 vSub2 (mvar 2) (mop2 vSub2 (mvar 4) (mop1 vNeg (mcst (.int 1))))) (anil))))
    (sskip)) FUEL)
  (sseq (sret (mcall vTuple (acons (mimm (mop1F vRev (mvar 4))) (anil))))
  (sskip))))))
def f_chain_between : Sem := defB 2 8 b_chain_between
def b_does_force : B :=
  sseq (sdrop (mcall (callD f_check_pair) (acons (mvar 0) (acons (mvar 1) (anil)))))
  (sseq (sret (mop2 vNotN (mcall (callD f_chain_between) (acons (mvar 0) (acons (mvar 1) (anil)))) (mcst .non)))
  (sskip))
def f_does_force : Sem := defB 2 2 b_does_force
def b_all_forced : B :=
  sseq (sdrop (mcall (callD f_check_word) (acons (mvar 0) (anil))))
  (sseq (sret (mcall vTuple (acons (mimm (mlc (iseq (mcst v_WORDS)) (List.map (·.2) ([("y", 1)] : List (PySem.Str × Nat))) (.nm 1) (mbool (mop2 vNotN (mcall (callD f_chain_between) (acons (mvar 0) (acons (mvar 1) (anil)))) (mcst .non))) (mvar 1))) (anil))))
  (sskip))
def f_all_forced : Sem := defB 1 2 b_all_forced
def b_closed : B :=
  sseq (sif (tor (tnot (mtruth (mcall vIsi (acons (mvar 0) (acons (mcst (.ty "tuple")) (anil)))))) (tnot (mtruth (mcall vAll (acons (mimm (mlc (iseq (mvar 0)) (List.map (·.2) ([("word", 2)] : List (PySem.Str × Nat))) (.nm 2) (tyes) (mand (mcall vIsi (acons (mvar 2) (acons (mcst (.ty "str")) (anil)))) (mop2 vIn2 (mvar 2) (mcst v_WORDS))))) (anil))))))
    (sseq (sraise 1)
    (sskip))
    (sskip))
  (sseq (sret (mcall vTuple (acons (mimm (mlc (iseq (mcst v_WORDS)) (List.map (·.2) ([("y", 1)] : List (PySem.Str × Nat))) (.nm 1) (mtruth (mcall vAny (acons (mimm (mlc (iseq (mvar 0)) (List.map (·.2) ([("x", 3)] : List (PySem.Str × Nat))) (.nm 3) (tyes) (mop2 vNotN (mcall (callD f_chain_between) (acons (mvar 3) (acons (mvar 1) (anil)))) (mcst .non)))) (anil)))) (mvar 1))) (anil))))
  (sskip))
def f_closed : Sem := defB 1 4 b_closed
def ft__law_told : Nat → Option Sem
  | 0 => some f_closed
  | 1 => some f_all_forced
  | _ => none
def b__law_told : B :=
  sseq (stry mt_Malformed
    (sseq (sret (mife (mbool (mop2 vEq (mvar 0) (mcst (.int 0)))) (mcall (callD f_does_force) (acons (mvar 1) (acons (mvar 2) (anil)))) (mcallV ft__law_told (mop2 vSub2 (mimm (mlst (acons (mcst (.fn 1)) (acons (mcst (.fn 0)) (anil))))) (mop2 vSub (mvar 0) (mcst (.int 1)))) (acons (mvar 1) (anil)))))
    (sskip))
    (sseq (sret (mcst (.str "<malformed>")))
    (sskip)))
  (sskip)
def f__law_told : Sem := defB 3 3 b__law_told
def b__law_take : B :=
  sseq (sif (mbool (mop2 vEq (mop2 vSub2 (mvar 0) (mcst (.int 2))) (mcst (.int 0))))
    (sseq (ssetI (mop2 vAdd2 (mop2 vSub2 (mvar 0) (mcst (.int 1))) (mcst (.int 1))) (mvar 0) (mcst (.int 1)))
    (sseq (sif (mbool (mop2 vLt (mop2 vSub2 (mvar 0) (mcst (.int 1))) (mcall vLen (acons (mop2 vSub2 (mvar 0) (mcst (.int 0))) (anil)))))
      (sseq (ssetI (mop2 vSub2 (mop2 vSub2 (mvar 0) (mcst (.int 0))) (mop2 vSub2 (mvar 0) (mcst (.int 1)))) (mvar 0) (mcst (.int 2)))
      (sskip))
      (sskip))
    (sseq (sif (mbool (mop2 vEq (mop2 vSub2 (mvar 0) (mcst (.int 2))) (mcst (.int 0))))
      (sseq (ssetI (mop2 vMod (mcall vInt (acons (mop2 vAdd2 (mop2 vMul2 (mop2 vSub2 (mvar 0) (mcst (.int 3))) (mcst (.int 48271))) (mcst (.int 11))) (anil))) (mcst (.int 2147483647))) (mvar 0) (mcst (.int 3)))
      (sseq (ssetI (mop2 vSub2 (mvar 0) (mcst (.int 3))) (mvar 0) (mcst (.int 2)))
      (sskip)))
      (sskip))
    (sskip))))
    (sskip))
  (sseq (sasg (mop2 vMod (mcall vInt (acons (mop2 vSub2 (mvar 0) (mcst (.int 2))) (anil))) (mvar 1)) (.nm 2))
  (sseq (ssetI (mop2 vFdiv (mop2 vSub2 (mvar 0) (mcst (.int 2))) (mvar 1)) (mvar 0) (mcst (.int 2)))
  (sseq (sret (mvar 2))
  (sskip))))
def f__law_take : Sem := defB 2 3 b__law_take
def b__law_says : B :=
  sseq (sret (mand (mcall vIsi (acons (mvar 0) (acons (mcst (.ty "bool")) (anil)))) (mop2 vEq (mvar 0) (mvar 1))))
  (sskip)
def f__law_says : Sem := defB 2 2 b__law_says
def b_law : B :=
  sseq (sasg (mcall (callM f__law_draw) (acons (mvar 0) (anil))) (.nm 1))
  (sseq (sif (mbool (mop2 vNe (mcall (callD f_arrows) anil) (mcall vTuple (acons (mimm (mcall vSorted (acons (mcall (callD f__law_arrows) anil) (anil)))) (anil)))))
    (sseq (sret (mcst (.bl false)))
    (sskip))
    (sskip))
  (sseq (sfor (irng1 (acons (mcst (.int 5)) (anil))) (.nm 2)
    (sseq (sasg (mop2 vSub2 (mcall (callD f__law_words) anil) (mcall (callD f__law_take) (acons (mvar 1) (acons (mcst (.int 16)) (anil))))) (.nm 6))
    (sseq (sasg (mcall (callD f__law_reached) (acons (mvar 6) (anil))) (.nm 7))
    (sseq (sif (mbool (mop2 vNe (mcall (callD f__law_told) (acons (mcst (.int 1)) (acons (mvar 6) (acons (mcst (.str "")) (anil))))) (mcall vTuple (acons (mimm (mlc (iseq (mcall (callD f__law_words) anil)) (List.map (·.2) ([("word", 10)] : List (PySem.Str × Nat))) (.nm 10) (mbool (mop2 vIn2 (mvar 10) (mvar 7))) (mvar 10))) (anil)))))
      (sseq (sret (mcst (.bl false)))
      (sskip))
      (sskip))
    (sseq (sfor (iseq (mcall (callD f__law_words) anil)) (.nm 8)
      (sseq (sif (tnot (mtruth (mcall (callD f__law_says) (acons (mcall (callD f__law_told) (acons (mcst (.int 0)) (acons (mvar 6) (acons (mvar 8) (anil))))) (acons (mop2 vIn2 (mvar 8) (mvar 7)) (anil))))))
        (sseq (sret (mcst (.bl false)))
        (sskip))
        (sskip))
      (sskip)))
    (sskip))))))
  (sseq (sasg (mcall vTuple (acons (mimm (mlc (irng1 (acons (mcall (callD f__law_take) (acons (mvar 1) (acons (mcst (.int 5)) (anil)))) (anil))) (List.map (·.2) ([("k", 9)] : List (PySem.Str × Nat))) (.nm 9) (tyes) (mop2 vSub2 (mcall (callD f__law_words) anil) (mcall (callD f__law_take) (acons (mvar 1) (acons (mcst (.int 16)) (anil))))))) (anil))) (.nm 3))
  (sseq (sasg (mcall vTuple (acons (mimm (mlc (iseq (mcall (callD f__law_words) anil)) (List.map (·.2) ([("y", 8)] : List (PySem.Str × Nat))) (.nm 8) (mtruth (mcall vAny (acons (mimm (mlc (iseq (mvar 3)) (List.map (·.2) ([("x", 6)] : List (PySem.Str × Nat))) (.nm 6) (tyes) (mop2 vIn2 (mvar 8) (mcall (callD f__law_reached) (acons (mvar 6) (anil)))))) (anil)))) (mvar 8))) (anil))) (.nm 4))
  (sseq (sif (mbool (mop2 vNe (mcall (callD f__law_told) (acons (mcst (.int 2)) (acons (mvar 3) (acons (mcst (.str "")) (anil))))) (mvar 4)))
    (sseq (sret (mcst (.bl false)))
    (sskip))
    (sskip))
  (sseq (sfor (iseq (mimm (mlst (acons (mcst (.str "")) (acons (mcst (.str "CSR")) (acons (mcst .non) (acons (mcst (.int 5)) (acons (mtup (acons (mcst (.str "csr")) (anil))) (acons (mcst (.int 0)) (acons (mcst (.bl true)) (anil))))))))))) (.nm 5)
    (sseq (sif (mbool (mop2 vNe (mimm (mlst (acons (mcall (callD f__law_told) (acons (mcst (.int 0)) (acons (mvar 5) (acons (mcst (.str "csr")) (anil))))) (acons (mcall (callD f__law_told) (acons (mcst (.int 0)) (acons (mcst (.str "csr")) (acons (mvar 5) (anil))))) (acons (mcall (callD f__law_told) (acons (mcst (.int 1)) (acons (mvar 5) (acons (mcst (.str "")) (anil))))) (acons (mcall (callD f__law_told) (acons (mcst (.int 2)) (acons (mtup (acons (mcst (.str "csr")) (acons (mvar 5) (anil)))) (acons (mcst (.str "")) (anil))))) (anil))))))) (mop2 vMul2 (mimm (mlst (acons (mcst (.str "<malformed>")) (anil)))) (mcst (.int 4)))))
      (sseq (sret (mcst (.bl false)))
      (sskip))
      (sskip))
    (sskip)))
  (sseq (sret (mop2 vEq (mimm (mlc (iseq (mimm (mlst (acons (mcst .non) (acons (mcst (.str "csr")) (acons (mimm (mlst (acons (mcst (.str "csr")) (anil)))) (acons (mcst (.int 5)) (anil)))))))) (List.map (·.2) ([("bad", 5)] : List (PySem.Str × Nat))) (.nm 5) (tyes) (mcall (callD f__law_told) (acons (mcst (.int 2)) (acons (mvar 5) (acons (mcst (.str "")) (anil))))))) (mop2 vMul2 (mimm (mlst (acons (mcst (.str "<malformed>")) (anil)))) (mcst (.int 4)))))
  (sskip))))))))
def f_law : Sem := defB 1 11 b_law
end Y

/-! the walk -/
namespace Y
open G PySem PySem.Spec PyProof.Rows L2
def top (i : Nat) : Stmt := PySem.Challenge.pw_schedkinds_k05_arrows_and_chains.main.body.getD i (.Pass ⟨0, 0, 0, 0⟩)
abbrev s__law_draw : Stmt := top 15
theorem sc__law_draw : FnScope ["script", "seed", "cell"] ["script"] (defScope s__law_draw) := ⟨rfl, rfl, rfl, by decide +kernel, rfl, by decide +kernel, by decide +kernel⟩
abbrev s_arrows : Stmt := top 8
theorem sc_arrows : FnScope [] [] (defScope s_arrows) := ⟨rfl, rfl, rfl, by decide +kernel, rfl, by decide +kernel, by decide +kernel⟩
abbrev s__law_arrows : Stmt := top 19
theorem sc__law_arrows : FnScope ["text", "words", "k"] [] (defScope s__law_arrows) := ⟨rfl, rfl, rfl, by decide +kernel, rfl, by decide +kernel, by decide +kernel⟩
abbrev s__law_reached : Stmt := top 20
theorem sc__law_reached : FnScope ["x", "found", "at", "one", "two"] ["x"] (defScope s__law_reached) := ⟨rfl, rfl, rfl, by decide +kernel, rfl, by decide +kernel, by decide +kernel⟩
abbrev s__law_words : Stmt := top 18
theorem sc__law_words : FnScope [] [] (defScope s__law_words) := ⟨rfl, rfl, rfl, by decide +kernel, rfl, by decide +kernel, by decide +kernel⟩
abbrev s_check_word : Stmt := top 5
theorem sc_check_word : FnScope ["word"] ["word"] (defScope s_check_word) := ⟨rfl, rfl, rfl, by decide +kernel, rfl, by decide +kernel, by decide +kernel⟩
abbrev s_check_pair : Stmt := top 10
theorem sc_check_pair : FnScope ["x", "y"] ["x", "y"] (defScope s_check_pair) := ⟨rfl, rfl, rfl, by decide +kernel, rfl, by decide +kernel, by decide +kernel⟩
abbrev s_chain_between : Stmt := top 9
theorem sc_chain_between : FnScope ["x", "y", "before", "waiting", "found", "word", "one", "two"] ["x", "y"] (defScope s_chain_between) := ⟨rfl, rfl, rfl, by decide +kernel, rfl, by decide +kernel, by decide +kernel⟩
abbrev s_does_force : Stmt := top 11
theorem sc_does_force : FnScope ["x", "y"] ["x", "y"] (defScope s_does_force) := ⟨rfl, rfl, rfl, by decide +kernel, rfl, by decide +kernel, by decide +kernel⟩
abbrev s_all_forced : Stmt := top 12
theorem sc_all_forced : FnScope ["x", "y"] ["x"] (defScope s_all_forced) := ⟨rfl, rfl, rfl, by decide +kernel, rfl, by decide +kernel, by decide +kernel⟩
abbrev s_closed : Stmt := top 13
theorem sc_closed : FnScope ["words", "y", "word", "x"] ["words"] (defScope s_closed) := ⟨rfl, rfl, rfl, by decide +kernel, rfl, by decide +kernel, by decide +kernel⟩
abbrev s__law_told : Stmt := top 21
theorem sc__law_told : FnScope ["which", "x", "y"] ["which", "x", "y"] (defScope s__law_told) := ⟨rfl, rfl, rfl, by decide +kernel, rfl, by decide +kernel, by decide +kernel⟩
abbrev s__law_take : Stmt := top 16
theorem sc__law_take : FnScope ["draw", "many", "found"] ["draw", "many"] (defScope s__law_take) := ⟨rfl, rfl, rfl, by decide +kernel, rfl, by decide +kernel, by decide +kernel⟩
abbrev s__law_says : Stmt := top 17
theorem sc__law_says : FnScope ["value", "due"] ["value", "due"] (defScope s__law_says) := ⟨rfl, rfl, rfl, by decide +kernel, rfl, by decide +kernel, by decide +kernel⟩
abbrev s_law : Stmt := top 22
theorem sc_law : FnScope ["script", "draw", "turn", "words", "due", "bad", "x", "reached", "y", "k", "word"] ["script"] (defScope s_law) := ⟨rfl, rfl, rfl, by decide +kernel, rfl, by decide +kernel, by decide +kernel⟩
structure Txt (c : Ct) (w : World) (mg : Str → Option Value) : Prop where
  d__law_draw : DefT c mg "_law_draw" s__law_draw ["script"]
  d_arrows : DefT c mg "arrows" s_arrows []
  d__law_arrows : DefT c mg "_law_arrows" s__law_arrows []
  d__law_reached : DefT c mg "_law_reached" s__law_reached ["x"]
  d__law_words : DefT c mg "_law_words" s__law_words []
  d_check_word : DefT c mg "check_word" s_check_word ["word"]
  d_check_pair : DefT c mg "check_pair" s_check_pair ["x", "y"]
  d_chain_between : DefT c mg "chain_between" s_chain_between ["x", "y"]
  d_does_force : DefT c mg "does_force" s_does_force ["x", "y"]
  d_all_forced : DefT c mg "all_forced" s_all_forced ["x"]
  d_closed : DefT c mg "closed" s_closed ["words"]
  d__law_told : DefT c mg "_law_told" s__law_told ["which", "x", "y"]
  d__law_take : DefT c mg "_law_take" s__law_take ["draw", "many"]
  d__law_says : DefT c mg "_law_says" s__law_says ["value", "due"]
  d_law : DefT c mg "law" s_law ["script"]
  z_abs : mg "abs" = none
  z_int : mg "int" = none
  z_tuple : mg "tuple" = none
  z_sorted : mg "sorted" = none
  z_range : mg "range" = none
  z_len : mg "len" = none
  z_isinstance : mg "isinstance" = none
  z_str : mg "str" = none
  z_any : mg "any" = none
  z_all : mg "all" = none
  z_bool : mg "bool" = none
  k_ARROWS : GlobT c mg "ARROWS" v_ARROWS
  k_WORDS : GlobT c mg "WORDS" v_WORDS
  n_closed : FnT c mg "closed" 0
  n_all_forced : FnT c mg "all_forced" 1
  x_Malformed : ExcT c mg "Malformed" 1
  h_Malformed : HdlT c mg "Malformed" mt_Malformed
section
variable {c : Ct} {P : Program} {w : World} {mg : Str → Option Value} {base : Heap}
theorem fn__law_draw (T : Txt c w mg) {f : Addr} {fd : FuncData} (F : Fun c.K "_law_draw" "_law_draw" s__law_draw f fd) : FnOk P w c.K mg base (L2.CX P w) 1 f fd ["script"] (spG c f__law_draw) := by
  refine def_ok (b := b__law_draw) F sc__law_draw rfl rfl fun cdv A outer s H E hr tk hp => ?_
  have hu := u65 hr
  exact
  (gs_cons (set_ 1 sc__law_draw.nd ge_int)
  (gs_cons (for_ hp (in_ (v_ 0)) (n_ 2 sc__law_draw.nd)
    (gs_cons (set_ 1 sc__law_draw.nd (bin_ b_Mod (ct_ f_int T.z_int hu (ga_cons (bin_ b_Add (bin_ b_Add (bin_ b_Mult (v_ 1) ge_int) (bin_ b_Mod (cb_ f_abs T.z_abs hu (ga_cons (ct_ f_int T.z_int hu (ga_cons (v_ 2) ga_nil)) ga_nil)) ge_int)) ge_int) ga_nil)) ge_int))
    gs_nil))
  (gs_cons (gs_ret (ge_mut (gf_lst (ga_cons (ge_imm (lc_ [("cell", 2)] sc__law_draw.nd (in_ (v_ 0)) (fun _ _ _ _ _ => (n_ 2 sc__law_draw.nd)) (fun _ _ _ _ _ => gts_nil) (fun _ _ _ _ _ => (cb_ f_abs T.z_abs hu (ga_cons (ct_ f_int T.z_int hu (ga_cons (v_ 2) ga_nil)) ga_nil))))) (ga_cons (ge_neg ge_int) (ga_cons ge_int (ga_cons (v_ 1) ga_nil)))))))
  gs_nil)))
theorem ok__law_draw (T : Txt c w mg) : Cal c P w mg base 1 "_law_draw" f__law_draw := by
  obtain ⟨f, fd, F, hm, hk, hb⟩ := T.d__law_draw.ex
  exact ⟨f, fd, _, fn__law_draw T F, hm, hk, hb⟩
theorem fn_arrows (T : Txt c w mg) {f : Addr} {fd : FuncData} (F : Fun c.K "arrows" "arrows" s_arrows f fd) : FnOk P w c.K mg base (L2.CX P w) 1 f fd [] (spG c f_arrows) := by
  refine def_ok (b := b_arrows) F sc_arrows rfl rfl fun cdv A outer s H E hr tk hp => ?_
  have hu := u65 hr
  exact
  (gs_cons (gs_ret (ct_ f_tuple T.z_tuple hu (ga_cons (ge_imm (fb_ f_sorted T.z_sorted hu (ga_cons (k_ T.k_ARROWS) ga_nil))) ga_nil)))
  gs_nil)
theorem ok_arrows (T : Txt c w mg) : Cal c P w mg base 1 "arrows" f_arrows := by
  obtain ⟨f, fd, F, hm, hk, hb⟩ := T.d_arrows.ex
  exact ⟨f, fd, _, fn_arrows T F, hm, hk, hb⟩
theorem fn__law_arrows (T : Txt c w mg) {f : Addr} {fd : FuncData} (F : Fun c.K "_law_arrows" "_law_arrows" s__law_arrows f fd) : FnOk P w c.K mg base (L2.CX P w) 1 f fd [] (spG c f__law_arrows) := by
  refine def_ok (b := b__law_arrows) F sc__law_arrows rfl rfl fun cdv A outer s H E hr tk hp => ?_
  have hu := u65 hr
  exact
  (gs_cons (set_ 0 sc__law_arrows.nd ge_str)
  (gs_cons (set_ 0 sc__law_arrows.nd (bin_ b_Add (v_ 0) ge_str))
  (gs_cons (set_ 1 sc__law_arrows.nd (ge_imm (gf_bm PySem.F.plainAttrs_str PySem.F.slot_str_split PySem.F.type_str_split mf_Split nx_Split (v_ 0) (ga_cons ge_str ga_nil))))
  (gs_cons (gs_ret (ge_imm (lc_ [("k", 2)] sc__law_arrows.nd (gi_rng1 T.z_range (ga_cons (bin_ b_FloorDiv (cb_ f_len T.z_len hu (ga_cons (v_ 1) ga_nil)) ge_int) ga_nil)) (fun _ _ _ _ _ => (n_ 2 sc__law_arrows.nd)) (fun _ _ _ _ _ => gts_nil) (fun _ _ _ _ _ => (ge_tup (ga_cons (ix_ hu (v_ 1) (bin_ b_Mult ge_int (v_ 2))) (ga_cons (ix_ hu (v_ 1) (bin_ b_Add (bin_ b_Mult ge_int (v_ 2)) ge_int)) ga_nil)))))))
  gs_nil))))
theorem ok__law_arrows (T : Txt c w mg) : Cal c P w mg base 1 "_law_arrows" f__law_arrows := by
  obtain ⟨f, fd, F, hm, hk, hb⟩ := T.d__law_arrows.ex
  exact ⟨f, fd, _, fn__law_arrows T F, hm, hk, hb⟩
theorem fn__law_reached (T : Txt c w mg) {f : Addr} {fd : FuncData} (F : Fun c.K "_law_reached" "_law_reached" s__law_reached f fd) : FnOk P w c.K mg base (L2.CX P w) 2 f fd ["x"] (spG c f__law_reached) := by
  refine def_ok (b := b__law_reached) F sc__law_reached rfl rfl fun cdv A outer s H E hr tk hp => ?_
  have hu := u65 hr
  exact
  (gs_cons (set_ 1 sc__law_reached.nd (ge_mut (gf_lst (ga_cons (v_ 0) ga_nil))))
  (gs_cons (set_ 2 sc__law_reached.nd ge_int)
  (gs_cons (gs_while FUEL hp (tcmp_ c_Lt hu (v_ 2) (cb_ f_len T.z_len hu (ga_cons (v_ 1) ga_nil)))
    (gs_cons (for_ hp (in_ (ge_call0 (ok__law_arrows T) (hr.mono (by decide)) tk)) (tp_ (ggs_cons (n_ 3 sc__law_reached.nd) (ggs_cons (n_ 4 sc__law_reached.nd) ggs_nil)))
      (gs_cons (gs_if (gw_and (tcmp_ c_Eq hu (v_ 3) (ix_ hu (v_ 1) (v_ 2))) (gw_and1 (tcmp_ c_NotIn hu (v_ 4) (v_ 1)))).pt
        (gs_cons (gs_expr (ge_bm PySem.F.plainAttrs_list PySem.F.slot_list_append PySem.F.type_list_append mg_Append nx_Append (v_ 1) (ga_cons (v_ 4) ga_nil)))
        gs_nil)
        gs_nil)
      gs_nil))
    (gs_cons (set_ 2 sc__law_reached.nd (bin_ b_Add (v_ 2) ge_int))
    gs_nil)))
  (gs_cons (gs_ret (v_ 1))
  gs_nil))))
theorem ok__law_reached (T : Txt c w mg) : Cal c P w mg base 2 "_law_reached" f__law_reached := by
  obtain ⟨f, fd, F, hm, hk, hb⟩ := T.d__law_reached.ex
  exact ⟨f, fd, _, fn__law_reached T F, hm, hk, hb⟩
theorem fn__law_words (T : Txt c w mg) {f : Addr} {fd : FuncData} (F : Fun c.K "_law_words" "_law_words" s__law_words f fd) : FnOk P w c.K mg base (L2.CX P w) 1 f fd [] (spG c f__law_words) := by
  refine def_ok (b := b__law_words) F sc__law_words rfl rfl fun cdv A outer s H E hr tk hp => ?_
  have hu := u65 hr
  exact
  (gs_cons (gs_ret (ge_imm (gf_bm PySem.F.plainAttrs_str PySem.F.slot_str_split PySem.F.type_str_split mf_Split nx_Split ge_str (ga_cons ge_str ga_nil))))
  gs_nil)
theorem ok__law_words (T : Txt c w mg) : Cal c P w mg base 1 "_law_words" f__law_words := by
  obtain ⟨f, fd, F, hm, hk, hb⟩ := T.d__law_words.ex
  exact ⟨f, fd, _, fn__law_words T F, hm, hk, hb⟩
theorem fn_check_word (T : Txt c w mg) {f : Addr} {fd : FuncData} (F : Fun c.K "check_word" "check_word" s_check_word f fd) : FnOk P w c.K mg base (L2.CX P w) 1 f fd ["word"] (spG c f_check_word) := by
  refine def_ok (b := b_check_word) F sc_check_word rfl rfl fun cdv A outer s H E hr tk hp => ?_
  have hu := u65 hr
  exact
  (gs_cons (gs_if (gw_or (gt_not (tr_ (cb_ f_isinstance T.z_isinstance hu (ga_cons (v_ 0) (ga_cons (ge_ty T.z_str) ga_nil))))) (gw_or1 (tcmp_ c_NotIn hu (v_ 0) (k_ T.k_WORDS)))).pt
    (gs_cons (gs_raise T.x_Malformed tk)
    gs_nil)
    gs_nil)
  gs_nil)
theorem ok_check_word (T : Txt c w mg) : Cal c P w mg base 1 "check_word" f_check_word := by
  obtain ⟨f, fd, F, hm, hk, hb⟩ := T.d_check_word.ex
  exact ⟨f, fd, _, fn_check_word T F, hm, hk, hb⟩
theorem fn_check_pair (T : Txt c w mg) {f : Addr} {fd : FuncData} (F : Fun c.K "check_pair" "check_pair" s_check_pair f fd) : FnOk P w c.K mg base (L2.CX P w) 2 f fd ["x", "y"] (spG c f_check_pair) := by
  refine def_ok (b := b_check_pair) F sc_check_pair rfl rfl fun cdv A outer s H E hr tk hp => ?_
  have hu := u65 hr
  exact
  (gs_cons (gs_expr (ge_call (ok_check_word T) (hr.mono (by decide)) tk (ga_cons (v_ 0) ga_nil)))
  (gs_cons (gs_expr (ge_call (ok_check_word T) (hr.mono (by decide)) tk (ga_cons (v_ 1) ga_nil)))
  gs_nil))
theorem ok_check_pair (T : Txt c w mg) : Cal c P w mg base 2 "check_pair" f_check_pair := by
  obtain ⟨f, fd, F, hm, hk, hb⟩ := T.d_check_pair.ex
  exact ⟨f, fd, _, fn_check_pair T F, hm, hk, hb⟩
theorem fn_chain_between (T : Txt c w mg) {f : Addr} {fd : FuncData} (F : Fun c.K "chain_between" "chain_between" s_chain_between f fd) : FnOk P w c.K mg base (L2.CX P w) 1 f fd ["x", "y"] (spG c f_chain_between) := by
  refine def_ok (b := b_chain_between) F sc_chain_between rfl rfl fun cdv A outer s H E hr tk hp => ?_
  have hu := u65 hr
  exact
  (gs_cons (par_ 2 3 sc_chain_between.nd (ga_cons (ge_disp (ms := [((mvar 0), (mcst .non))]) true (pps_cons (v_ 0) ge_non pps_nil)) (ga_cons (ge_mut (gf_lst (ga_cons (v_ 0) ga_nil))) ga_nil)))
  (gs_cons (gs_while FUEL hp (gw_and (tcmp_ c_Gt hu (cb_ f_len T.z_len hu (ga_cons (v_ 3) ga_nil)) ge_int) (gw_and1 (tcmp_ c_NotIn hu (v_ 1) (v_ 2)))).pt
    (gs_cons (set_ 5 sc_chain_between.nd (ge_bm PySem.F.plainAttrs_list PySem.F.slot_list_pop PySem.F.type_list_pop mg_PopAt nx_PopAt (v_ 3) (ga_cons ge_int ga_nil)))
    (gs_cons (for_ hp (in_ (k_ T.k_ARROWS)) (tp_ (ggs_cons (n_ 6 sc_chain_between.nd) (ggs_cons (n_ 7 sc_chain_between.nd) ggs_nil)))
      (gs_cons (gs_if (gw_and (tcmp_ c_Eq hu (v_ 6) (v_ 5)) (gw_and1 (tcmp_ c_NotIn hu (v_ 7) (v_ 2)))).pt
        (gs_cons (gs_setI (u64 hu) (v_ 5) (v_ 2) (v_ 7))
        (gs_cons (gs_expr (ge_bm PySem.F.plainAttrs_list PySem.F.slot_list_append PySem.F.type_list_append mg_Append nx_Append (v_ 3) (ga_cons (v_ 7) ga_nil)))
        gs_nil))
        gs_nil)
      gs_nil))
    gs_nil)))
  (gs_cons (gs_if (tcmp_ c_NotIn hu (v_ 1) (v_ 2))
    (gs_cons (gs_ret ge_non)
    gs_nil)
    gs_nil)
  (gs_cons (set_ 4 sc_chain_between.nd (ge_mut (gf_lst (ga_cons (v_ 1) ga_nil))))
  (gs_cons (gs_while FUEL hp (tcmp_ c_NotEq hu (ix_ hu (v_ 4) (ge_neg ge_int)) (v_ 0))
    (gs_cons (gs_expr (ge_bm PySem.F.plainAttrs_list PySem.F.slot_list_append PySem.F.type_list_append mg_Append nx_Append (v_ 4) (ga_cons (ix_ hu (v_ 2) (ix_ hu (v_ 4) (ge_neg ge_int))) ga_nil)))
    gs_nil))
  (gs_cons (gs_ret (ct_ f_tuple T.z_tuple hu (ga_cons (ge_imm (gf_rev (v_ 4))) ga_nil)))
  gs_nil))))))
theorem ok_chain_between (T : Txt c w mg) : Cal c P w mg base 1 "chain_between" f_chain_between := by
  obtain ⟨f, fd, F, hm, hk, hb⟩ := T.d_chain_between.ex
  exact ⟨f, fd, _, fn_chain_between T F, hm, hk, hb⟩
theorem fn_does_force (T : Txt c w mg) {f : Addr} {fd : FuncData} (F : Fun c.K "does_force" "does_force" s_does_force f fd) : FnOk P w c.K mg base (L2.CX P w) 3 f fd ["x", "y"] (spG c f_does_force) := by
  refine def_ok (b := b_does_force) F sc_does_force rfl rfl fun cdv A outer s H E hr tk hp => ?_
  have hu := u65 hr
  exact
  (gs_cons (gs_expr (ge_call (ok_check_pair T) (hr.mono (by decide)) tk (ga_cons (v_ 0) (ga_cons (v_ 1) ga_nil))))
  (gs_cons (gs_ret (cmp_ c_IsNot hu (ge_call (ok_chain_between T) (hr.mono (by decide)) tk (ga_cons (v_ 0) (ga_cons (v_ 1) ga_nil))) ge_non))
  gs_nil))
theorem ok_does_force (T : Txt c w mg) : Cal c P w mg base 3 "does_force" f_does_force := by
  obtain ⟨f, fd, F, hm, hk, hb⟩ := T.d_does_force.ex
  exact ⟨f, fd, _, fn_does_force T F, hm, hk, hb⟩
theorem fn_all_forced (T : Txt c w mg) {f : Addr} {fd : FuncData} (F : Fun c.K "all_forced" "all_forced" s_all_forced f fd) : FnOk P w c.K mg base (L2.CX P w) 2 f fd ["x"] (spG c f_all_forced) := by
  refine def_ok (b := b_all_forced) F sc_all_forced rfl rfl fun cdv A outer s H E hr tk hp => ?_
  have hu := u65 hr
  exact
  (gs_cons (gs_expr (ge_call (ok_check_word T) (hr.mono (by decide)) tk (ga_cons (v_ 0) ga_nil)))
  (gs_cons (gs_ret (ct_ f_tuple T.z_tuple hu (ga_cons (ge_imm (lc_ [("y", 1)] sc_all_forced.nd (in_ (k_ T.k_WORDS)) (fun _ _ _ _ _ => (n_ 1 sc_all_forced.nd)) (fun _ _ _ _ _ => (gts_one (tcmp_ c_IsNot hu (ge_call (ok_chain_between T) (hr.mono (by decide)) tk0 (ga_cons (v_ 0) (ga_cons (v_ 1) ga_nil))) ge_non))) (fun _ _ _ _ _ => (v_ 1)))) ga_nil)))
  gs_nil))
theorem ok_all_forced (T : Txt c w mg) : Cal c P w mg base 2 "all_forced" f_all_forced := by
  obtain ⟨f, fd, F, hm, hk, hb⟩ := T.d_all_forced.ex
  exact ⟨f, fd, _, fn_all_forced T F, hm, hk, hb⟩
theorem fn_closed (T : Txt c w mg) {f : Addr} {fd : FuncData} (F : Fun c.K "closed" "closed" s_closed f fd) : FnOk P w c.K mg base (L2.CX P w) 2 f fd ["words"] (spG c f_closed) := by
  refine def_ok (b := b_closed) F sc_closed rfl rfl fun cdv A outer s H E hr tk hp => ?_
  have hu := u65 hr
  exact
  (gs_cons (gs_if (gw_or (gt_not (tr_ (cb_ f_isinstance T.z_isinstance hu (ga_cons (v_ 0) (ga_cons (ge_ty T.z_tuple) ga_nil))))) (gw_or1 (gt_not (tr_ (cb_ f_all T.z_all hu (ga_cons (ge_imm (lc_ [("word", 2)] sc_closed.nd (in_ (v_ 0)) (fun _ _ _ _ _ => (n_ 2 sc_closed.nd)) (fun _ _ _ _ _ => gts_nil) (fun _ _ _ _ _ => (and_ (cb_ f_isinstance T.z_isinstance hu (ga_cons (v_ 2) (ga_cons (ge_ty T.z_str) ga_nil))) (ge_one (cmp_ c_In hu (v_ 2) (k_ T.k_WORDS))))))) ga_nil)))))).pt
    (gs_cons (gs_raise T.x_Malformed tk)
    gs_nil)
    gs_nil)
  (gs_cons (gs_ret (ct_ f_tuple T.z_tuple hu (ga_cons (ge_imm (lc_ [("y", 1)] sc_closed.nd (in_ (k_ T.k_WORDS)) (fun _ _ _ _ _ => (n_ 1 sc_closed.nd)) (fun _ _ _ _ _ => (gts_one (tr_ (cb_ f_any T.z_any hu (ga_cons (ge_imm (lc_ [("x", 3)] sc_closed.nd (in_ (v_ 0)) (fun _ _ _ _ _ => (n_ 3 sc_closed.nd)) (fun _ _ _ _ _ => gts_nil) (fun _ _ _ _ _ => (cmp_ c_IsNot hu (ge_call (ok_chain_between T) (hr.mono (by decide)) tk0 (ga_cons (v_ 3) (ga_cons (v_ 1) ga_nil))) ge_non)))) ga_nil))))) (fun _ _ _ _ _ => (v_ 1)))) ga_nil)))
  gs_nil))
theorem ok_closed (T : Txt c w mg) : Cal c P w mg base 2 "closed" f_closed := by
  obtain ⟨f, fd, F, hm, hk, hb⟩ := T.d_closed.ex
  exact ⟨f, fd, _, fn_closed T F, hm, hk, hb⟩
theorem ftab__law_told (T : Txt c w mg) : FnTab c P w mg base 2 ft__law_told := by
  refine ⟨fun k g h => ?_⟩
  unfold ft__law_told at h
  split at h
  · cases h
    obtain ⟨a, m1, m2⟩ := T.n_closed.ex
    obtain ⟨f, fd, F, m3, hk, hb⟩ := T.d_closed.ex
    rw [m1] at m3
    cases m3
    exact ⟨_, _, _, _, m2, (by decide), fn_closed T F, hk, hb⟩
  · cases h
    obtain ⟨a, m1, m2⟩ := T.n_all_forced.ex
    obtain ⟨f, fd, F, m3, hk, hb⟩ := T.d_all_forced.ex
    rw [m1] at m3
    cases m3
    exact ⟨_, _, _, _, m2, (by decide), fn_all_forced T F, hk, hb⟩
  · cases h
theorem fn__law_told (T : Txt c w mg) {f : Addr} {fd : FuncData} (F : Fun c.K "_law_told" "_law_told" s__law_told f fd) : FnOk P w c.K mg base (L2.CX P w) 4 f fd ["which", "x", "y"] (spG c f__law_told) := by
  refine def_ok (b := b__law_told) F sc__law_told rfl rfl fun cdv A outer s H E hr tk hp => ?_
  have hu := u65 hr
  exact
  (gs_cons (gs_try T.h_Malformed tk rfl rfl (fun _ _ _ tk' hp' =>
    (gs_cons (gs_ret (ge_ife (tcmp_ c_Eq hu (v_ 0) ge_int) (ge_call (ok_does_force T) (hr.mono (by decide)) tk' (ga_cons (v_ 1) (ga_cons (v_ 2) ga_nil))) (ge_callV (ftab__law_told T) (hr.mono (by decide)) tk' (ix_ hu (ge_imm (gf_lst (ga_cons (fn_ T.n_all_forced) (ga_cons (fn_ T.n_closed) ga_nil)))) (bin_ b_Sub (v_ 0) ge_int)) (ga_cons (v_ 1) ga_nil))))
    gs_nil))
    (fun _ _ => (gs_cons (gs_ret ge_str)
    gs_nil)))
  gs_nil)
theorem ok__law_told (T : Txt c w mg) : Cal c P w mg base 4 "_law_told" f__law_told := by
  obtain ⟨f, fd, F, hm, hk, hb⟩ := T.d__law_told.ex
  exact ⟨f, fd, _, fn__law_told T F, hm, hk, hb⟩
theorem fn__law_take (T : Txt c w mg) {f : Addr} {fd : FuncData} (F : Fun c.K "_law_take" "_law_take" s__law_take f fd) : FnOk P w c.K mg base (L2.CX P w) 1 f fd ["draw", "many"] (spG c f__law_take) := by
  refine def_ok (b := b__law_take) F sc__law_take rfl rfl fun cdv A outer s H E hr tk hp => ?_
  have hu := u65 hr
  exact
  (gs_cons (gs_if (tcmp_ c_Eq hu (ix_ hu (v_ 0) ge_int) ge_int)
    (gs_cons (gs_setI (u64 hu) (bin_ b_Add (ix_ hu (v_ 0) ge_int) ge_int) (v_ 0) ge_int)
    (gs_cons (gs_if (tcmp_ c_Lt hu (ix_ hu (v_ 0) ge_int) (cb_ f_len T.z_len hu (ga_cons (ix_ hu (v_ 0) ge_int) ga_nil)))
      (gs_cons (gs_setI (u64 hu) (ix_ hu (ix_ hu (v_ 0) ge_int) (ix_ hu (v_ 0) ge_int)) (v_ 0) ge_int)
      gs_nil)
      gs_nil)
    (gs_cons (gs_if (tcmp_ c_Eq hu (ix_ hu (v_ 0) ge_int) ge_int)
      (gs_cons (gs_setI (u64 hu) (bin_ b_Mod (ct_ f_int T.z_int hu (ga_cons (bin_ b_Add (bin_ b_Mult (ix_ hu (v_ 0) ge_int) ge_int) ge_int) ga_nil)) ge_int) (v_ 0) ge_int)
      (gs_cons (gs_setI (u64 hu) (ix_ hu (v_ 0) ge_int) (v_ 0) ge_int)
      gs_nil))
      gs_nil)
    gs_nil)))
    gs_nil)
  (gs_cons (set_ 2 sc__law_take.nd (bin_ b_Mod (ct_ f_int T.z_int hu (ga_cons (ix_ hu (v_ 0) ge_int) ga_nil)) (v_ 1)))
  (gs_cons (gs_setI (u64 hu) (bin_ b_FloorDiv (ix_ hu (v_ 0) ge_int) (v_ 1)) (v_ 0) ge_int)
  (gs_cons (gs_ret (v_ 2))
  gs_nil))))
theorem ok__law_take (T : Txt c w mg) : Cal c P w mg base 1 "_law_take" f__law_take := by
  obtain ⟨f, fd, F, hm, hk, hb⟩ := T.d__law_take.ex
  exact ⟨f, fd, _, fn__law_take T F, hm, hk, hb⟩
theorem fn__law_says (T : Txt c w mg) {f : Addr} {fd : FuncData} (F : Fun c.K "_law_says" "_law_says" s__law_says f fd) : FnOk P w c.K mg base (L2.CX P w) 1 f fd ["value", "due"] (spG c f__law_says) := by
  refine def_ok (b := b__law_says) F sc__law_says rfl rfl fun cdv A outer s H E hr tk hp => ?_
  have hu := u65 hr
  exact
  (gs_cons (gs_ret (and_ (cb_ f_isinstance T.z_isinstance hu (ga_cons (v_ 0) (ga_cons (ge_ty T.z_bool) ga_nil))) (ge_one (cmp_ c_Eq hu (v_ 0) (v_ 1)))))
  gs_nil)
theorem ok__law_says (T : Txt c w mg) : Cal c P w mg base 1 "_law_says" f__law_says := by
  obtain ⟨f, fd, F, hm, hk, hb⟩ := T.d__law_says.ex
  exact ⟨f, fd, _, fn__law_says T F, hm, hk, hb⟩
theorem fn_law (T : Txt c w mg) {f : Addr} {fd : FuncData} (F : Fun c.K "law" "law" s_law f fd) : FnOk P w c.K mg base (L2.CX P w) 5 f fd ["script"] (spG c f_law) := by
  refine def_ok (b := b_law) F sc_law rfl rfl fun cdv A outer s H E hr tk hp => ?_
  have hu := u65 hr
  exact
  (gs_cons (set_ 1 sc_law.nd (ge_callMu (ok__law_draw T) (hr.mono (by decide)) tk (ga_cons (v_ 0) ga_nil)))
  (gs_cons (gs_if (tcmp_ c_NotEq hu (ge_call0 (ok_arrows T) (hr.mono (by decide)) tk) (ct_ f_tuple T.z_tuple hu (ga_cons (ge_imm (fb_ f_sorted T.z_sorted hu (ga_cons (ge_call0 (ok__law_arrows T) (hr.mono (by decide)) tk) ga_nil))) ga_nil)))
    (gs_cons (gs_ret ge_bl)
    gs_nil)
    gs_nil)
  (gs_cons (for_ hp (gi_rng1 T.z_range (ga_cons ge_int ga_nil)) (n_ 2 sc_law.nd)
    (gs_cons (set_ 6 sc_law.nd (ix_ hu (ge_call0 (ok__law_words T) (hr.mono (by decide)) tk) (ge_call (ok__law_take T) (hr.mono (by decide)) tk (ga_cons (v_ 1) (ga_cons ge_int ga_nil)))))
    (gs_cons (set_ 7 sc_law.nd (ge_call (ok__law_reached T) (hr.mono (by decide)) tk (ga_cons (v_ 6) ga_nil)))
    (gs_cons (gs_if (tcmp_ c_NotEq hu (ge_call (ok__law_told T) (hr.mono (by decide)) tk (ga_cons ge_int (ga_cons (v_ 6) (ga_cons ge_str ga_nil)))) (ct_ f_tuple T.z_tuple hu (ga_cons (ge_imm (lc_ [("word", 10)] sc_law.nd (in_ (ge_call0 (ok__law_words T) (hr.mono (by decide)) tk)) (fun _ _ _ _ _ => (n_ 10 sc_law.nd)) (fun _ _ _ _ _ => (gts_one (tcmp_ c_In hu (v_ 10) (v_ 7)))) (fun _ _ _ _ _ => (v_ 10)))) ga_nil)))
      (gs_cons (gs_ret ge_bl)
      gs_nil)
      gs_nil)
    (gs_cons (for_ hp (in_ (ge_call0 (ok__law_words T) (hr.mono (by decide)) tk)) (n_ 8 sc_law.nd)
      (gs_cons (gs_if (gt_not (tr_ (ge_call (ok__law_says T) (hr.mono (by decide)) tk (ga_cons (ge_call (ok__law_told T) (hr.mono (by decide)) tk (ga_cons ge_int (ga_cons (v_ 6) (ga_cons (v_ 8) ga_nil)))) (ga_cons (cmp_ c_In hu (v_ 8) (v_ 7)) ga_nil)))))
        (gs_cons (gs_ret ge_bl)
        gs_nil)
        gs_nil)
      gs_nil))
    gs_nil)))))
  (gs_cons (set_ 3 sc_law.nd (ct_ f_tuple T.z_tuple hu (ga_cons (ge_imm (lc_ [("k", 9)] sc_law.nd (gi_rng1 T.z_range (ga_cons (ge_call (ok__law_take T) (hr.mono (by decide)) tk (ga_cons (v_ 1) (ga_cons ge_int ga_nil))) ga_nil)) (fun _ _ _ _ _ => (n_ 9 sc_law.nd)) (fun _ _ _ _ _ => gts_nil) (fun _ _ _ _ _ => (ix_ hu (ge_call0 (ok__law_words T) (hr.mono (by decide)) tk0) (ge_call (ok__law_take T) (hr.mono (by decide)) tk0 (ga_cons (v_ 1) (ga_cons ge_int ga_nil))))))) ga_nil)))
  (gs_cons (set_ 4 sc_law.nd (ct_ f_tuple T.z_tuple hu (ga_cons (ge_imm (lc_ [("y", 8)] sc_law.nd (in_ (ge_call0 (ok__law_words T) (hr.mono (by decide)) tk)) (fun _ _ _ _ _ => (n_ 8 sc_law.nd)) (fun _ _ _ _ _ => (gts_one (tr_ (cb_ f_any T.z_any hu (ga_cons (ge_imm (lc_ [("x", 6)] sc_law.nd (in_ (v_ 3)) (fun _ _ _ _ _ => (n_ 6 sc_law.nd)) (fun _ _ _ _ _ => gts_nil) (fun _ _ _ _ _ => (cmp_ c_In hu (v_ 8) (ge_call (ok__law_reached T) (hr.mono (by decide)) tk0 (ga_cons (v_ 6) ga_nil)))))) ga_nil))))) (fun _ _ _ _ _ => (v_ 8)))) ga_nil)))
  (gs_cons (gs_if (tcmp_ c_NotEq hu (ge_call (ok__law_told T) (hr.mono (by decide)) tk (ga_cons ge_int (ga_cons (v_ 3) (ga_cons ge_str ga_nil)))) (v_ 4))
    (gs_cons (gs_ret ge_bl)
    gs_nil)
    gs_nil)
  (gs_cons (for_ hp (in_ (ge_imm (gf_lst (ga_cons ge_str (ga_cons ge_str (ga_cons ge_non (ga_cons ge_int (ga_cons (ge_tup (ga_cons ge_str ga_nil)) (ga_cons ge_int (ga_cons ge_bl ga_nil)))))))))) (n_ 5 sc_law.nd)
    (gs_cons (gs_if (tcmp_ c_NotEq hu (ge_imm (gf_lst (ga_cons (ge_call (ok__law_told T) (hr.mono (by decide)) tk (ga_cons ge_int (ga_cons (v_ 5) (ga_cons ge_str ga_nil)))) (ga_cons (ge_call (ok__law_told T) (hr.mono (by decide)) tk (ga_cons ge_int (ga_cons ge_str (ga_cons (v_ 5) ga_nil)))) (ga_cons (ge_call (ok__law_told T) (hr.mono (by decide)) tk (ga_cons ge_int (ga_cons (v_ 5) (ga_cons ge_str ga_nil)))) (ga_cons (ge_call (ok__law_told T) (hr.mono (by decide)) tk (ga_cons ge_int (ga_cons (ge_tup (ga_cons ge_str (ga_cons (v_ 5) ga_nil))) (ga_cons ge_str ga_nil)))) ga_nil)))))) (bin_ b_Mult (ge_imm (gf_lst (ga_cons ge_str ga_nil))) ge_int))
      (gs_cons (gs_ret ge_bl)
      gs_nil)
      gs_nil)
    gs_nil))
  (gs_cons (gs_ret (cmp_ c_Eq hu (ge_imm (lc_ [("bad", 5)] sc_law.nd (in_ (ge_imm (gf_lst (ga_cons ge_non (ga_cons ge_str (ga_cons (ge_imm (gf_lst (ga_cons ge_str ga_nil))) (ga_cons ge_int ga_nil))))))) (fun _ _ _ _ _ => (n_ 5 sc_law.nd)) (fun _ _ _ _ _ => gts_nil) (fun _ _ _ _ _ => (ge_call (ok__law_told T) (hr.mono (by decide)) tk0 (ga_cons ge_int (ga_cons (v_ 5) (ga_cons ge_str ga_nil))))))) (bin_ b_Mult (ge_imm (gf_lst (ga_cons ge_str ga_nil))) ge_int)))
  gs_nil))))))))
theorem ok_law (T : Txt c w mg) : Cal c P w mg base 5 "law" f_law := by
  obtain ⟨f, fd, F, hm, hk, hb⟩ := T.d_law.ex
  exact ⟨f, fd, _, fn_law T F, hm, hk, hb⟩
end
end Y

namespace G
open PySem
section
variable {sl : Sl} {μ μ1 μ2 : Mu} {a b m : M Val} {r as : M (List Val)} {v u : Val} {vs : List Val} {x : Res Val}
theorem mife_ok {t : M Bool} {k : Bool} (h : t sl μ = .ok k μ1) : mife t a b sl μ = (if k then a else b) sl μ1 := by
  unfold mife andThen; rw [h]
theorem stry_rt {mt : Nat → Option Bool} {body suite : B} (h : body sl μ = .rt v μ1) : stry mt body suite sl μ = .rt v μ1 := by
  unfold stry; rw [h]
theorem stry_nx {mt : Nat → Option Bool} {body suite : B} {sl' : Sl} (h : body sl μ = .nx sl' μ1) : stry mt body suite sl μ = .nx sl' μ1 := by
  unfold stry; rw [h]
theorem defB_nx {np nl : Nat} {b : B} {vs : List Val} {μ μ' : Mu} {sl' : Sl} (hl : vs.length = np) (h : b (startS nl vs) μ = .nx sl' μ') : defB np nl b vs μ = .ok .non μ' := by
  unfold defB; rw [if_pos hl, h]
theorem mcallV_ok {tbl : Nat → Option Sem} {mf : M Val} {k : Nat} {g : Sem} (h1 : mf sl μ = .ok (.fn k) μ1) (h2 : tbl k = some g) (h3 : as sl μ1 = .ok vs μ2) : mcallV tbl mf as sl μ = callD g vs μ2 := by
  unfold mcallV andThen; rw [h1]; dsimp only; rw [h2]; exact mcall_ok h3
end
theorem all_mem {α : Type} {l : List α} {p : α → Bool} (h : l.all p = true) {x : α} (hx : x ∈ l) : p x = true := List.all_eq_true.mp h x hx
end G
namespace Y
open G PySem
theorem eDraw : f__law_draw = f_draw := rfl
theorem eTake : f__law_take = f_take := rfl
def W : List Val := [.str "fsr", .str "vsr", .str "csr", .str "ocsr", .str "cocsr", .str "mvsr", .str "mcsr", .str "rec", .str "lrc", .str "aca", .str "st", .str "rg", .str "tpl", .str "stpl", .str "to", .str "ser"]
theorem eW : v_WORDS = .tup W := rfl
theorem words_ok (μ : Mu) : callD f__law_words [] μ = .ok (.lst W) μ := callD_of rfl (show callD f__law_words [] [] = .ok (.lst W) [] by kernel_rfl) μ
def isW (x : Val) : Bool := match x with
  | .str s => (match dep (.str s) with | some n => n == 0 | none => false) && veq (.str s) (.str s)
  | _ => false
theorem isW_all : W.all isW = true := by kernel_rfl
theorem isW_ok {x : Val} (hx : x ∈ W) : up x = 0 ∧ dep x = some 0 ∧ veq x x = true ∧ (∃ s, x = .str s) ∧ ∀ k, cl k x = true := by
  have := all_mem isW_all hx
  cases x with
  | str s =>
    simp only [isW, Bool.and_eq_true] at this
    obtain ⟨h1, h2⟩ := this
    refine ⟨rfl, ?_, h2, ⟨s, rfl⟩, fun _ => rfl⟩
    cases e : dep (.str s) with
    | none => rw [e] at h1; cases h1
    | some n =>
      rw [e] at h1
      have : n = 0 := by simpa using h1
      rw [this]
  | _ => cases this
def reach (x : Val) : List Val := match (callD f__law_reached [x] []).val with
  | some (.lst l) => l
  | _ => []
def rb (x y : Val) : Bool := isIn y (reach x)
def okr (x : Val) : Bool := match (callD f__law_reached [x] []).val with
  | some (.lst l) => shps l
  | _ => false
theorem okr_all : W.all okr = true := by kernel_rfl
def okc (x y : Val) : Bool := match (callD f_chain_between [x, y] []).val with
  | some v => (!isNonB v) == rb x y
  | none => false
theorem okc_0 : (W.all fun y => okc (.str "fsr") y) = true := by kernel_rfl
theorem okc_1 : (W.all fun y => okc (.str "vsr") y) = true := by kernel_rfl
theorem okc_2 : (W.all fun y => okc (.str "csr") y) = true := by kernel_rfl
theorem okc_3 : (W.all fun y => okc (.str "ocsr") y) = true := by kernel_rfl
theorem okc_4 : (W.all fun y => okc (.str "cocsr") y) = true := by kernel_rfl
theorem okc_5 : (W.all fun y => okc (.str "mvsr") y) = true := by kernel_rfl
theorem okc_6 : (W.all fun y => okc (.str "mcsr") y) = true := by kernel_rfl
theorem okc_7 : (W.all fun y => okc (.str "rec") y) = true := by kernel_rfl
theorem okc_8 : (W.all fun y => okc (.str "lrc") y) = true := by kernel_rfl
theorem okc_9 : (W.all fun y => okc (.str "aca") y) = true := by kernel_rfl
theorem okc_10 : (W.all fun y => okc (.str "st") y) = true := by kernel_rfl
theorem okc_11 : (W.all fun y => okc (.str "rg") y) = true := by kernel_rfl
theorem okc_12 : (W.all fun y => okc (.str "tpl") y) = true := by kernel_rfl
theorem okc_13 : (W.all fun y => okc (.str "stpl") y) = true := by kernel_rfl
theorem okc_14 : (W.all fun y => okc (.str "to") y) = true := by kernel_rfl
theorem okc_15 : (W.all fun y => okc (.str "ser") y) = true := by kernel_rfl
theorem okc_cons {p : Val → Bool} {x : Val} {l : List Val} (h : p x = true) (t : l.all p = true) : (x :: l).all p = true := by rw [List.all_cons, h, t]; rfl
theorem okc_all : (W.all fun x => W.all fun y => okc x y) = true := okc_cons okc_0 (okc_cons okc_1 (okc_cons okc_2 (okc_cons okc_3 (okc_cons okc_4 (okc_cons okc_5 (okc_cons okc_6 (okc_cons okc_7 (okc_cons okc_8 (okc_cons okc_9 (okc_cons okc_10 (okc_cons okc_11 (okc_cons okc_12 (okc_cons okc_13 (okc_cons okc_14 (okc_cons okc_15 rfl)))))))))))))))
end Y

namespace Y
open G PySem
theorem reach_ok {x : Val} (hx : x ∈ W) (μ : Mu) : callD f__law_reached [x] μ = .ok (.lst (reach x)) μ ∧ shps (reach x) = true := by
  have h := all_mem okr_all hx
  unfold okr at h
  cases e : (callD f__law_reached [x] []).val with
  | none => rw [e] at h; cases h
  | some v =>
    rw [e] at h
    cases v with
    | lst l =>
      obtain ⟨μ0, e0⟩ := Res.of_val e
      have er : reach x = l := by unfold reach; rw [e]
      rw [er]
      refine ⟨callD_of ?_ e0 μ, h⟩
      show max (up x) 0 = 0
      rw [(isW_ok hx).1]; rfl
    | _ => cases h
theorem ups2 {x y : Val} (hx : x ∈ W) (hy : y ∈ W) : ups [x, y] = 0 := by
  show max (up x) (max (up y) 0) = 0
  rw [(isW_ok hx).1, (isW_ok hy).1]; rfl
theorem ups1 {x : Val} (hx : x ∈ W) : ups [x] = 0 := by
  show max (up x) 0 = 0
  rw [(isW_ok hx).1]; rfl
theorem chain_ok {x y : Val} (hx : x ∈ W) (hy : y ∈ W) (μ : Mu) : ∃ v, callD f_chain_between [x, y] μ = .ok v μ ∧ (!isNonB v) = rb x y := by
  have h := all_mem (all_mem okc_all hx) hy
  unfold okc at h
  cases e : (callD f_chain_between [x, y] []).val with
  | none => rw [e] at h; cases h
  | some v =>
    rw [e] at h
    obtain ⟨μ0, e0⟩ := Res.of_val e
    exact ⟨v, callD_of (ups2 hx hy) e0 μ, by simpa using h⟩
def okw (x : Val) : Bool := match (callD f_check_word [x] []).val with
  | some .non => true
  | _ => false
theorem okw_all : W.all okw = true := by kernel_rfl
theorem word_ok {x : Val} (hx : x ∈ W) (μ : Mu) : callD f_check_word [x] μ = .ok .non μ := by
  have h := all_mem okw_all hx
  unfold okw at h
  cases e : (callD f_check_word [x] []).val with
  | none => rw [e] at h; cases h
  | some v =>
    rw [e] at h
    obtain ⟨μ0, e0⟩ := Res.of_val e
    cases v with
    | non => exact callD_of (ups1 hx) e0 μ
    | _ => cases h
theorem pair_ok {x y : Val} (hx : x ∈ W) (hy : y ∈ W) (μ : Mu) : callD f_check_pair [x, y] μ = .ok .non μ := by
  refine callD_pure (ups2 hx hy) (v := .non) (μ' := []) ?_ rfl
  refine defB_nx (sl' := [some x, some y]) rfl ?_
  exact (seq_nx (drop_ok ((mcall_ok (vs := [x]) (μ1 := []) rfl).trans (word_ok hx [])))).trans ((seq_nx (drop_ok ((mcall_ok (vs := [y]) (μ1 := []) rfl).trans (word_ok hy [])))).trans rfl)
theorem does_ok {x y : Val} (hx : x ∈ W) (hy : y ∈ W) (μ : Mu) : callD f_does_force [x, y] μ = .ok (.bl (rb x y)) μ := by
  obtain ⟨v, e, hv⟩ := chain_ok hx hy []
  refine callD_pure (ups2 hx hy) (v := .bl (rb x y)) (μ' := []) (defB_rt rfl ?_) rfl
  refine (seq_nx (drop_ok ((mcall_ok (vs := [x, y]) (μ1 := []) rfl).trans (pair_ok hx hy [])))).trans (seq_rt (ret_ok ?_))
  refine (mop2_ok (v := v) (u := .non) (μ1 := []) (μ2 := []) ((mcall_ok (vs := [x, y]) (μ1 := []) rfl).trans e) rfl).trans ?_
  show Res.ok (Val.bl (!isNonB v)) [] = _
  rw [hv]
theorem LIM16 {n : Nat} (h : n ≤ 16) : n ≤ LIM := by unfold LIM; omega
theorem fl_len (p : Val → Bool) : (W.filter p).length ≤ LIM := LIM16 (Nat.le_trans (List.length_filter_le _ _) (by decide))
theorem cls_W (k : Nat) : ∀ {l : List Val}, (∀ v ∈ l, v ∈ W) → cls k l = true
  | [], _ => rfl
  | x :: l, h => by
    show (cl k x && cls k l) = true
    rw [(isW_ok (h x List.mem_cons_self)).2.2.2.2 k, cls_W k fun v hv => h v (List.mem_cons_of_mem _ hv)]; rfl
theorem ups_W : ∀ {l : List Val}, (∀ v ∈ l, v ∈ W) → ups l = 0
  | [], _ => rfl
  | x :: l, h => by
    show max (up x) (ups l) = 0
    rw [(isW_ok (h x List.mem_cons_self)).1, ups_W fun v hv => h v (List.mem_cons_of_mem _ hv)]; rfl
theorem deps_W : ∀ {l : List Val}, (∀ v ∈ l, v ∈ W) → deps l = some 0
  | [], _ => rfl
  | x :: l, h => by
    unfold deps
    rw [(isW_ok (h x List.mem_cons_self)).2.1, deps_W fun v hv => h v (List.mem_cons_of_mem _ hv)]; rfl
theorem veqs_W : ∀ {l : List Val}, (∀ v ∈ l, v ∈ W) → veqs l l = true
  | [], _ => rfl
  | x :: l, h => by
    show (veq x x && veqs l l) = true
    rw [(isW_ok (h x List.mem_cons_self)).2.2.1, veqs_W fun v hv => h v (List.mem_cons_of_mem _ hv)]; rfl
theorem ne_same {l : List Val} (h : ∀ v ∈ l, v ∈ W) (μ : Mu) : vNe (.tup l) (.tup l) μ = .ok (.bl false) μ := by
  have hs : shp (.tup l) = true := by
    unfold shp dep
    rw [deps_W h]; rfl
  show (if shp (.tup l) && shp (.tup l) then Res.ok (Val.bl (!veqs l l)) μ else .stuck) = _
  rw [hs, veqs_W h]; rfl
theorem mem_fl {p : Val → Bool} : ∀ v ∈ W.filter p, v ∈ W := fun v h => (List.mem_filter.mp h).1
theorem allf_ok {x : Val} (hx : x ∈ W) (μ : Mu) : callD f_all_forced [x] μ = .ok (.tup (W.filter (rb x))) μ := by
  refine callD_pure (ups1 hx) (v := .tup (W.filter (rb x))) (μ' := []) (defB_rt rfl ?_) (freeze_cl (cls_W 0 mem_fl))
  refine (seq_nx (drop_ok ((mcall_ok (vs := [x]) (μ1 := []) rfl).trans (word_ok hx [])))).trans (seq_rt (ret_ok ?_))
  refine (mcall_ok (vs := [.lst (W.filter (rb x))]) (μ1 := []) (acons_ok (mimm_ok ?_) rfl)).trans rfl
  refine mlc_vals (xs := W) (μ1 := []) rfl ?_ (fl_len _)
  have := lcL_pure (own := [1]) (t := .nm 1) (cond := mbool (mop2 vNotN (mcall (callD f_chain_between) (acons (mvar 0) (acons (mvar 1) (anil)))) (mcst .non))) (elt := mvar 1) (sl := [some x, none]) (μ := []) (fun y => [some x, some y]) (rb x) id W (fun _ _ => rfl) (fun y hy => ?_) fun _ _ _ => rfl
  · rw [List.map_id] at this; exact this
  · obtain ⟨v, e, hv⟩ := chain_ok hx hy []
    refine mbool_ok ((mop2_ok (v := v) (u := .non) (μ1 := []) (μ2 := []) ((mcall_ok (vs := [x, y]) (μ1 := []) rfl).trans e) rfl).trans ?_)
    show Res.ok (Val.bl (!isNonB v)) [] = _
    rw [hv]
end Y

namespace Y
open G PySem
theorem vtr_bl (k : Bool) (μ : Mu) : vtruth μ (.bl k) = some k := bl_truth
theorem any_bls {f : Val → Bool} (ws : List Val) : blsOf (ws.map fun x => Val.bl (f x)) = some (ws.map f) := by
  induction ws with
  | nil => rfl
  | cons w ws ih => show (blsOf (ws.map fun x => Val.bl (f x))).map (f w :: ·) = _; rw [ih]; rfl
theorem any_ok {f : Val → Bool} (ws : List Val) (μ : Mu) : vAny [.lst (ws.map fun x => Val.bl (f x))] μ = .ok (.bl (ws.any f)) μ := by
  show (match blsOf (ws.map fun x => Val.bl (f x)) with | some bs => Res.ok (Val.bl (bs.any id)) μ | none => .stuck) = _
  rw [any_bls]
  simp
theorem all_ok {f : Val → Bool} (ws : List Val) (μ : Mu) : vAll [.lst (ws.map fun x => Val.bl (f x))] μ = .ok (.bl (ws.all f)) μ := by
  show (match blsOf (ws.map fun x => Val.bl (f x)) with | some bs => Res.ok (Val.bl (bs.all id)) μ | none => .stuck) = _
  rw [any_bls]
  simp
theorem filter_true (l : List Val) : l.filter (fun _ => true) = l := by simp
/-- [f(x) for x in ws], by the i-th name -/
theorem lc_all {own : List Nat} {t : Tgt} {elt : M Val} {sl : Sl} {μ : Mu} (s : Val → Sl) (f : Val → Val) (xs : List Val) (hb : ∀ x ∈ xs, bindT t x (wipeS sl own) μ = some (s x)) (he : ∀ x ∈ xs, elt (s x) μ = .ok (f x) μ) :
    lcL own t tyes elt xs sl μ = .ok (xs.map f) μ := by
  have := lcL_pure (own := own) (t := t) (cond := tyes) (elt := elt) (sl := sl) (μ := μ) s (fun _ => true) f xs hb (fun _ _ => rfl) fun x hx _ => he x hx
  rwa [filter_true] at this
def okin (x : Val) : Bool := match (vIn2 x v_WORDS []).val with
  | some (.bl b) => b
  | _ => false
theorem okin_all : W.all okin = true := by kernel_rfl
theorem in_ok {x : Val} (hx : x ∈ W) (μ : Mu) : vIn2 x v_WORDS μ = .ok (.bl true) μ := by
  obtain ⟨s, rfl⟩ := (isW_ok hx).2.2.2.1
  have h := all_mem okin_all hx
  unfold okin at h
  cases e : (vIn2 (.str s) v_WORDS []).val with
  | none => rw [e] at h; cases h
  | some v =>
    rw [e] at h
    cases v with
    | bl b =>
      cases b with
      | true =>
        obtain ⟨μ0, e0⟩ := Res.of_val e
        have q : ∀ μ, vIn2 (.str s) v_WORDS μ = (match inB (.str s) v_WORDS [] with | some b => Res.ok (Val.bl b) μ | none => .stuck) := fun μ => rfl
        rw [q] at e0 ⊢
        cases e1 : inB (.str s) v_WORDS [] with
        | none => rw [e1] at e0; cases e0
        | some b => rw [e1] at e0; cases e0; rfl
      | false => cases h
    | _ => cases h
theorem upsT {ws : List Val} (h : ∀ v ∈ ws, v ∈ W) : ups [.tup ws] = 0 := by
  show max (ups ws) 0 = 0
  rw [ups_W h]; rfl
theorem closed_ok {ws : List Val} (h : ∀ v ∈ ws, v ∈ W) (hl : ws.length ≤ 16) (μ : Mu) : callD f_closed [.tup ws] μ = .ok (.tup (W.filter fun y => ws.any fun x => rb x y)) μ := by
  refine callD_pure (upsT h) (v := .tup (W.filter fun y => ws.any fun x => rb x y)) (μ' := []) (defB_rt rfl ?_) (freeze_cl (cls_W 0 mem_fl))
  have e1 : mlc (iseq (mvar 0)) (List.map (·.2) ([("word", 2)] : List (PySem.Str × Nat))) (.nm 2) (tyes) (mand (mcall vIsi (acons (mvar 2) (acons (mcst (.ty "str")) (anil)))) (mop2 vIn2 (mvar 2) (mcst v_WORDS))) [some (.tup ws), none, none, none] [] = .ok (ws.map fun _ => Val.bl true) [] := by
    refine mlc_vals (xs := ws) (μ1 := []) rfl (lc_all (fun y => [some (.tup ws), none, some y, none]) _ ws (fun _ _ => rfl) fun y hy => ?_) (by rw [List.length_map]; exact LIM16 hl)
    obtain ⟨s, hs⟩ := (isW_ok (h y hy)).2.2.2.1
    have e2 : mcall vIsi (acons (mvar 2) (acons (mcst (.ty "str")) (anil))) [some (.tup ws), none, some y, none] [] = .ok (.bl true) [] := by subst hs; rfl
    unfold mand andThen
    rw [e2]
    exact (mop2_ok (v := y) (u := v_WORDS) (μ1 := []) (μ2 := []) rfl rfl).trans (in_ok (h y hy) [])
  have e3 : tor (tnot (mtruth (mcall vIsi (acons (mvar 0) (acons (mcst (.ty "tuple")) (anil)))))) (tnot (mtruth (mcall vAll (acons (mimm (mlc (iseq (mvar 0)) (List.map (·.2) ([("word", 2)] : List (PySem.Str × Nat))) (.nm 2) (tyes) (mand (mcall vIsi (acons (mvar 2) (acons (mcst (.ty "str")) (anil)))) (mop2 vIn2 (mvar 2) (mcst v_WORDS))))) (anil))))) [some (.tup ws), none, none, none] [] = .ok false [] := by
    have q1 : tnot (mtruth (mcall vIsi (acons (mvar 0) (acons (mcst (.ty "tuple")) (anil))))) [some (.tup ws), none, none, none] [] = .ok false [] := rfl
    unfold tor andThen
    rw [q1]
    refine tnot_ok (k := true) (mtruth_bl ((mcall_ok (acons_ok (mimm_ok e1) rfl)).trans ?_))
    rw [all_ok (f := fun _ => true)]
    simp
  refine (seq_nx (sifF e3)).trans (seq_rt (ret_ok ?_))
  refine (mcall_ok (vs := [.lst (W.filter fun y => ws.any fun x => rb x y)]) (μ1 := []) (acons_ok (mimm_ok ?_) rfl)).trans rfl
  refine mlc_vals (xs := W) (μ1 := []) rfl ?_ (fl_len _)
  have := lcL_pure (own := [1]) (t := .nm 1) (cond := mtruth (mcall vAny (acons (mimm (mlc (iseq (mvar 0)) (List.map (·.2) ([("x", 3)] : List (PySem.Str × Nat))) (.nm 3) (tyes) (mop2 vNotN (mcall (callD f_chain_between) (acons (mvar 3) (acons (mvar 1) (anil)))) (mcst .non)))) (anil)))) (elt := mvar 1) (sl := [some (.tup ws), none, none, none]) (μ := []) (fun y => [some (.tup ws), some y, none, none]) (fun y => ws.any fun x => rb x y) id W (fun _ _ => rfl) (fun y hy => ?_) fun _ _ _ => rfl
  · rw [List.map_id] at this; exact this
  · have e4 : mlc (iseq (mvar 0)) (List.map (·.2) ([("x", 3)] : List (PySem.Str × Nat))) (.nm 3) (tyes) (mop2 vNotN (mcall (callD f_chain_between) (acons (mvar 3) (acons (mvar 1) (anil)))) (mcst .non)) [some (.tup ws), some y, none, none] [] = .ok (ws.map fun x => Val.bl (rb x y)) [] := by
      refine mlc_vals (xs := ws) (μ1 := []) rfl (lc_all (fun x => [some (.tup ws), some y, none, some x]) _ ws (fun _ _ => rfl) fun x hx => ?_) (by rw [List.length_map]; exact LIM16 hl)
      obtain ⟨v, e, hv⟩ := chain_ok (h x hx) hy []
      refine (mop2_ok (v := v) (u := .non) (μ1 := []) (μ2 := []) ((mcall_ok (vs := [x, y]) (μ1 := []) rfl).trans e) rfl).trans ?_
      show Res.ok (Val.bl (!isNonB v)) [] = _
      rw [hv]
    exact mtruth_bl ((mcall_ok (acons_ok (mimm_ok e4) rfl)).trans (any_ok ws []))
/-! ### told -/
theorem told0 {x y : Val} (hx : x ∈ W) (hy : y ∈ W) (μ : Mu) : callD f__law_told [.int 0, x, y] μ = .ok (.bl (rb x y)) μ := by
  refine callD_pure (by show max 0 (ups [x, y]) = 0; rw [ups2 hx hy]; rfl) (v := .bl (rb x y)) (μ' := []) (defB_rt rfl ?_) rfl
  refine seq_rt (stry_rt (seq_rt (ret_ok ?_)))
  refine (mife_ok (k := true) (μ1 := []) rfl).trans ?_
  exact (mcall_ok (vs := [x, y]) (μ1 := []) rfl).trans (does_ok hx hy [])
theorem told1 {x : Val} (hx : x ∈ W) (μ : Mu) : callD f__law_told [.int 1, x, .str ""] μ = .ok (.tup (W.filter (rb x))) μ := by
  refine callD_pure (by show max 0 (max (up x) 0) = 0; rw [(isW_ok hx).1]; rfl) (v := .tup (W.filter (rb x))) (μ' := []) (defB_rt rfl ?_) (freeze_cl (cls_W 0 mem_fl))
  refine seq_rt (stry_rt (seq_rt (ret_ok ?_)))
  refine (mife_ok (k := false) (μ1 := []) rfl).trans ?_
  exact (mcallV_ok (k := 1) (g := f_all_forced) (vs := [x]) (μ1 := []) (μ2 := []) rfl rfl rfl).trans (allf_ok hx [])
theorem told2 {ws : List Val} (h : ∀ v ∈ ws, v ∈ W) (hl : ws.length ≤ 16) (μ : Mu) : callD f__law_told [.int 2, .tup ws, .str ""] μ = .ok (.tup (W.filter fun y => ws.any fun x => rb x y)) μ := by
  refine callD_pure (by show max 0 (max (ups ws) 0) = 0; rw [ups_W h]; rfl) (v := .tup (W.filter fun y => ws.any fun x => rb x y)) (μ' := []) (defB_rt rfl ?_) (freeze_cl (cls_W 0 mem_fl))
  refine seq_rt (stry_rt (seq_rt (ret_ok ?_)))
  refine (mife_ok (k := false) (μ1 := []) rfl).trans ?_
  exact (mcallV_ok (k := 0) (g := f_closed) (vs := [.tup ws]) (μ1 := []) (μ2 := []) rfl rfl rfl).trans (closed_ok h hl [])
end Y

namespace G
open PySem
/-- a comprehension whose items draw -/
theorem lcL_draw {own : List Nat} {t : Tgt} {elt : M Val} {sl : Sl} (s : Val → Sl) (Q : Val → Prop) : ∀ (xs : List Val) (o : Ob), IsDr o → (∀ x ∈ xs, ∀ μ, bindT t x (wipeS sl own) μ = some (s x)) → (∀ x ∈ xs, ∀ o, IsDr o → ∃ v o', elt (s x) [o] = .ok v [o'] ∧ Q v ∧ IsDr o') →
    ∃ vs o', lcL own t tyes elt xs sl [o] = .ok vs [o'] ∧ IsDr o' ∧ (∀ v ∈ vs, Q v) ∧ vs.length = xs.length
  | [], o, h, _, _ => ⟨[], o, rfl, h, fun _ h => (by cases h), rfl⟩
  | x :: xs, o, h, hb, he => by
    obtain ⟨v, o1, e1, q1, h1⟩ := he x List.mem_cons_self o h
    obtain ⟨vs, o2, e2, h2, q2, l2⟩ := lcL_draw s Q xs o1 h1 (fun y hy => hb y (List.mem_cons_of_mem _ hy)) fun y hy => he y (List.mem_cons_of_mem _ hy)
    refine ⟨v :: vs, o2, ?_, h2, fun u hu => (List.mem_cons.mp hu).elim (fun e => e ▸ q1) (q2 u), by simp [l2]⟩
    unfold lcL
    rw [hb x List.mem_cons_self]
    show (match elt (s x) [o] with
          | .ok v μ2 => (match lcL own t tyes elt xs sl μ2 with
            | .ok vs μ3 => Res.ok (v :: vs) μ3
            | _ => .stuck)
          | _ => .stuck) = _
    rw [e1]
    dsimp only
    rw [e2]
theorem mlc_valsD {src : M Src} {own : List Nat} {t : Tgt} {cond : M Bool} {elt : M Val} {sl : Sl} {μ μ1 μ2 : Mu} {xs vs : List Val} (h1 : src sl μ = .ok (.vals xs) μ1) (h2 : lcL own t cond elt xs sl μ1 = .ok vs μ2) (hl : vs.length ≤ LIM) : mlc src own t cond elt sl μ = .ok vs μ2 := by
  unfold mlc andThen
  rw [h1]
  dsimp only
  rw [h2]
  exact short_ok hl
theorem rng1_ok {as : M (List Val)} {sl : Sl} {μ μ1 : Mu} {j : Int} (h : as sl μ = .ok [.int j] μ1) (h0 : 0 ≤ j) (h1 : j < 1000) : irng1 as sl μ = .ok (.vals (rgVals 0 j)) μ1 := by
  unfold irng1 andThen
  rw [h]
  dsimp only
  rw [if_pos (by unfold small62; simp only [Bool.and_eq_true, decide_eq_true_eq]; omega)]
end G
namespace Y
open G PySem
theorem says_ok (k : Bool) (μ : Mu) : callD f__law_says [.bl k, .bl k] μ = .ok (.bl true) μ := by
  cases k
  · exact callD_of (μ0 := []) rfl (by kernel_rfl) μ
  · exact callD_of (μ0 := []) rfl (by kernel_rfl) μ
theorem inr_ok {x y : Val} (hx : x ∈ W) (hy : y ∈ W) (μ : Mu) : vIn2 y (.lst (reach x)) μ = .ok (.bl (rb x y)) μ := by
  obtain ⟨s, rfl⟩ := (isW_ok hy).2.2.2.1
  have hs : shp (.str s) = true := by unfold shp; rw [(isW_ok hy).2.1]; rfl
  have h2 := (reach_ok hx []).2
  show (match (if shp (.str s) && shps (reach x) then some (isIn (.str s) (reach x)) else none) with | some b => Res.ok (Val.bl b) μ | none => .stuck) = _
  rw [hs, h2]
  rfl
theorem pickW {o : Ob} (ho : IsDr o) {sl : Sl} (h1 : sl[1]? = some (some (.ref 0))) : ∃ x o', x ∈ W ∧ IsDr o' ∧ mop2 vSub2 (mcall (callD f__law_words) anil) (mcall (callD f__law_take) (acons (mvar 1) (acons (mcst (.int 16)) (anil)))) sl [o] = .ok x [o'] := by
  obtain ⟨r, o', r0, r1, ho', e⟩ := takeD_ok (rest := []) ho (m := 16) (by decide) (by decide)
  obtain ⟨x, hx, ex⟩ := pick_ok (L := W) r0 (by simpa [W] using r1) [o']
  refine ⟨x, o', hx, ho', ?_⟩
  have hv : mvar 1 sl [o] = .ok (.ref 0) [o] := by unfold mvar; rw [h1]
  exact (mop2_ok (v := .lst W) (μ1 := [o]) (u := .int r) (μ2 := [o']) ((mcall_ok (vs := []) (μ1 := [o]) rfl).trans (words_ok [o])) ((mcall_ok (vs := [.ref 0, .int 16]) (μ1 := [o]) (acons_ok hv (acons_ok (μ1 := [o]) rfl rfl))).trans e)).trans ex
section
variable (l : List Val)
def Pw (sl : Sl) (μ : Mu) : Prop := ∃ a2 a3 a4 a5 a6 a7 a8 a9 a10 o, IsDr o ∧ sl = [some (.rol l), some (.ref 0), a2, a3, a4, a5, a6, a7, a8, a9, a10] ∧ μ = [o]
def Px (x : Val) (o : Ob) (sl : Sl) (μ : Mu) : Prop := ∃ a2 a3 a4 a5 a8 a9 a10, sl = [some (.rol l), some (.ref 0), a2, a3, a4, a5, some x, some (.lst (reach x)), a8, a9, a10] ∧ μ = [o]
end
abbrev bIn : B := (sseq (sif (tnot (mtruth (mcall (callD f__law_says) (acons (mcall (callD f__law_told) (acons (mcst (.int 0)) (acons (mvar 6) (acons (mvar 8) (anil))))) (acons (mop2 vIn2 (mvar 8) (mvar 7)) (anil))))))
        (sseq (sret (mcst (.bl false)))
        (sskip))
        (sskip))
      (sskip))
abbrev bTurn : B := (sseq (sasg (mop2 vSub2 (mcall (callD f__law_words) anil) (mcall (callD f__law_take) (acons (mvar 1) (acons (mcst (.int 16)) (anil))))) (.nm 6))
    (sseq (sasg (mcall (callD f__law_reached) (acons (mvar 6) (anil))) (.nm 7))
    (sseq (sif (mbool (mop2 vNe (mcall (callD f__law_told) (acons (mcst (.int 1)) (acons (mvar 6) (acons (mcst (.str "")) (anil))))) (mcall vTuple (acons (mimm (mlc (iseq (mcall (callD f__law_words) anil)) (List.map (·.2) ([("word", 10)] : List (PySem.Str × Nat))) (.nm 10) (mbool (mop2 vIn2 (mvar 10) (mvar 7))) (mvar 10))) (anil)))))
      (sseq (sret (mcst (.bl false)))
      (sskip))
      (sskip))
    (sseq (sfor (iseq (mcall (callD f__law_words) anil)) (.nm 8)
      (bIn))
    (sskip)))))
theorem in_turn (l : List Val) {x : Val} (hx : x ∈ W) (o : Ob) (y : Val) (hy : y ∈ W) (sl : Sl) (μ : Mu) (h : Px l x o sl μ) : ∃ sl0, bindT (.nm 8) y sl μ = some sl0 ∧ ∃ sl' μ', (bIn sl0 μ = .nx sl' μ' ∨ bIn sl0 μ = .ct sl' μ') ∧ Px l x o sl' μ' := by
  obtain ⟨a2, a3, a4, a5, a8, a9, a10, rfl, rfl⟩ := h
  refine ⟨[some (.rol l), some (.ref 0), a2, a3, a4, a5, some x, some (.lst (reach x)), some y, a9, a10], rfl, [some (.rol l), some (.ref 0), a2, a3, a4, a5, some x, some (.lst (reach x)), some y, a9, a10], [o], .inl ?_, a2, a3, a4, a5, some y, a9, a10, rfl, rfl⟩
  refine (seq_nx (sifF (μ1 := [o]) ?_)).trans rfl
  refine tnot_ok (k := true) (mtruth_bl ?_)
  refine (mcall_ok (vs := [.bl (rb x y), .bl (rb x y)]) (μ1 := [o]) (acons_ok (μ1 := [o]) ?_ (acons_ok (μ1 := [o]) ?_ rfl))).trans (says_ok _ _)
  · exact (mcall_ok (vs := [.int 0, x, y]) (μ1 := [o]) rfl).trans (told0 hx hy [o])
  · exact (mop2_ok (v := y) (u := .lst (reach x)) (μ1 := [o]) (μ2 := [o]) rfl rfl).trans (inr_ok hx hy [o])
theorem turn_ok (l : List Val) (z : Val) (sl : Sl) (μ : Mu) (h : Pw l sl μ) : ∃ sl0, bindT (.nm 2) z sl μ = some sl0 ∧ ∃ sl' μ', (bTurn sl0 μ = .nx sl' μ' ∨ bTurn sl0 μ = .ct sl' μ') ∧ Pw l sl' μ' := by
  obtain ⟨a2, a3, a4, a5, a6, a7, a8, a9, a10, o, ho, rfl, rfl⟩ := h
  refine ⟨[some (.rol l), some (.ref 0), some z, a3, a4, a5, a6, a7, a8, a9, a10], rfl, ?_⟩
  obtain ⟨x, o1, hx, ho1, e1⟩ := pickW (sl := [some (.rol l), some (.ref 0), some z, a3, a4, a5, a6, a7, a8, a9, a10]) ho rfl
  obtain ⟨sl', μ', e5, b2, b3, b4, b5, b8, b9, b10, rfl, rfl⟩ := forL_inv (t := .nm 8) (body := bIn) (Px l x o1) W [some (.rol l), some (.ref 0), some z, a3, a4, a5, some x, some (.lst (reach x)), a8, a9, a10] [o1] ⟨_, _, _, _, _, _, _, rfl, rfl⟩ fun y hy sl μ h => in_turn l hx o1 y hy sl μ h
  refine ⟨_, _, .inl ?_, b2, b3, b4, b5, some x, some (.lst (reach x)), b8, b9, b10, o1, ho1, rfl, rfl⟩
  refine (seq_nx (asg_ok e1)).trans ((seq_nx (asg_ok ((mcall_ok (vs := [x]) (μ1 := [o1]) rfl).trans (reach_ok hx [o1]).1))).trans ((seq_nx (sifF (μ1 := [o1]) ?_)).trans ((seq_nx ((sfor_vals (iseq_lst ((mcall_ok (vs := []) (μ1 := [o1]) rfl).trans (words_ok [o1])))).trans e5)).trans rfl)))
  refine mbool_ok ((mop2_ok (v := .tup (W.filter (rb x))) (u := .tup (W.filter (rb x))) (μ1 := [o1]) (μ2 := [o1]) ?_ ?_).trans (ne_same mem_fl [o1]))
  · exact (mcall_ok (vs := [.int 1, x, .str ""]) (μ1 := [o1]) rfl).trans (told1 hx [o1])
  · refine (mcall_ok (vs := [.lst (W.filter (rb x))]) (μ1 := [o1]) (acons_ok (μ1 := [o1]) (mimm_ok ?_) rfl)).trans rfl
    refine mlc_vals (xs := W) (μ1 := [o1]) (iseq_lst ((mcall_ok (vs := []) (μ1 := [o1]) rfl).trans (words_ok [o1]))) ?_ (fl_len _)
    have := lcL_pure (own := [10]) (t := .nm 10) (cond := mbool (mop2 vIn2 (mvar 10) (mvar 7))) (elt := mvar 10) (sl := [some (.rol l), some (.ref 0), some z, a3, a4, a5, some x, some (.lst (reach x)), a8, a9, a10]) (μ := [o1]) (fun y => [some (.rol l), some (.ref 0), some z, a3, a4, a5, some x, some (.lst (reach x)), a8, a9, some y]) (rb x) id W (fun _ _ => rfl) (fun y hy => mbool_ok ((mop2_ok (v := y) (u := .lst (reach x)) (μ1 := [o1]) (μ2 := [o1]) rfl rfl).trans (inr_ok hx hy [o1]))) fun _ _ _ => rfl
    rw [List.map_id] at this
    exact this
theorem law_is : ∃ s1 s2 s3 s4 s5 s6 s7 s8, b_law = sseq s1 (sseq s2 (sseq s3 (sseq s4 (sseq s5 (sseq s6 (sseq s7 (sseq s8 sskip))))))) ∧
    s1 = sasg (mcall (callM f__law_draw) (acons (mvar 0) (anil))) (.nm 1) ∧
    (∀ l o, s2 [some (.rol l), some (.ref 0), none, none, none, none, none, none, none, none, none] [o] = .nx [some (.rol l), some (.ref 0), none, none, none, none, none, none, none, none, none] [o]) ∧
    s3 = sfor (irng1 (acons (mcst (.int 5)) (anil))) (.nm 2) bTurn ∧
    s4 = sasg (mcall vTuple (acons (mimm (mlc (irng1 (acons (mcall (callD f__law_take) (acons (mvar 1) (acons (mcst (.int 5)) (anil)))) (anil))) (List.map (·.2) ([("k", 9)] : List (PySem.Str × Nat))) (.nm 9) (tyes) (mop2 vSub2 (mcall (callD f__law_words) anil) (mcall (callD f__law_take) (acons (mvar 1) (acons (mcst (.int 16)) (anil))))))) (anil))) (.nm 3) ∧
    s5 = sasg (mcall vTuple (acons (mimm (mlc (iseq (mcall (callD f__law_words) anil)) (List.map (·.2) ([("y", 8)] : List (PySem.Str × Nat))) (.nm 8) (mtruth (mcall vAny (acons (mimm (mlc (iseq (mvar 3)) (List.map (·.2) ([("x", 6)] : List (PySem.Str × Nat))) (.nm 6) (tyes) (mop2 vIn2 (mvar 8) (mcall (callD f__law_reached) (acons (mvar 6) (anil)))))) (anil)))) (mvar 8))) (anil))) (.nm 4) ∧
    s6 = sif (mbool (mop2 vNe (mcall (callD f__law_told) (acons (mcst (.int 2)) (acons (mvar 3) (acons (mcst (.str "")) (anil))))) (mvar 4))) (sseq (sret (mcst (.bl false))) (sskip)) (sskip) ∧
    (∀ l o a2 a3 a4 a5 a6 a7 a8 a9 a10, s7 [some (.rol l), some (.ref 0), a2, a3, a4, a5, a6, a7, a8, a9, a10] [o] = .nx [some (.rol l), some (.ref 0), a2, a3, a4, some (.bl true), a6, a7, a8, a9, a10] [o]) ∧
    (∀ l o a2 a3 a4 a5 a6 a7 a8 a9 a10, s8 [some (.rol l), some (.ref 0), a2, a3, a4, a5, a6, a7, a8, a9, a10] [o] = .rt (.bl true) [o]) := by
  refine ⟨_, _, _, _, _, _, _, _, rfl, rfl, ?_, rfl, rfl, rfl, rfl, ?_, ?_⟩
  · intro l o; kernel_rfl
  · intro l o a2 a3 a4 a5 a6 a7 a8 a9 a10; kernel_rfl
  · intro l o a2 a3 a4 a5 a6 a7 a8 a9 a10; kernel_rfl
theorem law_ok : LawOk f_law := by
  intro ns hl
  obtain ⟨s1, s2, s3, s4, s5, s6, s7, s8, e, e1, h2, e3, e4, e5, e6, h7, h8⟩ := law_is
  obtain ⟨o, ho, ed⟩ := drawM_ok ns hl
  have t1 : s1 (startS 11 [.rol (ns.map .int)]) [] = .nx [some (.rol (ns.map .int)), some (.ref 0), none, none, none, none, none, none, none, none, none] [o] := by
    rw [e1]
    exact asg_ok ((mcall_ok (vs := [.rol (ns.map .int)]) (μ1 := []) rfl).trans ed)
  obtain ⟨sl3, μ3, t3, a2, a3, a4, a5, a6, a7, a8, a9, a10, o3, ho3, rfl, rfl⟩ := forL_inv (t := .nm 2) (body := bTurn) (Pw (ns.map .int)) (rgVals 0 5) [some (.rol (ns.map .int)), some (.ref 0), none, none, none, none, none, none, none, none, none] [o] ⟨_, _, _, _, _, _, _, _, _, o, ho, rfl, rfl⟩ fun z _ sl μ h => turn_ok _ z sl μ h
  have t3' : s3 [some (.rol (ns.map .int)), some (.ref 0), none, none, none, none, none, none, none, none, none] [o] = .nx [some (.rol (ns.map .int)), some (.ref 0), a2, a3, a4, a5, a6, a7, a8, a9, a10] [o3] := by
    rw [e3]
    exact (sfor_vals (xs := rgVals 0 5) (μ1 := [o]) (rng1_ok rfl (by decide) (by decide))).trans t3
  -- words
  obtain ⟨r, o4, r0, r1, ho4, et⟩ := takeD_ok (rest := []) ho3 (m := 5) (by decide) (by decide)
  obtain ⟨ws, o5, ew, ho5, hw, lw⟩ := lcL_draw (own := [9]) (t := .nm 9) (elt := mop2 vSub2 (mcall (callD f__law_words) anil) (mcall (callD f__law_take) (acons (mvar 1) (acons (mcst (.int 16)) (anil))))) (sl := [some (.rol (ns.map .int)), some (.ref 0), a2, a3, a4, a5, a6, a7, a8, a9, a10]) (fun k => [some (.rol (ns.map .int)), some (.ref 0), a2, a3, a4, a5, a6, a7, a8, some k, a10]) (fun v => v ∈ W) (rgVals 0 r) o4 ho4 (fun _ _ _ => rfl) fun k _ o ho => by
    obtain ⟨x, o', hx, ho', e⟩ := pickW (sl := [some (.rol (ns.map .int)), some (.ref 0), a2, a3, a4, a5, a6, a7, a8, some k, a10]) ho rfl
    exact ⟨x, o', e, hx, ho'⟩
  have lw' : ws.length ≤ 16 := by rw [lw, rgVals_len]; omega
  have t4 : s4 [some (.rol (ns.map .int)), some (.ref 0), a2, a3, a4, a5, a6, a7, a8, a9, a10] [o3] = .nx [some (.rol (ns.map .int)), some (.ref 0), a2, some (.tup ws), a4, a5, a6, a7, a8, a9, a10] [o5] := by
    rw [e4]
    refine asg_ok ((mcall_ok (vs := [.lst ws]) (μ1 := [o5]) (acons_ok (μ1 := [o5]) (mimm_ok ?_) rfl)).trans rfl)
    exact mlc_valsD (rng1_ok (j := r) (acons_ok (μ1 := [o4]) ((mcall_ok (vs := [.ref 0, .int 5]) (μ1 := [o3]) rfl).trans et) rfl) r0 (by omega)) ew (LIM16 lw')
  have t5 : s5 [some (.rol (ns.map .int)), some (.ref 0), a2, some (.tup ws), a4, a5, a6, a7, a8, a9, a10] [o5] = .nx [some (.rol (ns.map .int)), some (.ref 0), a2, some (.tup ws), some (.tup (W.filter fun y => ws.any fun x => rb x y)), a5, a6, a7, a8, a9, a10] [o5] := by
    rw [e5]
    refine asg_ok ((mcall_ok (vs := [.lst (W.filter fun y => ws.any fun x => rb x y)]) (μ1 := [o5]) (acons_ok (μ1 := [o5]) (mimm_ok ?_) rfl)).trans rfl)
    refine mlc_vals (xs := W) (μ1 := [o5]) (iseq_lst ((mcall_ok (vs := []) (μ1 := [o5]) rfl).trans (words_ok [o5]))) ?_ (fl_len _)
    have := lcL_pure (own := [8]) (t := .nm 8) (cond := mtruth (mcall vAny (acons (mimm (mlc (iseq (mvar 3)) (List.map (·.2) ([("x", 6)] : List (PySem.Str × Nat))) (.nm 6) (tyes) (mop2 vIn2 (mvar 8) (mcall (callD f__law_reached) (acons (mvar 6) (anil)))))) (anil)))) (elt := mvar 8) (sl := [some (.rol (ns.map .int)), some (.ref 0), a2, some (.tup ws), a4, a5, a6, a7, a8, a9, a10]) (μ := [o5]) (fun y => [some (.rol (ns.map .int)), some (.ref 0), a2, some (.tup ws), a4, a5, a6, a7, some y, a9, a10]) (fun y => ws.any fun x => rb x y) id W (fun _ _ => rfl) (fun y hy => ?_) fun _ _ _ => rfl
    · rw [List.map_id] at this; exact this
    · refine mtruth_bl ((mcall_ok (acons_ok (μ1 := [o5]) (mimm_ok (vs := ws.map fun x => Val.bl (rb x y)) ?_) rfl)).trans (any_ok ws [o5]))
      refine mlc_vals (xs := ws) (μ1 := [o5]) rfl (lc_all (fun x => [some (.rol (ns.map .int)), some (.ref 0), a2, some (.tup ws), a4, a5, some x, a7, some y, a9, a10]) _ ws (fun _ _ => rfl) fun x hx => ?_) (by rw [List.length_map]; exact LIM16 lw')
      exact (mop2_ok (v := y) (u := .lst (reach x)) (μ1 := [o5]) (μ2 := [o5]) rfl ((mcall_ok (vs := [x]) (μ1 := [o5]) rfl).trans (reach_ok (hw x hx) [o5]).1)).trans (inr_ok (hw x hx) hy [o5])
  have t6 : s6 [some (.rol (ns.map .int)), some (.ref 0), a2, some (.tup ws), some (.tup (W.filter fun y => ws.any fun x => rb x y)), a5, a6, a7, a8, a9, a10] [o5] = .nx [some (.rol (ns.map .int)), some (.ref 0), a2, some (.tup ws), some (.tup (W.filter fun y => ws.any fun x => rb x y)), a5, a6, a7, a8, a9, a10] [o5] := by
    rw [e6]
    refine (sifF (μ1 := [o5]) (mbool_ok ((mop2_ok (v := .tup (W.filter fun y => ws.any fun x => rb x y)) (u := .tup (W.filter fun y => ws.any fun x => rb x y)) (μ1 := [o5]) (μ2 := [o5]) ?_ rfl).trans (ne_same mem_fl [o5])))).trans rfl
    exact (mcall_ok (vs := [.int 2, .tup ws, .str ""]) (μ1 := [o5]) rfl).trans (told2 hw lw' [o5])
  refine ⟨[o5], defB_rt rfl ?_⟩
  rw [e]
  exact (seq_nx t1).trans ((seq_nx (h2 _ _)).trans ((seq_nx t3').trans ((seq_nx t4).trans ((seq_nx t5).trans ((seq_nx t6).trans ((seq_nx (h7 _ _ _ _ _ _ _ _ _ _ _)).trans (seq_rt (h8 _ _ _ _ _ _ _ _ _ _ _))))))))
end Y

/-! what the top has written; the law -/
namespace Y
open G PySem PySem.Spec PyProof.Rows L2
theorem all_mk {l : PySem.W.OpenLaw} {w : World} {K : PySem.W.Frag} {h : Heap} {mg : Str → Option Value} {fa : Addr} (X : K.In h) (G : h.Ns mainGlobals mg) (hfa : mg "law" = some (.ref fa))
    {f1 f15 f29 f43 f57 f71 f85 f99 f113 f127 f141 f155 f169 f183 f197 f222 f225 f231 f237 f243 f249 f255 f261 f267 f273 f279 f285 f291 f297 f303 f309 f315 f321 f327 f333 f341 f362 : Addr}
    {o2 o3 o4 o5 o6 o7 o16 o17 o18 o19 o20 o21 o30 o31 o32 o33 o34 o35 o44 o45 o46 o47 o48 o49 o58 o59 o60 o61 o62 o63 o72 o73 o74 o75 o76 o77 o86 o87 o88 o89 o90 o91 o100 o101 o102 o103 o104 o105 o114 o115 o116 o117 o118 o119 o128 o129 o130 o131 o132 o133 o142 o143 o144 o145 o146 o147 o156 o157 o158 o159 o160 o161 o170 o171 o172 o173 o174 o175 o184 o185 o186 o187 o188 o189 o198 o199 o200 o201 o202 o203 : Value}
    {d8 d9 d22 d23 d36 d37 d50 d51 d64 d65 d78 d79 d92 d93 d106 d107 d120 d121 d134 d135 d148 d149 d162 d163 d176 d177 d190 d191 d204 d205 : Option Addr}
    {s10 s24 s38 s52 s66 s80 s94 s108 s122 s136 s150 s164 s178 s192 s206 s223 s226 s232 s238 s244 s250 s256 s262 s268 s274 s280 s286 s292 s298 s304 s310 s316 s322 s328 s334 s342 : Array (Option Value)}
    {n224 n227 n233 n239 n245 n251 n257 n263 n269 n275 n281 n287 n293 n299 n305 n311 n317 n323 n329 n335 n343 : Nat}
    {t228 t229 t234 t235 t240 t241 t246 t247 t252 t253 t258 t259 t264 t265 t270 t271 t276 t277 t282 t283 t288 t289 t294 t295 t300 t301 t306 t307 t312 t313 t318 t319 t324 t325 t330 t331 t336 t337 t344 t345 t346 t347 t348 t349 t350 t351 t352 t353 t354 t355 t356 t357 t358 t359 : Tok}
    (h11 : PySem.W.nsIn K mainGlobals "_law_draw" = some (some (.ref f1)))
    (h25 : PySem.W.nsIn K mainGlobals "arrows" = some (some (.ref f15)))
    (h39 : PySem.W.nsIn K mainGlobals "_law_arrows" = some (some (.ref f29)))
    (h53 : PySem.W.nsIn K mainGlobals "_law_reached" = some (some (.ref f43)))
    (h67 : PySem.W.nsIn K mainGlobals "_law_words" = some (some (.ref f57)))
    (h81 : PySem.W.nsIn K mainGlobals "check_word" = some (some (.ref f71)))
    (h95 : PySem.W.nsIn K mainGlobals "check_pair" = some (some (.ref f85)))
    (h109 : PySem.W.nsIn K mainGlobals "chain_between" = some (some (.ref f99)))
    (h123 : PySem.W.nsIn K mainGlobals "does_force" = some (some (.ref f113)))
    (h137 : PySem.W.nsIn K mainGlobals "all_forced" = some (some (.ref f127)))
    (h151 : PySem.W.nsIn K mainGlobals "closed" = some (some (.ref f141)))
    (h165 : PySem.W.nsIn K mainGlobals "_law_told" = some (some (.ref f155)))
    (h179 : PySem.W.nsIn K mainGlobals "_law_take" = some (some (.ref f169)))
    (h193 : PySem.W.nsIn K mainGlobals "_law_says" = some (some (.ref f183)))
    (h207 : PySem.W.nsIn K mainGlobals "law" = some (some (.ref f197)))
    (h211 : PySem.W.nsIn K mainGlobals "abs" = some none)
    (h212 : PySem.W.nsIn K mainGlobals "int" = some none)
    (h213 : PySem.W.nsIn K mainGlobals "tuple" = some none)
    (h214 : PySem.W.nsIn K mainGlobals "sorted" = some none)
    (h215 : PySem.W.nsIn K mainGlobals "range" = some none)
    (h216 : PySem.W.nsIn K mainGlobals "len" = some none)
    (h217 : PySem.W.nsIn K mainGlobals "isinstance" = some none)
    (h218 : PySem.W.nsIn K mainGlobals "str" = some none)
    (h219 : PySem.W.nsIn K mainGlobals "any" = some none)
    (h220 : PySem.W.nsIn K mainGlobals "all" = some none)
    (h221 : PySem.W.nsIn K mainGlobals "bool" = some none)
    (h340 : PySem.W.nsIn K mainGlobals "ARROWS" = some (some (.ref f222)))
    (h361 : PySem.W.nsIn K mainGlobals "WORDS" = some (some (.ref f341)))
    (h363 : PySem.W.nsIn K mainGlobals "Malformed" = some (some (.ref f362)))
    (h12 : K.lookup f1 = some ⟨o2, d8, .func (PySem.W.fnOf "_law_draw" "_law_draw" (defArgs s__law_draw) (defBody s__law_draw) (defScope s__law_draw) .none o3 o4 o5 d9 o6 o7), s10⟩)
    (h13 : PySem.W.codeIn K o6 "_law_draw" = true)
    (h14 : PySem.W.keepIn K (.ref f1) = true)
    (h26 : K.lookup f15 = some ⟨o16, d22, .func (PySem.W.fnOf "arrows" "arrows" (defArgs s_arrows) (defBody s_arrows) (defScope s_arrows) .none o17 o18 o19 d23 o20 o21), s24⟩)
    (h27 : PySem.W.codeIn K o20 "arrows" = true)
    (h28 : PySem.W.keepIn K (.ref f15) = true)
    (h40 : K.lookup f29 = some ⟨o30, d36, .func (PySem.W.fnOf "_law_arrows" "_law_arrows" (defArgs s__law_arrows) (defBody s__law_arrows) (defScope s__law_arrows) .none o31 o32 o33 d37 o34 o35), s38⟩)
    (h41 : PySem.W.codeIn K o34 "_law_arrows" = true)
    (h42 : PySem.W.keepIn K (.ref f29) = true)
    (h54 : K.lookup f43 = some ⟨o44, d50, .func (PySem.W.fnOf "_law_reached" "_law_reached" (defArgs s__law_reached) (defBody s__law_reached) (defScope s__law_reached) .none o45 o46 o47 d51 o48 o49), s52⟩)
    (h55 : PySem.W.codeIn K o48 "_law_reached" = true)
    (h56 : PySem.W.keepIn K (.ref f43) = true)
    (h68 : K.lookup f57 = some ⟨o58, d64, .func (PySem.W.fnOf "_law_words" "_law_words" (defArgs s__law_words) (defBody s__law_words) (defScope s__law_words) .none o59 o60 o61 d65 o62 o63), s66⟩)
    (h69 : PySem.W.codeIn K o62 "_law_words" = true)
    (h70 : PySem.W.keepIn K (.ref f57) = true)
    (h82 : K.lookup f71 = some ⟨o72, d78, .func (PySem.W.fnOf "check_word" "check_word" (defArgs s_check_word) (defBody s_check_word) (defScope s_check_word) .none o73 o74 o75 d79 o76 o77), s80⟩)
    (h83 : PySem.W.codeIn K o76 "check_word" = true)
    (h84 : PySem.W.keepIn K (.ref f71) = true)
    (h96 : K.lookup f85 = some ⟨o86, d92, .func (PySem.W.fnOf "check_pair" "check_pair" (defArgs s_check_pair) (defBody s_check_pair) (defScope s_check_pair) .none o87 o88 o89 d93 o90 o91), s94⟩)
    (h97 : PySem.W.codeIn K o90 "check_pair" = true)
    (h98 : PySem.W.keepIn K (.ref f85) = true)
    (h110 : K.lookup f99 = some ⟨o100, d106, .func (PySem.W.fnOf "chain_between" "chain_between" (defArgs s_chain_between) (defBody s_chain_between) (defScope s_chain_between) .none o101 o102 o103 d107 o104 o105), s108⟩)
    (h111 : PySem.W.codeIn K o104 "chain_between" = true)
    (h112 : PySem.W.keepIn K (.ref f99) = true)
    (h124 : K.lookup f113 = some ⟨o114, d120, .func (PySem.W.fnOf "does_force" "does_force" (defArgs s_does_force) (defBody s_does_force) (defScope s_does_force) .none o115 o116 o117 d121 o118 o119), s122⟩)
    (h125 : PySem.W.codeIn K o118 "does_force" = true)
    (h126 : PySem.W.keepIn K (.ref f113) = true)
    (h138 : K.lookup f127 = some ⟨o128, d134, .func (PySem.W.fnOf "all_forced" "all_forced" (defArgs s_all_forced) (defBody s_all_forced) (defScope s_all_forced) .none o129 o130 o131 d135 o132 o133), s136⟩)
    (h139 : PySem.W.codeIn K o132 "all_forced" = true)
    (h140 : PySem.W.keepIn K (.ref f127) = true)
    (h152 : K.lookup f141 = some ⟨o142, d148, .func (PySem.W.fnOf "closed" "closed" (defArgs s_closed) (defBody s_closed) (defScope s_closed) .none o143 o144 o145 d149 o146 o147), s150⟩)
    (h153 : PySem.W.codeIn K o146 "closed" = true)
    (h154 : PySem.W.keepIn K (.ref f141) = true)
    (h166 : K.lookup f155 = some ⟨o156, d162, .func (PySem.W.fnOf "_law_told" "_law_told" (defArgs s__law_told) (defBody s__law_told) (defScope s__law_told) .none o157 o158 o159 d163 o160 o161), s164⟩)
    (h167 : PySem.W.codeIn K o160 "_law_told" = true)
    (h168 : PySem.W.keepIn K (.ref f155) = true)
    (h180 : K.lookup f169 = some ⟨o170, d176, .func (PySem.W.fnOf "_law_take" "_law_take" (defArgs s__law_take) (defBody s__law_take) (defScope s__law_take) .none o171 o172 o173 d177 o174 o175), s178⟩)
    (h181 : PySem.W.codeIn K o174 "_law_take" = true)
    (h182 : PySem.W.keepIn K (.ref f169) = true)
    (h194 : K.lookup f183 = some ⟨o184, d190, .func (PySem.W.fnOf "_law_says" "_law_says" (defArgs s__law_says) (defBody s__law_says) (defScope s__law_says) .none o185 o186 o187 d191 o188 o189), s192⟩)
    (h195 : PySem.W.codeIn K o188 "_law_says" = true)
    (h196 : PySem.W.keepIn K (.ref f183) = true)
    (h208 : K.lookup f197 = some ⟨o198, d204, .func (PySem.W.fnOf "law" "law" (defArgs s_law) (defBody s_law) (defScope s_law) .none o199 o200 o201 d205 o202 o203), s206⟩)
    (h209 : PySem.W.codeIn K o202 "law" = true)
    (h210 : PySem.W.keepIn K (.ref f197) = true)
    (h339 : K.lookup f222 = some ⟨.type "tuple", none, .seq #[.ref f225, .ref f231, .ref f237, .ref f243, .ref f249, .ref f255, .ref f261, .ref f267, .ref f273, .ref f279, .ref f285, .ref f291, .ref f297, .ref f303, .ref f309, .ref f315, .ref f321, .ref f327, .ref f333] n224, s223⟩)
    (h230 : K.lookup f225 = some ⟨.type "tuple", none, .seq #[.str "vsr" t228, .str "fsr" t229] n227, s226⟩)
    (h236 : K.lookup f231 = some ⟨.type "tuple", none, .seq #[.str "vsr" t234, .str "mvsr" t235] n233, s232⟩)
    (h242 : K.lookup f237 = some ⟨.type "tuple", none, .seq #[.str "mcsr" t240, .str "mvsr" t241] n239, s238⟩)
    (h248 : K.lookup f243 = some ⟨.type "tuple", none, .seq #[.str "csr" t246, .str "vsr" t247] n245, s244⟩)
    (h254 : K.lookup f249 = some ⟨.type "tuple", none, .seq #[.str "csr" t252, .str "mcsr" t253] n251, s250⟩)
    (h260 : K.lookup f255 = some ⟨.type "tuple", none, .seq #[.str "ocsr" t258, .str "csr" t259] n257, s256⟩)
    (h266 : K.lookup f261 = some ⟨.type "tuple", none, .seq #[.str "cocsr" t264, .str "ocsr" t265] n263, s262⟩)
    (h272 : K.lookup f267 = some ⟨.type "tuple", none, .seq #[.str "lrc" t270, .str "rec" t271] n269, s268⟩)
    (h278 : K.lookup f273 = some ⟨.type "tuple", none, .seq #[.str "aca" t276, .str "rec" t277] n275, s274⟩)
    (h284 : K.lookup f279 = some ⟨.type "tuple", none, .seq #[.str "st" t282, .str "lrc" t283] n281, s280⟩)
    (h290 : K.lookup f285 = some ⟨.type "tuple", none, .seq #[.str "st" t288, .str "aca" t289] n287, s286⟩)
    (h296 : K.lookup f291 = some ⟨.type "tuple", none, .seq #[.str "tpl" t294, .str "ocsr" t295] n293, s292⟩)
    (h302 : K.lookup f297 = some ⟨.type "tuple", none, .seq #[.str "stpl" t300, .str "tpl" t301] n299, s298⟩)
    (h308 : K.lookup f303 = some ⟨.type "tuple", none, .seq #[.str "stpl" t306, .str "st" t307] n305, s304⟩)
    (h314 : K.lookup f309 = some ⟨.type "tuple", none, .seq #[.str "rg" t312, .str "cocsr" t313] n311, s310⟩)
    (h320 : K.lookup f315 = some ⟨.type "tuple", none, .seq #[.str "rg" t318, .str "stpl" t319] n317, s316⟩)
    (h326 : K.lookup f321 = some ⟨.type "tuple", none, .seq #[.str "to" t324, .str "ocsr" t325] n323, s322⟩)
    (h332 : K.lookup f327 = some ⟨.type "tuple", none, .seq #[.str "ser" t330, .str "rg" t331] n329, s328⟩)
    (h338 : K.lookup f333 = some ⟨.type "tuple", none, .seq #[.str "ser" t336, .str "to" t337] n335, s334⟩)
    (h360 : K.lookup f341 = some ⟨.type "tuple", none, .seq #[.str "fsr" t344, .str "vsr" t345, .str "csr" t346, .str "ocsr" t347, .str "cocsr" t348, .str "mvsr" t349, .str "mcsr" t350, .str "rec" t351, .str "lrc" t352, .str "aca" t353, .str "st" t354, .str "rg" t355, .str "tpl" t356, .str "stpl" t357, .str "to" t358, .str "ser" t359] n343, s342⟩)
    (h364 : PySem.W.excIn K f362 [.type "ValueError", .type "Exception", .type "BaseException", .type "object"] "ValueError.__new__" = true)
    (h365 : PySem.W.keepIn K (.ref f362) = true)
    (h366 : PySem.W.subIn K (.ref f362) (.type "BaseException") = some true)
    (h367 : PySem.W.typeIn K (.ref f362) = some (.type "type"))
    (h368 : PySem.W.subIn K (.ref f362) (.type "BaseException") = some true)
    (h369 : PySem.W.isClsIn K f362 = true)
    (h370 : PySem.W.typeIn K (.ref f362) = some (.type "type"))
    (h371 : PySem.W.subIn K (.ref f362) (.ref f362) = some true)
    (HL : LawOk f_law) : ∃ fd : FuncData, (∀ (s : Shared) (v : Value), BindsTo s fd ⟨[v], []⟩ [("script", v)]) ∧ ∀ base : Heap, K.In base → base.Ns mainGlobals mg → FnOk l.prog w K mg base (L2.CX l.prog w) 5 fa fd ["script"] (spLawG K) := by
  have e := hfa.symm.trans (PySem.W.mg_of X G h207)
  cases e
  have T : Txt ⟨K, fun i => if i = 0 then some f141 else if i = 1 then some f127 else none, fun i => if i = 1 then some f362 else none⟩ w mg := by
    refine ⟨?_, ?_, ?_, ?_, ?_, ?_, ?_, ?_, ?_, ?_, ?_, ?_, ?_, ?_, ?_, ?_, ?_, ?_, ?_, ?_, ?_, ?_, ?_, ?_, ?_, ?_, ?_, ?_, ?_, ?_, ?_, ?_⟩
    · exact ⟨_, _, fun_mk (st := s__law_draw) h12 h13 h14, PySem.W.mg_of X G h11, h14, (fun_mk (st := s__law_draw) h12 h13 h14).binds fun _ _ _ _ _ _ us hl => match us, hl with | [_], _ => rfl⟩
    · exact ⟨_, _, fun_mk (st := s_arrows) h26 h27 h28, PySem.W.mg_of X G h25, h28, (fun_mk (st := s_arrows) h26 h27 h28).binds fun _ _ _ _ _ _ us hl => match us, hl with | [], _ => rfl⟩
    · exact ⟨_, _, fun_mk (st := s__law_arrows) h40 h41 h42, PySem.W.mg_of X G h39, h42, (fun_mk (st := s__law_arrows) h40 h41 h42).binds fun _ _ _ _ _ _ us hl => match us, hl with | [], _ => rfl⟩
    · exact ⟨_, _, fun_mk (st := s__law_reached) h54 h55 h56, PySem.W.mg_of X G h53, h56, (fun_mk (st := s__law_reached) h54 h55 h56).binds fun _ _ _ _ _ _ us hl => match us, hl with | [_], _ => rfl⟩
    · exact ⟨_, _, fun_mk (st := s__law_words) h68 h69 h70, PySem.W.mg_of X G h67, h70, (fun_mk (st := s__law_words) h68 h69 h70).binds fun _ _ _ _ _ _ us hl => match us, hl with | [], _ => rfl⟩
    · exact ⟨_, _, fun_mk (st := s_check_word) h82 h83 h84, PySem.W.mg_of X G h81, h84, (fun_mk (st := s_check_word) h82 h83 h84).binds fun _ _ _ _ _ _ us hl => match us, hl with | [_], _ => rfl⟩
    · exact ⟨_, _, fun_mk (st := s_check_pair) h96 h97 h98, PySem.W.mg_of X G h95, h98, (fun_mk (st := s_check_pair) h96 h97 h98).binds fun _ _ _ _ _ _ us hl => match us, hl with | [_, _], _ => rfl⟩
    · exact ⟨_, _, fun_mk (st := s_chain_between) h110 h111 h112, PySem.W.mg_of X G h109, h112, (fun_mk (st := s_chain_between) h110 h111 h112).binds fun _ _ _ _ _ _ us hl => match us, hl with | [_, _], _ => rfl⟩
    · exact ⟨_, _, fun_mk (st := s_does_force) h124 h125 h126, PySem.W.mg_of X G h123, h126, (fun_mk (st := s_does_force) h124 h125 h126).binds fun _ _ _ _ _ _ us hl => match us, hl with | [_, _], _ => rfl⟩
    · exact ⟨_, _, fun_mk (st := s_all_forced) h138 h139 h140, PySem.W.mg_of X G h137, h140, (fun_mk (st := s_all_forced) h138 h139 h140).binds fun _ _ _ _ _ _ us hl => match us, hl with | [_], _ => rfl⟩
    · exact ⟨_, _, fun_mk (st := s_closed) h152 h153 h154, PySem.W.mg_of X G h151, h154, (fun_mk (st := s_closed) h152 h153 h154).binds fun _ _ _ _ _ _ us hl => match us, hl with | [_], _ => rfl⟩
    · exact ⟨_, _, fun_mk (st := s__law_told) h166 h167 h168, PySem.W.mg_of X G h165, h168, (fun_mk (st := s__law_told) h166 h167 h168).binds fun _ _ _ _ _ _ us hl => match us, hl with | [_, _, _], _ => rfl⟩
    · exact ⟨_, _, fun_mk (st := s__law_take) h180 h181 h182, PySem.W.mg_of X G h179, h182, (fun_mk (st := s__law_take) h180 h181 h182).binds fun _ _ _ _ _ _ us hl => match us, hl with | [_, _], _ => rfl⟩
    · exact ⟨_, _, fun_mk (st := s__law_says) h194 h195 h196, PySem.W.mg_of X G h193, h196, (fun_mk (st := s__law_says) h194 h195 h196).binds fun _ _ _ _ _ _ us hl => match us, hl with | [_, _], _ => rfl⟩
    · exact ⟨_, _, fun_mk (st := s_law) h208 h209 h210, PySem.W.mg_of X G h207, h210, (fun_mk (st := s_law) h208 h209 h210).binds fun _ _ _ _ _ _ us hl => match us, hl with | [_], _ => rfl⟩
    · exact PySem.W.mg_none_of X G h211
    · exact PySem.W.mg_none_of X G h212
    · exact PySem.W.mg_none_of X G h213
    · exact PySem.W.mg_none_of X G h214
    · exact PySem.W.mg_none_of X G h215
    · exact PySem.W.mg_none_of X G h216
    · exact PySem.W.mg_none_of X G h217
    · exact PySem.W.mg_none_of X G h218
    · exact PySem.W.mg_none_of X G h219
    · exact PySem.W.mg_none_of X G h220
    · exact PySem.W.mg_none_of X G h221
    · exact ⟨_, V.ref f222, PySem.W.mg_of X G h340, rfl, fun _ => ⟨_, [V.ref f225, V.ref f231, V.ref f237, V.ref f243, V.ref f249, V.ref f255, V.ref f261, V.ref f267, V.ref f273, V.ref f279, V.ref f285, V.ref f291, V.ref f297, V.ref f303, V.ref f309, V.ref f315, V.ref f321, V.ref f327, V.ref f333], rfl, sqT_st h339 (Nat.le_of_ble_eq_true rfl) (Paired.cons (rfl) (Paired.cons (rfl) (Paired.cons (rfl) (Paired.cons (rfl) (Paired.cons (rfl) (Paired.cons (rfl) (Paired.cons (rfl) (Paired.cons (rfl) (Paired.cons (rfl) (Paired.cons (rfl) (Paired.cons (rfl) (Paired.cons (rfl) (Paired.cons (rfl) (Paired.cons (rfl) (Paired.cons (rfl) (Paired.cons (rfl) (Paired.cons (rfl) (Paired.cons (rfl) (Paired.cons (rfl) Paired.nil))))))))))))))))))), ⟨_, _, rfl, ⟨_, [V.str "vsr", V.str "fsr"], rfl, sqT_st h230 (Nat.le_of_ble_eq_true rfl) (Paired.cons (⟨_, rfl⟩) (Paired.cons (⟨_, rfl⟩) Paired.nil)), ⟨_, _, rfl, rfl, ⟨_, _, rfl, rfl, rfl⟩⟩⟩, ⟨_, _, rfl, ⟨_, [V.str "vsr", V.str "mvsr"], rfl, sqT_st h236 (Nat.le_of_ble_eq_true rfl) (Paired.cons (⟨_, rfl⟩) (Paired.cons (⟨_, rfl⟩) Paired.nil)), ⟨_, _, rfl, rfl, ⟨_, _, rfl, rfl, rfl⟩⟩⟩, ⟨_, _, rfl, ⟨_, [V.str "mcsr", V.str "mvsr"], rfl, sqT_st h242 (Nat.le_of_ble_eq_true rfl) (Paired.cons (⟨_, rfl⟩) (Paired.cons (⟨_, rfl⟩) Paired.nil)), ⟨_, _, rfl, rfl, ⟨_, _, rfl, rfl, rfl⟩⟩⟩, ⟨_, _, rfl, ⟨_, [V.str "csr", V.str "vsr"], rfl, sqT_st h248 (Nat.le_of_ble_eq_true rfl) (Paired.cons (⟨_, rfl⟩) (Paired.cons (⟨_, rfl⟩) Paired.nil)), ⟨_, _, rfl, rfl, ⟨_, _, rfl, rfl, rfl⟩⟩⟩, ⟨_, _, rfl, ⟨_, [V.str "csr", V.str "mcsr"], rfl, sqT_st h254 (Nat.le_of_ble_eq_true rfl) (Paired.cons (⟨_, rfl⟩) (Paired.cons (⟨_, rfl⟩) Paired.nil)), ⟨_, _, rfl, rfl, ⟨_, _, rfl, rfl, rfl⟩⟩⟩, ⟨_, _, rfl, ⟨_, [V.str "ocsr", V.str "csr"], rfl, sqT_st h260 (Nat.le_of_ble_eq_true rfl) (Paired.cons (⟨_, rfl⟩) (Paired.cons (⟨_, rfl⟩) Paired.nil)), ⟨_, _, rfl, rfl, ⟨_, _, rfl, rfl, rfl⟩⟩⟩, ⟨_, _, rfl, ⟨_, [V.str "cocsr", V.str "ocsr"], rfl, sqT_st h266 (Nat.le_of_ble_eq_true rfl) (Paired.cons (⟨_, rfl⟩) (Paired.cons (⟨_, rfl⟩) Paired.nil)), ⟨_, _, rfl, rfl, ⟨_, _, rfl, rfl, rfl⟩⟩⟩, ⟨_, _, rfl, ⟨_, [V.str "lrc", V.str "rec"], rfl, sqT_st h272 (Nat.le_of_ble_eq_true rfl) (Paired.cons (⟨_, rfl⟩) (Paired.cons (⟨_, rfl⟩) Paired.nil)), ⟨_, _, rfl, rfl, ⟨_, _, rfl, rfl, rfl⟩⟩⟩, ⟨_, _, rfl, ⟨_, [V.str "aca", V.str "rec"], rfl, sqT_st h278 (Nat.le_of_ble_eq_true rfl) (Paired.cons (⟨_, rfl⟩) (Paired.cons (⟨_, rfl⟩) Paired.nil)), ⟨_, _, rfl, rfl, ⟨_, _, rfl, rfl, rfl⟩⟩⟩, ⟨_, _, rfl, ⟨_, [V.str "st", V.str "lrc"], rfl, sqT_st h284 (Nat.le_of_ble_eq_true rfl) (Paired.cons (⟨_, rfl⟩) (Paired.cons (⟨_, rfl⟩) Paired.nil)), ⟨_, _, rfl, rfl, ⟨_, _, rfl, rfl, rfl⟩⟩⟩, ⟨_, _, rfl, ⟨_, [V.str "st", V.str "aca"], rfl, sqT_st h290 (Nat.le_of_ble_eq_true rfl) (Paired.cons (⟨_, rfl⟩) (Paired.cons (⟨_, rfl⟩) Paired.nil)), ⟨_, _, rfl, rfl, ⟨_, _, rfl, rfl, rfl⟩⟩⟩, ⟨_, _, rfl, ⟨_, [V.str "tpl", V.str "ocsr"], rfl, sqT_st h296 (Nat.le_of_ble_eq_true rfl) (Paired.cons (⟨_, rfl⟩) (Paired.cons (⟨_, rfl⟩) Paired.nil)), ⟨_, _, rfl, rfl, ⟨_, _, rfl, rfl, rfl⟩⟩⟩, ⟨_, _, rfl, ⟨_, [V.str "stpl", V.str "tpl"], rfl, sqT_st h302 (Nat.le_of_ble_eq_true rfl) (Paired.cons (⟨_, rfl⟩) (Paired.cons (⟨_, rfl⟩) Paired.nil)), ⟨_, _, rfl, rfl, ⟨_, _, rfl, rfl, rfl⟩⟩⟩, ⟨_, _, rfl, ⟨_, [V.str "stpl", V.str "st"], rfl, sqT_st h308 (Nat.le_of_ble_eq_true rfl) (Paired.cons (⟨_, rfl⟩) (Paired.cons (⟨_, rfl⟩) Paired.nil)), ⟨_, _, rfl, rfl, ⟨_, _, rfl, rfl, rfl⟩⟩⟩, ⟨_, _, rfl, ⟨_, [V.str "rg", V.str "cocsr"], rfl, sqT_st h314 (Nat.le_of_ble_eq_true rfl) (Paired.cons (⟨_, rfl⟩) (Paired.cons (⟨_, rfl⟩) Paired.nil)), ⟨_, _, rfl, rfl, ⟨_, _, rfl, rfl, rfl⟩⟩⟩, ⟨_, _, rfl, ⟨_, [V.str "rg", V.str "stpl"], rfl, sqT_st h320 (Nat.le_of_ble_eq_true rfl) (Paired.cons (⟨_, rfl⟩) (Paired.cons (⟨_, rfl⟩) Paired.nil)), ⟨_, _, rfl, rfl, ⟨_, _, rfl, rfl, rfl⟩⟩⟩, ⟨_, _, rfl, ⟨_, [V.str "to", V.str "ocsr"], rfl, sqT_st h326 (Nat.le_of_ble_eq_true rfl) (Paired.cons (⟨_, rfl⟩) (Paired.cons (⟨_, rfl⟩) Paired.nil)), ⟨_, _, rfl, rfl, ⟨_, _, rfl, rfl, rfl⟩⟩⟩, ⟨_, _, rfl, ⟨_, [V.str "ser", V.str "rg"], rfl, sqT_st h332 (Nat.le_of_ble_eq_true rfl) (Paired.cons (⟨_, rfl⟩) (Paired.cons (⟨_, rfl⟩) Paired.nil)), ⟨_, _, rfl, rfl, ⟨_, _, rfl, rfl, rfl⟩⟩⟩, ⟨_, _, rfl, ⟨_, [V.str "ser", V.str "to"], rfl, sqT_st h338 (Nat.le_of_ble_eq_true rfl) (Paired.cons (⟨_, rfl⟩) (Paired.cons (⟨_, rfl⟩) Paired.nil)), ⟨_, _, rfl, rfl, ⟨_, _, rfl, rfl, rfl⟩⟩⟩, rfl⟩⟩⟩⟩⟩⟩⟩⟩⟩⟩⟩⟩⟩⟩⟩⟩⟩⟩⟩⟩⟩
    · exact ⟨_, V.ref f341, PySem.W.mg_of X G h361, rfl, fun _ => ⟨_, [V.str "fsr", V.str "vsr", V.str "csr", V.str "ocsr", V.str "cocsr", V.str "mvsr", V.str "mcsr", V.str "rec", V.str "lrc", V.str "aca", V.str "st", V.str "rg", V.str "tpl", V.str "stpl", V.str "to", V.str "ser"], rfl, sqT_st h360 (Nat.le_of_ble_eq_true rfl) (Paired.cons (⟨_, rfl⟩) (Paired.cons (⟨_, rfl⟩) (Paired.cons (⟨_, rfl⟩) (Paired.cons (⟨_, rfl⟩) (Paired.cons (⟨_, rfl⟩) (Paired.cons (⟨_, rfl⟩) (Paired.cons (⟨_, rfl⟩) (Paired.cons (⟨_, rfl⟩) (Paired.cons (⟨_, rfl⟩) (Paired.cons (⟨_, rfl⟩) (Paired.cons (⟨_, rfl⟩) (Paired.cons (⟨_, rfl⟩) (Paired.cons (⟨_, rfl⟩) (Paired.cons (⟨_, rfl⟩) (Paired.cons (⟨_, rfl⟩) (Paired.cons (⟨_, rfl⟩) Paired.nil)))))))))))))))), ⟨_, _, rfl, rfl, ⟨_, _, rfl, rfl, ⟨_, _, rfl, rfl, ⟨_, _, rfl, rfl, ⟨_, _, rfl, rfl, ⟨_, _, rfl, rfl, ⟨_, _, rfl, rfl, ⟨_, _, rfl, rfl, ⟨_, _, rfl, rfl, ⟨_, _, rfl, rfl, ⟨_, _, rfl, rfl, ⟨_, _, rfl, rfl, ⟨_, _, rfl, rfl, ⟨_, _, rfl, rfl, ⟨_, _, rfl, rfl, ⟨_, _, rfl, rfl, rfl⟩⟩⟩⟩⟩⟩⟩⟩⟩⟩⟩⟩⟩⟩⟩⟩⟩⟩
    · exact ⟨_, PySem.W.mg_of X G h151, rfl⟩
    · exact ⟨_, PySem.W.mg_of X G h137, rfl⟩
    · exact ⟨_, rfl, PySem.W.mg_of X G h363, h364, h365, h366, h367⟩
    · exact ⟨_, PySem.W.mg_of X G h363, fun i C b hc hb => by
      simp only [Ct.ca] at hc
      split at hc
      · rename_i e; subst e; cases hc; cases hb; exact (exm_by h368 h369 h370 h371)
      cases hc⟩
  refine ⟨PySem.W.fnOf "law" "law" (defArgs s_law) (defBody s_law) (defScope s_law) .none o199 o200 o201 d205 o202 o203, fun s v => .of_eq rfl, fun base _ _ => ?_⟩
  exact law_fn HL (fn_law (base := base) T (fun_mk (st := s_law) h208 h209 h210))
end Y
open PySem PySem.W PyProof.Rows
set_option maxRecDepth 100000 in
set_option maxHeartbeats 0 in
theorem PySem.Challenge.cw_schedkinds_k05_arrows_and_chains_holds : PySem.Challenge.rw_schedkinds_k05_arrows_and_chains.Holds := by
  w_on; o_law; k_head; (case hw => w_witness2)
  k_fill
  refine G.walkG (l := PySem.Challenge.rw_schedkinds_k05_arrows_and_chains) (k := 5) rfl rfl ⟨rfl, by decide, by decide⟩ (fun w h Y => PySem.W.kIn_of Y) ?F
  case F =>
    intro w mg fa h KX G hmg
    refine' Y.all_mk KX G hmg ?h11 ?h25 ?h39 ?h53 ?h67 ?h81 ?h95 ?h109 ?h123 ?h137 ?h151 ?h165 ?h179 ?h193 ?h207 ?h211 ?h212 ?h213 ?h214 ?h215 ?h216 ?h217 ?h218 ?h219 ?h220 ?h221 ?h340 ?h361 ?h363 ?h12 ?h13 ?h14 ?h26 ?h27 ?h28 ?h40 ?h41 ?h42 ?h54 ?h55 ?h56 ?h68 ?h69 ?h70 ?h82 ?h83 ?h84 ?h96 ?h97 ?h98 ?h110 ?h111 ?h112 ?h124 ?h125 ?h126 ?h138 ?h139 ?h140 ?h152 ?h153 ?h154 ?h166 ?h167 ?h168 ?h180 ?h181 ?h182 ?h194 ?h195 ?h196 ?h208 ?h209 ?h210 ?h339 ?h230 ?h236 ?h242 ?h248 ?h254 ?h260 ?h266 ?h272 ?h278 ?h284 ?h290 ?h296 ?h302 ?h308 ?h314 ?h320 ?h326 ?h332 ?h338 ?h360 ?h364 ?h365 ?h366 ?h367 ?h368 ?h369 ?h370 ?h371 Y.law_ok
    (case h11 => k_is)
    (case h25 => k_is)
    (case h39 => k_is)
    (case h53 => k_is)
    (case h67 => k_is)
    (case h81 => k_is)
    (case h95 => k_is)
    (case h109 => k_is)
    (case h123 => k_is)
    (case h137 => k_is)
    (case h151 => k_is)
    (case h165 => k_is)
    (case h179 => k_is)
    (case h193 => k_is)
    (case h207 => k_is)
    (case h211 => k_is)
    (case h212 => k_is)
    (case h213 => k_is)
    (case h214 => k_is)
    (case h215 => k_is)
    (case h216 => k_is)
    (case h217 => k_is)
    (case h218 => k_is)
    (case h219 => k_is)
    (case h220 => k_is)
    (case h221 => k_is)
    (case h340 => k_is)
    (case h361 => k_is)
    (case h363 => k_is)
    (case h12 => k_is)
    (case h13 => k_is)
    (case h14 => k_is)
    (case h26 => k_is)
    (case h27 => k_is)
    (case h28 => k_is)
    (case h40 => k_is)
    (case h41 => k_is)
    (case h42 => k_is)
    (case h54 => k_is)
    (case h55 => k_is)
    (case h56 => k_is)
    (case h68 => k_is)
    (case h69 => k_is)
    (case h70 => k_is)
    (case h82 => k_is)
    (case h83 => k_is)
    (case h84 => k_is)
    (case h96 => k_is)
    (case h97 => k_is)
    (case h98 => k_is)
    (case h110 => k_is)
    (case h111 => k_is)
    (case h112 => k_is)
    (case h124 => k_is)
    (case h125 => k_is)
    (case h126 => k_is)
    (case h138 => k_is)
    (case h139 => k_is)
    (case h140 => k_is)
    (case h152 => k_is)
    (case h153 => k_is)
    (case h154 => k_is)
    (case h166 => k_is)
    (case h167 => k_is)
    (case h168 => k_is)
    (case h180 => k_is)
    (case h181 => k_is)
    (case h182 => k_is)
    (case h194 => k_is)
    (case h195 => k_is)
    (case h196 => k_is)
    (case h208 => k_is)
    (case h209 => k_is)
    (case h210 => k_is)
    (case h339 => k_is)
    (case h230 => k_is)
    (case h236 => k_is)
    (case h242 => k_is)
    (case h248 => k_is)
    (case h254 => k_is)
    (case h260 => k_is)
    (case h266 => k_is)
    (case h272 => k_is)
    (case h278 => k_is)
    (case h284 => k_is)
    (case h290 => k_is)
    (case h296 => k_is)
    (case h302 => k_is)
    (case h308 => k_is)
    (case h314 => k_is)
    (case h320 => k_is)
    (case h326 => k_is)
    (case h332 => k_is)
    (case h338 => k_is)
    (case h360 => k_is)
    (case h364 => k_exc)
    (case h365 => k_is)
    (case h366 => k_is)
    (case h367 => k_is)
    (case h368 => k_is)
    (case h369 => k_is)
    (case h370 => k_is)
    (case h371 => k_is)

