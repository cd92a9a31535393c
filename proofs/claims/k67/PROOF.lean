import PyProof.Rows.All
import Wide.All
import OpenK.AllK
import Wide.FinOn
import HandS.ForMost
import HandS.TupMul
import HandS.ForExc
import HandS.Deep
import HandS.CallSlots
import HandS.TupAny
import HandS.TupLe
import HandS.Flow
import HandS.Conv
import HandS.IsInst
import HandS.Walk
import HandS.Comp
import HandS.TryOnly
import HandS.TryMany
import HandS.More
import KE.SortData
import KE.DataMinMax
import KE.DataCmp
import HandS.Dict
import KE.KRevSl
import PyProof.EnumMake
import KE.GoesMore
import HandS.Zip
import HandS.DictComp
import PySem.Challenge.RW_schedkinds_k67_whole_finest_cuts
set_option Elab.async false
set_option linter.all false
set_option maxRecDepth 100000
set_option maxHeartbeats 4000000
/-! G0: tuple * 1. -/
namespace G
open PySem PySem.Spec PyProof.Rows L2
theorem tuple_mul1 (l : Addr) (items : Array Value) (n : Nat) (dd : Option Addr) (sl : Array (Option Value)) (k : Int) (u : Tok) (c0 : (decide (k < -(2 ^ 63)) || decide (k ≥ 2 ^ 63)) = false) (c1 : (items.isEmpty || k == 1) = true) :
    Meets (Builtin.«tuple.__mul__» ⟨[.ref l, .int k u], []⟩) (fun _ R s => s.heap.get? l = some { cls := .type "tuple", dict := dd, data := .seq items n, slots := sl } ∧ R (.ok (.ret (Value.ref l))) s) :=
  .of_wp fun prog w A R s h => by
    obtain ⟨hp, g, d, tk, os⟩ := s
    obtain ⟨hl, h⟩ := h
    have f1 := AutoSeq1.idx_int
    wp_walk using wpAny_loadPart' hl
    repeat (first
      | (refine wpAny_ite_false (decide_eq_false (by rw [c0]; exact Bool.false_ne_true)) ?_; wp_walk using wpAny_loadPart' hl)
      | (refine wpAny_ite_true (decide_eq_true c1) ?_; wp_walk using wpAny_loadPart' hl))
    exact ⟨_, rfl, h⟩
theorem tuple_mul0 (l : Addr) (items : Array Value) (n : Nat) (dd : Option Addr) (sl : Array (Option Value)) (x : Int) (u : Tok) (c0 : (decide (x < -(2 ^ 63)) || decide (x ≥ 2 ^ 63)) = false) (c1 : (items.isEmpty || x == 1) = false) (c2 : (decide (x ≤ 0) || items.isEmpty) = true) :
    Meets (Builtin.«tuple.__mul__» ⟨[.ref l, .int x u], []⟩) (fun _ R s => s.heap.get? l = some { cls := .type "tuple", dict := dd, data := .seq items n, slots := sl } ∧
      R (.ok (.ret (Value.ref s.heap.objs.size))) { s with heap := s.heap.push { cls := Value.type "tuple", data := Data.seq #[] }, toks := s.toks }) :=
  .of_wp fun prog w A R s h => by
    obtain ⟨hp, g, d, tk, os⟩ := s
    obtain ⟨hl, h⟩ := h
    have f1 := AutoSeq1.idx_int
    wp_walk using wpAny_loadPart' hl
    repeat (first
      | (refine wpAny_ite_false (decide_eq_false (by rw [c0]; exact Bool.false_ne_true)) ?_; wp_walk using wpAny_loadPart' hl)
      | (refine wpAny_ite_false (decide_eq_false (by rw [c1]; exact Bool.false_ne_true)) ?_; wp_walk using wpAny_loadPart' hl)
      | (refine wpAny_ite_true (decide_eq_true c2) ?_; wp_walk using wpAny_loadPart' hl))
    exact ⟨_, rfl, h⟩
def rRepA (K : PySem.W.Frag) : R2 := fun x y H Q => ∃ l k xs, x = .ref l ∧ y = .int k ∧ SqT K H l xs ∧ -(2 ^ 62) ≤ k ∧ k ≤ 1000 ∧ xs.length ≤ 1000 ∧
  ((k = 1 ∨ xs = []) → Q (.ref l) H) ∧ (¬(k = 1 ∨ xs = []) → ∀ p, H p = none → Q (.ref p) (upd H p (.tup (List.replicate k.toNat xs).flatten)))
section
variable {X : Cx}
theorem op_repA : OpR X (binaryOp .Mult) (rRepA X.K) := by
  intro pins s σ H x y v u Q I rx ry h
  obtain ⟨l, k, xs, rfl, rfl, hT, h1, h2, hz, qs, q⟩ := h
  by_cases h12 : 2 ≤ k ∧ xs ≠ []
  · exact op_repT pins s σ H _ _ v u Q I rx ry ⟨l, k, xs, rfl, rfl, hT, h12.2, h12.1, h2, hz, q (fun z => z.elim (fun z => by omega) h12.2)⟩
  cases rx
  obtain ⟨t, rfl⟩ := ry
  obtain ⟨its, r, ⟨⟨cls, dd, data, sl⟩, ho, hc, n, hd⟩, hs⟩ := I.tuple hT
  simp only at hc hd
  subst hc hd
  have hle : its.length = xs.length := r.length.symm
  have c0 : (decide (k < -(2 ^ 63)) || decide (k ≥ 2 ^ 63)) = false := by
    rw [decide_eq_false (by omega), decide_eq_false (by omega)] <;> rfl
  have hie : its.toArray.isEmpty = decide (xs = []) := by
    cases its with
    | nil =>
      have : xs = [] := List.eq_nil_of_length_eq_zero hle.symm
      rw [this]; rfl
    | cons a b =>
      have : xs ≠ [] := fun z => by rw [z] at hle; cases hle
      rw [decide_eq_false this]; rfl
  by_cases hsame : k = 1 ∨ xs = []
  · have c1 : (its.toArray.isEmpty || k == 1) = true := by
      rw [hie]
      rcases hsame with rfl | rfl
      · simp
      · rfl
    refine wpAny_binaryOp_repeat_ref (T := "tuple") (U := "int") (by decide) ⟨_, ho, rfl⟩ (fun s' => typeIs_int s' k t) noFill_tuple_mul F.fills_int_mul F.slot_int_rmul repeat_tuple F.slot_int_index.lookup
      (call_meets F.slot_int_rmul (typeIs_int s k t) F.entry_int_rmul (F.args_int_rmul_2 _ _) (int_rmul_tuple k t l its.toArray n dd sl)
        ⟨ho, rfl, ⟨_, ho, rfl⟩, call_meets F.slot_tuple_mul ⟨_, ho, rfl⟩ F.entry_tuple_mul (F.args_tuple_mul_2 _ _) (tuple_mul1 l its.toArray n dd sl k t c0 c1) ⟨ho, ?_⟩⟩)
    exact ⟨.ref l, H, I, rfl, qs hsame⟩
  · have hk : k ≤ 0 := by
      by_cases hk : k ≤ 0
      · exact hk
      · exact absurd ⟨by omega, fun z => hsame (.inr z)⟩ h12
    have c1 : (its.toArray.isEmpty || k == 1) = false := by
      rw [hie, decide_eq_false fun z => hsame (.inr z), Bool.false_or]
      exact beq_eq_false_iff_ne.mpr fun z => hsame (.inl z)
    have c2 : (decide (k ≤ 0) || its.toArray.isEmpty) = true := by rw [decide_eq_true hk]; rfl
    have e0 : k.toNat = 0 := by omega
    have q := q hsame
    rw [e0] at q
    refine wpAny_binaryOp_repeat_ref (T := "tuple") (U := "int") (by decide) ⟨_, ho, rfl⟩ (fun s' => typeIs_int s' k t) noFill_tuple_mul F.fills_int_mul F.slot_int_rmul repeat_tuple F.slot_int_index.lookup
      (call_meets F.slot_int_rmul (typeIs_int s k t) F.entry_int_rmul (F.args_int_rmul_2 _ _) (int_rmul_tuple k t l its.toArray n dd sl)
        ⟨ho, rfl, ⟨_, ho, rfl⟩, call_meets F.slot_tuple_mul ⟨_, ho, rfl⟩ F.entry_tuple_mul (F.args_tuple_mul_2 _ _) (tuple_mul0 l its.toArray n dd sl k t c0 c1 c2) ⟨ho, ?_⟩⟩)
    refine ⟨.ref s.heap.objs.size, _, I.laid (t' := s.toks) (o := .tup []) (fun b ob q => Heap.get?_push_of_some _ q) (Nat.le_refl _) ?_, rfl, q _ (I.hok.fresh (Nat.le_refl _))⟩
    exact ⟨Nat.zero_le _, [], .nil, IsTup.new _ _⟩
end
end G

/-! G1: values, the small heap, worlds, how they stand for HandS' abstract heap. -/
namespace G
open PySem PySem.Spec PyProof.Rows L2

inductive DKey where
  | k (a : Key) | t (ks : List Key)
  deriving DecidableEq

inductive Val where
  | non | bl (b : Bool) | int (i : Int) | str (s : Str) | tup (xs : List Val) | lst (xs : List Val) | rol (xs : List Val) | ref (n : Nat) | fn (k : Nat) | ty (n : String)
  | dct (ks : List DKey) (vs : List Val)

inductive Ob where
  | lst (xs : List Val) | dct (ks : List DKey) (vs : List Val)

abbrev St := L2.St
abbrev Sl := List (Option Val)
abbrev Mu := List Ob
/-- an exception: its class by number, its fields -/
structure Exn where
  c : Nat
  fs : List (Str × Val)

inductive Res (α : Type) where
  | ok (a : α) (μ : Mu) | exc (e : Exn) (μ : Mu) | stuck
inductive Flow where
  | nx (σ : Sl) (μ : Mu) | rt (v : Val) (μ : Mu) | bk (σ : Sl) (μ : Mu) | ct (σ : Sl) (μ : Mu) | exc (e : Exn) (σ : Sl) (μ : Mu) | stuck
abbrev M (α : Type) := Sl → Mu → Res α
abbrev B := Sl → Mu → Flow
abbrev Sem := List Val → Mu → Res Val

/-! ### what is known of the text's own things -/
structure Ct where
  K : PySem.W.Frag
  /-- the defs and classes that are used as values, by number -/
  fa : Nat → Option Addr
  /-- the classes of exceptions, by number -/
  ca : Nat → Option Addr

structure Wd where
  ρ : List Addr
  μ : Mu
  H : Hp
  rs : List Addr

/-- a list of the written part -/
def StL (K : PySem.W.Frag) (a : Addr) (xs : List V) : Prop :=
  ∃ (o : Obj) (its : Array Value) (n : Nat), K.lookup a = some o ∧ o.cls = .type "list" ∧ o.dict = none ∧ o.data = .seq its n ∧ its.size ≤ sizeLine ∧ Vals xs its.toList
/-- a list that nobody changes -/
def ImL (w : Wd) (a : Addr) (ys : List V) : Prop := w.H a = some (.lst ys) ∧ a ∉ w.ρ ∧ a ∉ w.rs
/-- a list that is locked: the script's, the written part's -/
def RoL (c : Ct) (w : Wd) (a : Addr) (ys : List V) : Prop := (∃ o, w.H a = some (.frz o (.lst ys))) ∨ StL c.K a ys
theorem ImL.sq {K : PySem.W.Frag} {w : Wd} {a : Addr} {ys : List V} (h : ImL w a ys) : SqL K w.H a ys := .inl (.inl h.1)
theorem RoL.sq {c : Ct} {w : Wd} {a : Addr} {ys : List V} (h : RoL c w a ys) : SqL c.K w.H a ys := h.elim (fun h => .inl (.inr h)) .inr
/-- what a dict's object holds -/
def DcH (H : Hp) (a : Addr) (ks : List DKey) (ys : List V) : Prop :=
  (∃ kk : List Key, ks = kk.map .k ∧ kk.length = ys.length ∧ H a = some (.dK (kk.zip ys))) ∨ (∃ kt : List (List Key), ks = kt.map .t ∧ (kt.length = ys.length ∧ kt ≠ []) ∧ H a = some (.dT (kt.zip ys)))
def ImD (c : Ct) (w : Wd) (a : Addr) (ks : List DKey) (ys : List V) : Prop := DcH w.H a ks ys ∧ a ∉ w.ρ ∧ a ∉ w.rs

mutual
def RV (c : Ct) (w : Wd) : Val → V → Prop
  | .non, v => v = .non
  | .bl b, v => v = .bl b
  | .int i, v => v = .int i
  | .str s, v => v = .str s
  | .tup xs, v => ∃ a ys, v = .ref a ∧ SqT c.K w.H a ys ∧ RVs c w xs ys
  | .lst xs, v => ∃ a ys, v = .ref a ∧ ImL w a ys ∧ RVs c w xs ys
  | .rol xs, v => ∃ a ys, v = .ref a ∧ RoL c w a ys ∧ RVs c w xs ys
  | .ref n, v => ∃ a, v = .ref a ∧ w.ρ[n]? = some a
  | .fn k, v => ∃ a, v = .ref a ∧ c.fa k = some a
  | .ty n, v => v = .ty n
  | .dct ks vs, v => ∃ a ys, v = .ref a ∧ ImD c w a ks ys ∧ RVs c w vs ys
def RVs (c : Ct) (w : Wd) : List Val → List V → Prop
  | [], ys => ys = []
  | x :: xs, ys => ∃ y r, ys = y :: r ∧ RV c w x y ∧ RVs c w xs r
end

def RO (c : Ct) (w : Wd) (a : Addr) : Ob → Prop
  | .lst xs => ∃ ys, w.H a = some (.lst ys) ∧ RVs c w xs ys
  | .dct ks vs => ∃ ys, DcH w.H a ks ys ∧ RVs c w vs ys

structure Sim (c : Ct) (w : Wd) : Prop where
  len : w.ρ.length = w.μ.length
  nd : w.ρ.Nodup
  ob : ∀ (i : Nat) (a : Addr) (o : Ob), w.ρ[i]? = some a → w.μ[i]? = some o → RO c w a o
  rs : ∀ a ∈ w.rs, a ∉ w.ρ ∧ ∃ o, w.H a = some o

/-- how a world goes on -/
structure Ext (w w' : Wd) : Prop where
  pre : ∃ δ, w'.ρ = w.ρ ++ δ ∧ ∀ a ∈ δ, w.H a = none
  rs : w'.rs = w.rs
  keep : ∀ a o, w.H a = some o → a ∉ w.ρ → w'.H a = some o
  there : ∀ a, w.H a ≠ none → w'.H a ≠ none

/-- a list, a dict -/
def LD (o : HO) : Prop := (∃ xs, o = .lst xs) ∨ (∃ kvs, o = .dK kvs) ∨ ∃ kvs, o = .dT kvs
theorem LD.lst (xs : List V) : LD (.lst xs) := .inl ⟨xs, rfl⟩
theorem LD.noTup {ys : List V} : ¬ LD (.tup ys) := fun h => by rcases h with ⟨_, h⟩ | ⟨_, h⟩ | ⟨_, h⟩ <;> cases h
theorem LD.noFrz {o : Obj} {q : HO} : ¬ LD (.frz o q) := fun h => by rcases h with ⟨_, h⟩ | ⟨_, h⟩ | ⟨_, h⟩ <;> cases h
/-- .. where more may be kept back, and what is kept back may grow -/
structure ExtR (w w' : Wd) : Prop where
  pre : ∃ δ, w'.ρ = w.ρ ++ δ ∧ ∀ a ∈ δ, w.H a = none
  rs : ∀ a, a ∈ w'.rs → a ∈ w.rs ∨ w.H a = none
  keep : ∀ a o, w.H a = some o → a ∉ w.ρ → (a ∈ w.rs → ¬ LD o) → w'.H a = some o
  there : ∀ a, w.H a ≠ none → w'.H a ≠ none
theorem Ext.r {w w' : Wd} (e : Ext w w') : ExtR w w' := ⟨e.pre, fun a h => .inl (by rw [← e.rs]; exact h), fun a o h1 h2 _ => e.keep a o h1 h2, e.there⟩
section
variable {c : Ct} {w w' w1 w2 w3 : Wd}
theorem Ext.refl (w : Wd) : Ext w w := ⟨⟨[], by simp, fun _ h => nomatch h⟩, rfl, fun _ _ h _ => h, fun _ h => h⟩
theorem ExtR.notin (e : ExtR w w') {a : Addr} {o : HO} (h : w.H a = some o) (n : a ∉ w.ρ) : a ∉ w'.ρ := by
  obtain ⟨δ, p1, q1⟩ := e.pre
  rw [p1]
  intro h'
  rcases List.mem_append.mp h' with h' | h'
  · exact n h'
  · rw [q1 a h'] at h; exact nomatch h
theorem Ext.notin (e : Ext w w') {a : Addr} {o : HO} (h : w.H a = some o) (n : a ∉ w.ρ) : a ∉ w'.ρ := e.r.notin h n
theorem Ext.trans (e : Ext w1 w2) (e' : Ext w2 w3) : Ext w1 w3 := by
  obtain ⟨δ, p1, q1⟩ := e.pre
  obtain ⟨δ', p2, q2⟩ := e'.pre
  refine ⟨⟨δ ++ δ', by rw [p2, p1, List.append_assoc], fun a h => ?_⟩, e'.rs.trans e.rs, fun a o h1 h2 => e'.keep a o (e.keep a o h1 h2) (e.notin h1 h2), fun a h => e'.there a (e.there a h)⟩
  rcases List.mem_append.mp h with h | h
  · exact q1 a h
  · cases q : w1.H a with
    | none => rfl
    | some o => exact absurd (q2 a h) (e.there a (by rw [q]; exact fun z => nomatch z))
theorem ExtR.trans (e : ExtR w1 w2) (e' : ExtR w2 w3) : ExtR w1 w3 := by
  obtain ⟨δ, p1, q1⟩ := e.pre
  obtain ⟨δ', p2, q2⟩ := e'.pre
  have back : ∀ a, w2.H a = none → w1.H a = none := fun a h => by
    cases q : w1.H a with
    | none => rfl
    | some o => exact absurd h (e.there a (by rw [q]; exact fun z => nomatch z))
  refine ⟨⟨δ ++ δ', by rw [p2, p1, List.append_assoc], fun a h => ?_⟩, fun a h => (e'.rs a h).elim (fun h => e.rs a h) fun h => .inr (back a h), fun a o h1 h2 h3 => e'.keep a o (e.keep a o h1 h2 h3) (e.notin h1 h2) (fun h => (e.rs a h).elim h3 fun z => absurd (z.symm.trans h1) (fun z => nomatch z)), fun a h => e'.there a (e.there a h)⟩
  rcases List.mem_append.mp h with h | h
  · exact q1 a h
  · exact back a (q2 a h)
theorem ExtR.pre_get (e : ExtR w w') {n : Nat} {a : Addr} (h : w.ρ[n]? = some a) : w'.ρ[n]? = some a := by
  obtain ⟨δ, p1, _⟩ := e.pre
  rw [p1, List.getElem?_append_left (by exact (List.getElem?_eq_some_iff.mp h).1)]
  exact h
end
theorem Ext.pre_get {w w' : Wd} (e : Ext w w') {n : Nat} {a : Addr} (h : w.ρ[n]? = some a) : w'.ρ[n]? = some a := e.r.pre_get h
/-! ### RV goes on -/
theorem Sim.mem {c : Ct} {w : Wd} (s : Sim c w) {a : Addr} (h : a ∈ w.ρ) : ∃ (i : Nat) (o : Ob), w.ρ[i]? = some a ∧ w.μ[i]? = some o ∧ RO c w a o := by
  obtain ⟨i, hi⟩ := List.getElem?_of_mem h
  have hl : i < w.μ.length := by rw [← s.len]; exact (List.getElem?_eq_some_iff.mp hi).1
  exact ⟨i, w.μ[i], hi, List.getElem?_eq_getElem hl, s.ob i a _ hi (List.getElem?_eq_getElem hl)⟩
/-- what of the world a tuple, a list that stands, leans on -/
theorem RO.notTup {c : Ct} {w : Wd} {a : Addr} {o : Ob} (h : RO c w a o) : ∀ ys, ¬ Rd w.H a (.tup ys) := by
  intro ys h'
  cases o with
  | lst xs =>
    obtain ⟨zs, hz, _⟩ := h
    rcases h' with h' | ⟨_, h'⟩ <;> (rw [hz] at h'; exact nomatch h')
  | dct ks vs =>
    obtain ⟨zs, hz, _⟩ := h
    rcases hz with ⟨_, _, _, hz⟩ | ⟨_, _, _, hz⟩ <;> rcases h' with h' | ⟨_, h'⟩ <;> (rw [hz] at h'; exact nomatch h')
section
variable {c : Ct} {w w' : Wd} {a : Addr}
theorem rd_none {H : Hp} {a : Addr} {o : HO} (h : Rd H a o) (n : H a = none) : False := by
  rcases h with h | ⟨q, h⟩ <;> (rw [n] at h; cases h)
theorem ExtR.rd (e : ExtR w w') {o : HO} (h : Rd w.H a o) (n : a ∉ w.ρ) (hn : ¬ LD o) : Rd w'.H a o ∧ a ∉ w'.ρ := by
  rcases h with h | ⟨q, h⟩
  · exact ⟨.inl (e.keep a _ h n fun _ => hn), e.notin h n⟩
  · exact ⟨.inr ⟨q, e.keep a _ h n fun _ => LD.noFrz⟩, e.notin h n⟩
theorem ExtR.sqT (s : Sim c w) (e : ExtR w w') {ys : List V} (h : SqT c.K w.H a ys) : SqT c.K w'.H a ys := by
  rcases h with h | h
  · refine .inl (e.rd h (fun hm => ?_) LD.noTup).1
    obtain ⟨i, o, _, _, r⟩ := s.mem hm
    exact r.notTup ys h
  · exact .inr h
theorem ExtR.imL (e : ExtR w w') {ys : List V} (h : ImL w a ys) : ImL w' a ys :=
  ⟨e.keep a _ h.1 h.2.1 fun z => absurd z h.2.2, e.notin h.1 h.2.1, fun hm => (e.rs a hm).elim h.2.2 fun z => by rw [h.1] at z; cases z⟩
theorem ExtR.roL (s : Sim c w) (e : ExtR w w') {ys : List V} (h : RoL c w a ys) : RoL c w' a ys := by
  rcases h with ⟨o, h⟩ | h
  · refine .inl ⟨o, e.keep a _ h (fun hm => ?_) fun _ => LD.noFrz⟩
    obtain ⟨i, q, _, _, r⟩ := s.mem hm
    cases q with
    | lst xs => obtain ⟨zs, hz, _⟩ := r; rw [hz] at h; cases h
    | dct ks vs => obtain ⟨zs, hz, _⟩ := r; rcases hz with ⟨_, _, _, hz⟩ | ⟨_, _, _, hz⟩ <;> (rw [hz] at h; cases h)
  · exact .inr h
theorem DcH.some {H : Hp} {ks : List DKey} {ys : List V} (h : DcH H a ks ys) : ∃ o, H a = some o := by
  rcases h with ⟨_, _, _, h⟩ | ⟨_, _, _, h⟩ <;> exact ⟨_, h⟩
theorem ExtR.imD (e : ExtR w w') {ks : List DKey} {ys : List V} (h : ImD c w a ks ys) : ImD c w' a ks ys := by
  obtain ⟨h, n, r⟩ := h
  obtain ⟨o, ho⟩ := h.some
  refine ⟨?_, e.notin ho n, fun hm => (e.rs a hm).elim r fun z => by rw [ho] at z; cases z⟩
  rcases h with ⟨kk, h1, h2, h4⟩ | ⟨kk, h1, h2, h4⟩
  · exact .inl ⟨kk, h1, h2, e.keep a _ h4 n fun z => absurd z r⟩
  · exact .inr ⟨kk, h1, h2, e.keep a _ h4 n fun z => absurd z r⟩
mutual
theorem RV.extR (s : Sim c w) (e : ExtR w w') : ∀ (x : Val) (v : V), RV c w x v → RV c w' x v
  | .non, _, h => h
  | .bl _, _, h => h
  | .int _, _, h => h
  | .str _, _, h => h
  | .tup xs, _, ⟨a, ys, e1, e2, e3⟩ => ⟨a, ys, e1, e.sqT s e2, RVs.extR s e xs ys e3⟩
  | .lst xs, _, ⟨a, ys, e1, e2, e3⟩ => ⟨a, ys, e1, e.imL e2, RVs.extR s e xs ys e3⟩
  | .rol xs, _, ⟨a, ys, e1, e2, e3⟩ => ⟨a, ys, e1, e.roL s e2, RVs.extR s e xs ys e3⟩
  | .ref n, _, ⟨a, e1, e2⟩ => ⟨a, e1, e.pre_get e2⟩
  | .fn _, _, h => h
  | .ty _, _, h => h
  | .dct ks vs, _, ⟨a, ys, e1, e2, e3⟩ => ⟨a, ys, e1, e.imD e2, RVs.extR s e vs ys e3⟩
theorem RVs.extR (s : Sim c w) (e : ExtR w w') : ∀ (xs : List Val) (ys : List V), RVs c w xs ys → RVs c w' xs ys
  | [], _, h => h
  | x :: xs, _, ⟨y, r, e1, e2, e3⟩ => ⟨y, r, e1, RV.extR s e x y e2, RVs.extR s e xs r e3⟩
end
theorem Ext.sqT (s : Sim c w) (e : Ext w w') {ys : List V} (h : SqT c.K w.H a ys) : SqT c.K w'.H a ys := e.r.sqT s h
theorem Ext.imL (e : Ext w w') {ys : List V} (h : ImL w a ys) : ImL w' a ys := e.r.imL h
theorem RV.ext (s : Sim c w) (e : Ext w w') (x : Val) (v : V) (h : RV c w x v) : RV c w' x v := RV.extR s e.r x v h
theorem RVs.ext (s : Sim c w) (e : Ext w w') (xs : List Val) (ys : List V) (h : RVs c w xs ys) : RVs c w' xs ys := RVs.extR s e.r xs ys h
end

/-! ### slots -/
def RSl (c : Ct) (w : Wd) : Sl → St → Prop
  | [], σ => σ = []
  | none :: sl, σ => ∃ y r, σ = y :: r ∧ RSl c w sl r
  | some x :: sl, σ => ∃ y r, σ = some y :: r ∧ RV c w x y ∧ RSl c w sl r
section
variable {c : Ct} {w w' : Wd}
theorem RSl.ext (s : Sim c w) (e : Ext w w') : ∀ {sl : Sl} {σ : St}, RSl c w sl σ → RSl c w' sl σ
  | [], _, h => h
  | none :: sl, _, ⟨y, r, e1, e2⟩ => ⟨y, r, e1, RSl.ext s e e2⟩
  | some x :: sl, _, ⟨y, r, e1, e2, e3⟩ => ⟨y, r, e1, RV.ext s e x y e2, RSl.ext s e e3⟩
theorem RSl.get : ∀ {sl : Sl} {σ : St} {i : Nat} {x : Val}, RSl c w sl σ → sl[i]? = some (some x) → ∃ y, σ[i]? = some (some y) ∧ RV c w x y
  | none :: sl, _, 0, x, _, h => by simp at h
  | some x :: sl, _, 0, _, ⟨y, r, e1, e2, _⟩, h => by
    simp at h; subst h; subst e1
    exact ⟨y, by simp, e2⟩
  | none :: sl, _, i + 1, x, ⟨y, r, e1, e2⟩, h => by
    subst e1
    obtain ⟨z, h1, h2⟩ := RSl.get (i := i) e2 (by simpa using h)
    exact ⟨z, by simpa using h1, h2⟩
  | some _ :: sl, _, i + 1, x, ⟨y, r, e1, _, e2⟩, h => by
    subst e1
    obtain ⟨z, h1, h2⟩ := RSl.get (i := i) e2 (by simpa using h)
    exact ⟨z, by simpa using h1, h2⟩
theorem RSl.len : ∀ {sl : Sl} {σ : St}, RSl c w sl σ → σ.length = sl.length
  | [], _, h => by rw [h]; rfl
  | none :: sl, _, ⟨y, r, e1, e2⟩ => by rw [e1]; simp [RSl.len e2]
  | some x :: sl, _, ⟨y, r, e1, _, e2⟩ => by rw [e1]; simp [RSl.len e2]
theorem RSl.set {x : Val} {v : V} (rv : RV c w x v) : ∀ {sl : Sl} {σ : St} (i : Nat), RSl c w sl σ → RSl c w (sl.set i (some x)) (σ.set i (some v))
  | [], _, _, h => by rw [h]; simp [RSl]
  | none :: sl, _, 0, ⟨y, r, e1, e2⟩ => by subst e1; exact ⟨v, r, rfl, rv, e2⟩
  | some _ :: sl, _, 0, ⟨y, r, e1, _, e2⟩ => by subst e1; exact ⟨v, r, rfl, rv, e2⟩
  | none :: sl, _, i + 1, ⟨y, r, e1, e2⟩ => by subst e1; exact ⟨y, r.set i (some v), rfl, RSl.set rv i e2⟩
  | some _ :: sl, _, i + 1, ⟨y, r, e1, e2, e3⟩ => by subst e1; exact ⟨y, r.set i (some v), rfl, e2, RSl.set rv i e3⟩
/-- slots forgotten -/
def wipeS (σ : Sl) : List Nat → Sl
  | [] => σ
  | v :: vs => (wipeS σ vs).set v none
theorem RSl.set0 : ∀ {sl : Sl} {σ : St} (i : Nat) (z : Option V), RSl c w sl σ → RSl c w (sl.set i none) (σ.set i z)
  | [], _, _, _, h => by rw [h]; simp [RSl]
  | none :: sl, _, 0, z, ⟨y, r, e1, e2⟩ => by subst e1; exact ⟨z, r, rfl, e2⟩
  | some _ :: sl, _, 0, z, ⟨y, r, e1, _, e2⟩ => by subst e1; exact ⟨z, r, rfl, e2⟩
  | none :: sl, _, i + 1, z, ⟨y, r, e1, e2⟩ => by subst e1; exact ⟨y, r.set i z, rfl, RSl.set0 i z e2⟩
  | some _ :: sl, _, i + 1, z, ⟨y, r, e1, e2, e3⟩ => by subst e1; exact ⟨y, r.set i z, rfl, e2, RSl.set0 i z e3⟩
theorem RSl.wipe {sl : Sl} {σ : St} (h : RSl c w sl σ) : ∀ vs : List Nat, RSl c w (wipeS sl vs) (L2.wipe σ vs)
  | [] => h
  | v :: vs => RSl.set0 v none (RSl.wipe h vs)
end

/-! ### exceptions -/
/-- an exception as HandS tells it -/
def RX (c : Ct) (w : Wd) (e : Exn) (cls : Value) (d : Option Addr) : Prop :=
  ∃ C, c.ca e.c = some C ∧ cls = .ref C ∧ ((e.fs = [] ∧ d = none) ∨ ∃ dx ys, d = some dx ∧ e.fs ≠ [] ∧ ys.length = e.fs.length ∧ w.H dx = some (.xd ((e.fs.map (·.1)).zip ys)) ∧ RVs c w (e.fs.map (·.2)) ys)

/-! ### what is wanted of an end -/
def Post (c : Ct) (w : Wd) (r : Res Val) (Q : VK) (E : XK) : Prop := match r with
  | .ok v μ' => ∀ w', w'.μ = μ' → Ext w w' → Sim c w' → ∀ x, RV c w' v x → Q x w'.H
  | .exc e μ' => ∀ w', w'.μ = μ' → Ext w w' → Sim c w' → ∀ cls d, RX c w' e cls d → E cls d w'.H
  | .stuck => False
def PostB (c : Ct) (w : Wd) (r : Res Bool) (Q : Bool → Hp → Prop) (E : XK) : Prop := match r with
  | .ok b μ' => ∀ w', w'.μ = μ' → Ext w w' → Sim c w' → Q b w'.H
  | .exc e μ' => ∀ w', w'.μ = μ' → Ext w w' → Sim c w' → ∀ cls d, RX c w' e cls d → E cls d w'.H
  | .stuck => False
def PostL (c : Ct) (w : Wd) (r : Res (List Val)) (Q : List V → Hp → Prop) (E : XK) : Prop := match r with
  | .ok vs μ' => ∀ w', w'.μ = μ' → Ext w w' → Sim c w' → ∀ xs, RVs c w' vs xs → Q xs w'.H
  | .exc e μ' => ∀ w', w'.μ = μ' → Ext w w' → Sim c w' → ∀ cls d, RX c w' e cls d → E cls d w'.H
  | .stuck => False
/-- a new list -/
def PostF (c : Ct) (w : Wd) (r : Res (List Val)) (Q : VK) (E : XK) : Prop := match r with
  | .ok vs μ' => ∀ w', w'.μ = μ' → Ext w w' → Sim c w' → ∀ D ys, w'.H D = none → RVs c w' vs ys → Q (.ref D) (upd w'.H D (.lst ys))
  | .exc e μ' => ∀ w', w'.μ = μ' → Ext w w' → Sim c w' → ∀ cls d, RX c w' e cls d → E cls d w'.H
  | .stuck => False
def PostS (c : Ct) (w : Wd) (r : Flow) (D : Ends) (W : WX) : Prop := match r with
  | .nx sl μ' => ∀ w', w'.μ = μ' → Ext w w' → Sim c w' → ∀ σ, RSl c w' sl σ → D.nx σ w'.H
  | .rt v μ' => ∀ w', w'.μ = μ' → Ext w w' → Sim c w' → ∀ x, RV c w' v x → D.rt x w'.H
  | .bk sl μ' => ∀ w', w'.μ = μ' → Ext w w' → Sim c w' → ∀ σ, RSl c w' sl σ → D.bk σ w'.H
  | .ct sl μ' => ∀ w', w'.μ = μ' → Ext w w' → Sim c w' → ∀ σ, RSl c w' sl σ → D.ct σ w'.H
  | .exc e sl μ' => ∀ w', w'.μ = μ' → Ext w w' → Sim c w' → ∀ σ cls d, RSl c w' sl σ → RX c w' e cls d → W cls d σ w'.H
  | .stuck => False
section
variable {c : Ct} {w w1 : Wd}
theorem Post.ext {r : Res Val} {Q : VK} {E : XK} (h : Post c w r Q E) (e : Ext w w1) : Post c w1 r Q E := by
  cases r with
  | ok v μ => exact fun w' a b d x r => h w' a (e.trans b) d x r
  | exc x μ => exact fun w' a b d cls dd r => h w' a (e.trans b) d cls dd r
  | stuck => exact h
theorem PostB.ext {r : Res Bool} {Q : Bool → Hp → Prop} {E : XK} (h : PostB c w r Q E) (e : Ext w w1) : PostB c w1 r Q E := by
  cases r with
  | ok v μ => exact fun w' a b d => h w' a (e.trans b) d
  | exc x μ => exact fun w' a b d cls dd r => h w' a (e.trans b) d cls dd r
  | stuck => exact h
theorem PostL.ext {r : Res (List Val)} {Q : List V → Hp → Prop} {E : XK} (h : PostL c w r Q E) (e : Ext w w1) : PostL c w1 r Q E := by
  cases r with
  | ok v μ => exact fun w' a b d x r => h w' a (e.trans b) d x r
  | exc x μ => exact fun w' a b d cls dd r => h w' a (e.trans b) d cls dd r
  | stuck => exact h
theorem PostF.ext {r : Res (List Val)} {Q : VK} {E : XK} (h : PostF c w r Q E) (e : Ext w w1) : PostF c w1 r Q E := by
  cases r with
  | ok v μ => exact fun w' a b d x r => h w' a (e.trans b) d x r
  | exc x μ => exact fun w' a b d cls dd r => h w' a (e.trans b) d cls dd r
  | stuck => exact h
theorem PostS.ext {r : Flow} {D : Ends} {W : WX} (h : PostS c w r D W) (e : Ext w w1) : PostS c w1 r D W := by
  cases r with
  | nx v μ => exact fun w' a b d x r => h w' a (e.trans b) d x r
  | rt v μ => exact fun w' a b d x r => h w' a (e.trans b) d x r
  | bk v μ => exact fun w' a b d x r => h w' a (e.trans b) d x r
  | ct v μ => exact fun w' a b d x r => h w' a (e.trans b) d x r
  | exc x v μ => exact fun w' a b d σ cls dd r r2 => h w' a (e.trans b) d σ cls dd r r2
  | stuck => exact h
end

/-! ### the readings -/
def TE' (c : Ct) (W : WX) (m : M Val) : TE := fun σ H Q => ∃ w sl, w.H = H ∧ Sim c w ∧ RSl c w sl σ ∧ Post c w (m sl w.μ) Q (fun cls d H' => W cls d σ H')
def TT' (c : Ct) (W : WX) (m : M Bool) : TT := fun σ H Q => ∃ w sl, w.H = H ∧ Sim c w ∧ RSl c w sl σ ∧ PostB c w (m sl w.μ) Q (fun cls d H' => W cls d σ H')
def TA' (c : Ct) (W : WX) (m : M (List Val)) : TA := fun σ H Q => ∃ w sl, w.H = H ∧ Sim c w ∧ RSl c w sl σ ∧ PostL c w (m sl w.μ) Q (fun cls d H' => W cls d σ H')
def TF' (c : Ct) (W : WX) (m : M (List Val)) : TE := fun σ H Q => ∃ w sl, w.H = H ∧ Sim c w ∧ RSl c w sl σ ∧ PostF c w (m sl w.μ) Q (fun cls d H' => W cls d σ H')
def TS' (c : Ct) (W : WX) (m : B) : TS := fun D σ H => ∃ w sl, w.H = H ∧ Sim c w ∧ RSl c w sl σ ∧ PostS c w (m sl w.μ) D W
end G

/-! G2: expressions: readings lifted. -/
namespace G
open PySem PySem.Spec PyProof.Rows L2

/-! ### worlds that go on -/
section
variable {c : Ct} {w w' : Wd} {p : Addr} {ho : HO}
theorem fresh_ext (n : w.H p = none) : Ext w { w with H := upd w.H p ho } :=
  ⟨⟨[], by simp, fun _ h => nomatch h⟩, rfl, fun a o h _ => by show upd w.H p ho a = _; rw [upd_ne (ne_of_none h n)]; exact h, fun a h => by
    show upd w.H p ho a ≠ none
    by_cases e : a = p
    · rw [e, upd_same]; exact fun z => nomatch z
    · rw [upd_ne e]; exact h⟩
theorem RO.some {a : Addr} {o : Ob} (h : RO c w a o) : ∃ x, w.H a = some x := by
  cases o with
  | lst xs => obtain ⟨ys, e, _⟩ := h; exact ⟨_, e⟩
  | dct ks vs => obtain ⟨ys, e, _⟩ := h; exact e.some
theorem DcH.congr {H H' : Hp} {a : Addr} {ks : List DKey} {ys : List V} (e : H' a = H a) (h : DcH H a ks ys) : DcH H' a ks ys := by
  rcases h with ⟨kk, h1, h2, h4⟩ | ⟨kk, h1, h2, h4⟩
  · exact .inl ⟨kk, h1, h2, e.trans h4⟩
  · exact .inr ⟨kk, h1, h2, e.trans h4⟩
theorem RO.go {a : Addr} {o : Ob} (s : Sim c w) (e : Ext w w') (k : w'.H a = w.H a) (h : RO c w a o) : RO c w' a o := by
  cases o with
  | lst xs => obtain ⟨ys, q, r⟩ := h; exact ⟨ys, k.trans q, RVs.ext s e _ _ r⟩
  | dct ks vs => obtain ⟨ys, q, r⟩ := h; exact ⟨ys, q.congr k, RVs.ext s e _ _ r⟩
theorem Sim.ne_new (s : Sim c w) (n : w.H p = none) {a : Addr} (h : a ∈ w.ρ) : a ≠ p := by
  obtain ⟨_, _, _, _, r⟩ := s.mem h
  obtain ⟨x, hx⟩ := r.some
  exact ne_of_none hx n
theorem fresh_sim (s : Sim c w) (n : w.H p = none) : Sim c { w with H := upd w.H p ho } :=
  ⟨s.len, s.nd, fun i a o h1 h2 => (s.ob i a o h1 h2).go s (fresh_ext n) (upd_ne (s.ne_new n (List.mem_of_getElem? h1))), fun a h => by
    obtain ⟨h1, xs, h2⟩ := s.rs a h
    exact ⟨h1, xs, by show upd w.H p ho a = _; rw [upd_ne (ne_of_none h2 n)]; exact h2⟩⟩
theorem alloc_ext {o : Ob} (n : w.H p = none) : Ext w { w with ρ := w.ρ ++ [p], μ := w.μ ++ [o], H := upd w.H p ho } :=
  ⟨⟨[p], rfl, fun a h => by rw [List.mem_singleton.mp h]; exact n⟩, rfl, (fresh_ext n).keep, (fresh_ext n).there⟩
theorem alloc_sim {o : Ob} (s : Sim c w) (n : w.H p = none) (h : RO c { w with ρ := w.ρ ++ [p], μ := w.μ ++ [o], H := upd w.H p ho } p o) (hr : p ∉ w.rs) : Sim c { w with ρ := w.ρ ++ [p], μ := w.μ ++ [o], H := upd w.H p ho } := by
  refine ⟨by simp [s.len], ?_, fun i a o' h1 h2 => ?_, fun a ha => ?_⟩
  · rw [List.nodup_append]
    refine ⟨s.nd, by simp, fun a ha b hb => ?_⟩
    rw [List.mem_singleton.mp hb]
    exact s.ne_new n ha
  · have h1 : (w.ρ ++ [p])[i]? = some a := h1
    have h2 : (w.μ ++ [o])[i]? = some o' := h2
    by_cases hi : i < w.ρ.length
    · rw [List.getElem?_append_left hi] at h1
      rw [List.getElem?_append_left (by rw [← s.len]; exact hi)] at h2
      exact (s.ob i a o' h1 h2).go s (alloc_ext n) (upd_ne (s.ne_new n (List.mem_of_getElem? h1)))
    · rw [List.getElem?_append_right (by omega)] at h1
      rw [List.getElem?_append_right (by rw [← s.len]; omega)] at h2
      have e : i - w.ρ.length = 0 := by
        have := (List.getElem?_eq_some_iff.mp h1).1
        simp at this; omega
      rw [e] at h1
      rw [← s.len, e] at h2
      simp at h1 h2
      subst h1 h2
      exact h
  · obtain ⟨h1, xs, h2⟩ := s.rs a ha
    refine ⟨fun hm => ?_, xs, by show upd w.H p ho a = _; rw [upd_ne (ne_of_none h2 n)]; exact h2⟩
    rcases List.mem_append.mp hm with hm | hm
    · exact h1 hm
    · rw [List.mem_singleton.mp hm] at ha; exact hr ha
theorem Sim.rs_new (s : Sim c w) (n : w.H p = none) : p ∉ w.rs := fun h => by
  obtain ⟨_, xs, h2⟩ := s.rs p h
  rw [n] at h2; exact nomatch h2
theorem nodup_get {l : List Addr} (h : l.Nodup) {i j : Nat} {a : Addr} (h1 : l[i]? = some a) (h2 : l[j]? = some a) : i = j := by
  obtain ⟨l1, e1⟩ := List.getElem?_eq_some_iff.mp h1
  obtain ⟨l2, e2⟩ := List.getElem?_eq_some_iff.mp h2
  exact (List.getElem_inj h).mp (e1.trans e2.symm)
theorem set_ext {n : Nat} {o : Ob} (h : w.ρ[n]? = some p) : Ext w { w with μ := w.μ.set n o, H := upd w.H p ho } :=
  ⟨⟨[], by simp, fun _ h => nomatch h⟩, rfl, fun a o' h1 h2 => by
    have : a ≠ p := fun e => h2 (by rw [e]; exact List.mem_of_getElem? h)
    show upd w.H p ho a = _
    rw [upd_ne this]; exact h1, fun a h' => by
    show upd w.H p ho a ≠ none
    by_cases e : a = p
    · rw [e, upd_same]; exact fun z => nomatch z
    · rw [upd_ne e]; exact h'⟩
theorem set_sim {n : Nat} {o : Ob} (s : Sim c w) (h : w.ρ[n]? = some p) (ro : RO c { w with μ := w.μ.set n o, H := upd w.H p ho } p o) : Sim c { w with μ := w.μ.set n o, H := upd w.H p ho } := by
  refine ⟨by simp [s.len], s.nd, fun i a o' h1 h2 => ?_, fun a ha => ?_⟩
  · have h1 : w.ρ[i]? = some a := h1
    have h2 : (w.μ.set n o)[i]? = some o' := h2
    by_cases e : i = n
    · subst e
      rw [h] at h1
      cases h1
      rw [List.getElem?_set_self (by have := (List.getElem?_eq_some_iff.mp h2).1; simpa using this)] at h2
      cases h2
      exact ro
    · rw [List.getElem?_set_ne (Ne.symm e)] at h2
      exact (s.ob i a o' h1 h2).go s (set_ext h) (upd_ne fun z => e (nodup_get s.nd h1 (z ▸ h)))
  · obtain ⟨h1, xs, h2⟩ := s.rs a ha
    refine ⟨h1, xs, ?_⟩
    show upd w.H p ho a = _
    rw [upd_ne fun z => h1 (by rw [z]; exact List.mem_of_getElem? h)]
    exact h2
end

/-! ### Val's lengths, places -/
section
variable {c : Ct} {w : Wd}
theorem RVs.length : ∀ {xs : List Val} {ys : List V}, RVs c w xs ys → xs.length = ys.length
  | [], _, h => by rw [h]; rfl
  | x :: xs, _, ⟨y, r, e, _, h⟩ => by rw [e]; simp [RVs.length h]
theorem RVs.get : ∀ {xs : List Val} {ys : List V} {i : Nat} {x : Val}, RVs c w xs ys → xs[i]? = some x → ∃ y, ys[i]? = some y ∧ RV c w x y
  | [], _, _, _, _, h => by simp at h
  | x :: xs, _, 0, _, ⟨y, r, e, q, _⟩, h => by simp at h; subst h; subst e; exact ⟨y, by simp, q⟩
  | x :: xs, _, i + 1, _, ⟨y, r, e, _, q⟩, h => by
    subst e
    obtain ⟨z, h1, h2⟩ := RVs.get (i := i) q (by simpa using h)
    exact ⟨z, by simpa using h1, h2⟩
theorem RVs.append : ∀ {xs xs' : List Val} {ys ys' : List V}, RVs c w xs ys → RVs c w xs' ys' → RVs c w (xs ++ xs') (ys ++ ys')
  | [], _, _, _, h, h' => by rw [h]; exact h'
  | x :: xs, _, _, _, ⟨y, r, e, q, h⟩, h' => by subst e; exact ⟨y, r ++ _, rfl, q, RVs.append h h'⟩
theorem RVs.take : ∀ {xs : List Val} {ys : List V} (n : Nat), RVs c w xs ys → RVs c w (xs.take n) (ys.take n)
  | [], _, n, h => by rw [h]; cases n <;> exact (rfl : ([] : List V) = [])
  | x :: xs, _, 0, _ => (rfl : ([] : List V) = [])
  | x :: xs, _, n + 1, ⟨y, r, e, q, h⟩ => by subst e; exact ⟨y, r.take n, rfl, q, RVs.take n h⟩
theorem RVs.drop : ∀ {xs : List Val} {ys : List V} (n : Nat), RVs c w xs ys → RVs c w (xs.drop n) (ys.drop n)
  | [], _, n, h => by rw [h]; cases n <;> exact (rfl : ([] : List V) = [])
  | x :: xs, _, 0, h => h
  | x :: xs, _, n + 1, ⟨y, r, e, q, h⟩ => by subst e; exact RVs.drop n h
theorem RVs.set {x : Val} {v : V} (rv : RV c w x v) : ∀ {xs : List Val} {ys : List V} (i : Nat), RVs c w xs ys → RVs c w (xs.set i x) (ys.set i v)
  | [], _, _, h => by rw [h]; exact (rfl : ([] : List V) = [])
  | _ :: xs, _, 0, ⟨y, r, e, _, h⟩ => by subst e; exact ⟨v, r, rfl, rv, h⟩
  | _ :: xs, _, i + 1, ⟨y, r, e, q, h⟩ => by subst e; exact ⟨y, r.set i v, rfl, q, RVs.set rv i h⟩
theorem RVs.reverse {xs : List Val} {ys : List V} (h : RVs c w xs ys) : RVs c w xs.reverse ys.reverse := by
  induction xs generalizing ys with
  | nil => rw [h]; exact (rfl : ([] : List V) = [])
  | cons x xs ih =>
    obtain ⟨y, r, e, q, h⟩ := h
    subst e
    rw [List.reverse_cons, List.reverse_cons]
    exact (ih h).append ⟨y, [], rfl, q, rfl⟩
theorem RVs.eraseIdx : ∀ {xs : List Val} {ys : List V} (i : Nat), RVs c w xs ys → RVs c w (xs.eraseIdx i) (ys.eraseIdx i)
  | [], _, _, h => by rw [h]; exact (rfl : ([] : List V) = [])
  | _ :: xs, _, 0, ⟨y, r, e, _, h⟩ => by subst e; exact h
  | _ :: xs, _, i + 1, ⟨y, r, e, q, h⟩ => by subst e; exact ⟨y, r.eraseIdx i, rfl, q, RVs.eraseIdx i h⟩
theorem RVs.dropLast {xs : List Val} {ys : List V} (h : RVs c w xs ys) : RVs c w xs.dropLast ys.dropLast := by
  rw [List.dropLast_eq_take, List.dropLast_eq_take, h.length]
  exact h.take _
end

/-! ### what a list at hand is -/
/-- a mutable thing's contents -/
def look (μ : Mu) : Val → Val
  | .ref n => match μ[n]? with
    | some (.lst xs) => .lst xs
    | some (.dct ks vs) => .dct ks vs
    | none => .ref n
  | .rol xs => .lst xs
  | v => v
/-- items of a list or a tuple at hand -/
def seqOf (μ : Mu) (v : Val) : Option (List Val) := match look μ v with
  | .lst xs => some xs
  | .tup xs => some xs
  | _ => none
section
variable {c : Ct} {w : Wd} {x : Val} {v : V}
theorem look_lst (s : Sim c w) (r : RV c w x v) {xs : List Val} (h : look w.μ x = .lst xs) : ∃ a ys, v = .ref a ∧ SqL c.K w.H a ys ∧ RVs c w xs ys := by
  cases x with
  | ref n =>
    obtain ⟨a, e, hn⟩ := r
    have hl : n < w.μ.length := by rw [← s.len]; exact (List.getElem?_eq_some_iff.mp hn).1
    have hg := List.getElem?_eq_getElem hl
    have ro := s.ob n a _ hn hg
    simp only [look, hg] at h
    revert h ro
    cases w.μ[n] with
    | lst zs => intro ro h; cases h; obtain ⟨ys, q, r⟩ := ro; exact ⟨a, ys, e, SqL.of q, r⟩
    | dct ks vs => intro _ h; cases h
  | lst zs =>
    cases h
    obtain ⟨a, ys, e, q, r⟩ := r
    exact ⟨a, ys, e, q.sq, r⟩
  | rol zs =>
    cases h
    obtain ⟨a, ys, e, q, r⟩ := r
    exact ⟨a, ys, e, q.sq, r⟩
  | non => cases h
  | bl _ => cases h
  | int _ => cases h
  | str _ => cases h
  | tup _ => cases h
  | fn _ => cases h
  | ty _ => cases h
  | dct _ _ => cases h
theorem look_tup (s : Sim c w) (r : RV c w x v) {xs : List Val} (h : look w.μ x = .tup xs) : ∃ a ys, v = .ref a ∧ SqT c.K w.H a ys ∧ RVs c w xs ys := by
  cases x with
  | ref n =>
    unfold look at h
    dsimp only at h
    split at h <;> cases h
  | tup zs =>
    cases h
    obtain ⟨a, ys, e, q, r⟩ := r
    exact ⟨a, ys, e, q, r⟩
  | non => cases h
  | bl _ => cases h
  | int _ => cases h
  | str _ => cases h
  | lst _ => cases h
  | rol _ => cases h
  | fn _ => cases h
  | ty _ => cases h
  | dct _ _ => cases h
theorem look_int (r : RV c w x v) {i : Int} (h : look w.μ x = .int i) : v = .int i := by
  cases x with
  | ref n => unfold look at h; dsimp only at h; split at h <;> cases h
  | int j => cases h; exact r
  | non => cases h
  | bl _ => cases h
  | str _ => cases h
  | lst _ => cases h
  | tup _ => cases h
  | rol _ => cases h
  | fn _ => cases h
  | ty _ => cases h
  | dct _ _ => cases h
theorem look_bl (r : RV c w x v) {i : Bool} (h : look w.μ x = .bl i) : v = .bl i := by
  cases x with
  | ref n => unfold look at h; dsimp only at h; split at h <;> cases h
  | bl j => cases h; exact r
  | non => cases h
  | int _ => cases h
  | str _ => cases h
  | lst _ => cases h
  | tup _ => cases h
  | rol _ => cases h
  | fn _ => cases h
  | ty _ => cases h
  | dct _ _ => cases h
theorem look_str (r : RV c w x v) {i : Str} (h : look w.μ x = .str i) : v = .str i := by
  cases x with
  | ref n => unfold look at h; dsimp only at h; split at h <;> cases h
  | str j => cases h; exact r
  | non => cases h
  | int _ => cases h
  | bl _ => cases h
  | lst _ => cases h
  | tup _ => cases h
  | rol _ => cases h
  | fn _ => cases h
  | ty _ => cases h
  | dct _ _ => cases h
theorem seqOf_sq (s : Sim c w) (r : RV c w x v) {xs : List Val} (h : seqOf w.μ x = some xs) : ∃ a ys, v = .ref a ∧ (SqL c.K w.H a ys ∨ SqT c.K w.H a ys) ∧ RVs c w xs ys := by
  unfold seqOf at h
  revert h
  cases e : look w.μ x with
  | lst zs => intro h; cases h; obtain ⟨a, ys, h1, h2, h3⟩ := look_lst s r e; exact ⟨a, ys, h1, .inl h2, h3⟩
  | tup zs => intro h; cases h; obtain ⟨a, ys, h1, h2, h3⟩ := look_tup s r e; exact ⟨a, ys, h1, .inr h2, h3⟩
  | non => intro h; cases h
  | bl _ => intro h; cases h
  | int _ => intro h; cases h
  | str _ => intro h; cases h
  | ref _ => intro h; cases h
  | rol _ => intro h; cases h
  | fn _ => intro h; cases h
  | ty _ => intro h; cases h
  | dct _ _ => intro h; cases h
end

/-! ### ends -/
section
variable {c : Ct} {w : Wd} {Q : VK} {E : XK}
theorem Post.here {v : Val} {x : V} (h : Post c w (.ok v w.μ) Q E) (s : Sim c w) (r : RV c w v x) : Q x w.H := h w rfl (Ext.refl w) s x r
theorem Post.tup {vs : List Val} {ys : List V} {p : Addr} (h : Post c w (.ok (.tup vs) w.μ) Q E) (s : Sim c w) (r : RVs c w vs ys) (n : w.H p = none) : Q (.ref p) (upd w.H p (.tup ys)) :=
  h { w with H := upd w.H p (.tup ys) } rfl (fresh_ext n) (fresh_sim s n) _ ⟨p, ys, rfl, SqT.of upd_same, RVs.ext s (fresh_ext n) _ _ r⟩
theorem Post.lst {vs : List Val} {ys : List V} {p : Addr} (h : Post c w (.ok (.lst vs) w.μ) Q E) (s : Sim c w) (r : RVs c w vs ys) (n : w.H p = none) : Q (.ref p) (upd w.H p (.lst ys)) :=
  h { w with H := upd w.H p (.lst ys) } rfl (fresh_ext n) (fresh_sim s n) _ ⟨p, ys, rfl, ⟨upd_same, fun hm => s.ne_new n hm rfl, s.rs_new n⟩, RVs.ext s (fresh_ext n) _ _ r⟩
theorem _root_.L2.PE.imp {X : Cx} {e : Expr} {t t' : TE} (h : PE X e t) (k : ∀ σ H Q, t' σ H Q → t σ H Q) : PE X e t' := ⟨fun pins s σ H Q I hw => h.run pins s σ H Q I (k σ H Q hw)⟩
theorem _root_.L2.PT.imp {X : Cx} {e : Expr} {t t' : TT} (h : PT X e t) (k : ∀ σ H Q, t' σ H Q → t σ H Q) : PT X e t' := ⟨fun pins s σ H Q I hw => h.run pins s σ H Q I (k σ H Q hw)⟩
theorem _root_.L2.PW.imp {X : Cx} {e : Expr} {t t' : TT} (h : PW X e t) (k : ∀ σ H Q, t' σ H Q → t σ H Q) : PW X e t' := ⟨fun wh pins s σ H Q I hw => h.run wh pins s σ H Q I (k σ H Q hw)⟩
theorem _root_.L2.PA.imp {X : Cx} {e : List Expr} {t t' : TA} (h : PA X e t) (k : ∀ σ H Q, t' σ H Q → t σ H Q) : PA X e t' := ⟨fun p pins s σ H Q I hw => h.run p pins s σ H Q I (k σ H Q hw)⟩
theorem _root_.L2.PS.imp {X : Cx} {e : Stmt} {t t' : TS} (h : PS X e t) (k : ∀ D σ H, t' D σ H → t D σ H) : PS X e t' := ⟨fun pins s σ H D I hw => h.run pins s σ H D I (k D σ H hw)⟩
theorem _root_.L2.PSs.imp {X : Cx} {e : List Stmt} {t t' : TS} (h : PSs X e t) (k : ∀ D σ H, t' D σ H → t D σ H) : PSs X e t' := ⟨fun pins s σ H D I hw => h.run pins s σ H D I (k D σ H hw)⟩
end

/-! ### the pieces of programs -/
def mvar (i : Nat) : M Val := fun sl μ => match sl[i]? with
  | some (some v) => .ok v μ
  | _ => .stuck
def mcst (v : Val) : M Val := fun _ μ => .ok v μ
/-- in a row -/
def andThen {α β : Type} (m : M α) (f : α → M β) : M β := fun sl μ => match m sl μ with
  | .ok a μ' => f a sl μ'
  | .exc e μ' => .exc e μ'
  | .stuck => .stuck
def mop2 (g : Val → Val → Mu → Res Val) (a b : M Val) : M Val := andThen a fun x => andThen b fun y => fun _ μ => g x y μ
def mop1 (g : Val → Mu → Res Val) (a : M Val) : M Val := andThen a fun x => fun _ μ => g x μ
def mimm (m : M (List Val)) : M Val := andThen m fun vs => fun _ μ => .ok (.lst vs) μ
def mmut (m : M (List Val)) : M Val := andThen m fun vs => fun _ μ => .ok (.ref μ.length) (μ ++ [.lst vs])

section
variable {c : Ct} {W : WX} {X : Cx} {a b : Expr} {ma mb : M Val} {pos : Pos}
/-- from a reading to what follows in a row -/
theorem te_then {β : Type} {w : Wd} {sl : Sl} {σ : St} {f : Val → M β} {R : Wd → Res β → Prop} {m : M Val}
    (hs : Sim c w) (hsl : RSl c w sl σ)
    (hexc : ∀ e μ', R w (.exc e μ') → ∀ w', w'.μ = μ' → Ext w w' → Sim c w' → ∀ cls d, RX c w' e cls d → W cls d σ w'.H)
    (hstuck : ¬ R w .stuck)
    (h : R w (andThen m f sl w.μ)) {K : VK}
    (k : ∀ v w', Ext w w' → Sim c w' → RSl c w' sl σ → R w (f v sl w'.μ) → ∀ x, RV c w' v x → K x w'.H) : TE' c W m σ w.H K := by
  refine ⟨w, sl, rfl, hs, hsl, ?_⟩
  unfold andThen at h
  cases e : m sl w.μ with
  | ok v μ' =>
    rw [e] at h
    intro w' hμ ext sim x rx
    subst hμ
    exact k v w' ext sim (hsl.ext hs ext) h x rx
  | exc x μ' =>
    rw [e] at h
    exact fun w' hμ ext sim cls d r => hexc x μ' h w' hμ ext sim cls d r
  | stuck => rw [e] at h; exact absurd h hstuck
theorem exc_post {w : Wd} {Q : VK} {σ : St} : ∀ e μ', Post c w (.exc e μ') Q (fun cls d H' => W cls d σ H') → ∀ w', w'.μ = μ' → Ext w w' → Sim c w' → ∀ cls d, RX c w' e cls d → W cls d σ w'.H := fun _ _ h => h
end
section
variable {c : Ct} {W : WX} {X : Cx} {a b : Expr} {ma mb : M Val} {pos : Pos}
theorem ge_var {i : Nat} {x : Str} (hN : X.N[i]? = some x) (hv : Vis X.env.scope x) (hd : (x == ("__debug__" : Str)) = false := by decide) (hcd : (x == ("__classdict__" : Str)) = false := by decide) : PE X (.Name x pos) (TE' c W (mvar i)) := by
  refine (pe_var hN hv hd hcd).imp fun σ H Q ⟨w, sl, e, s, rs, h⟩ => ?_
  subst e
  unfold mvar at h
  cases q : sl[i]? with
  | none => rw [q] at h; exact h.elim
  | some o =>
    cases o with
    | none => rw [q] at h; exact h.elim
    | some v =>
      rw [q] at h
      obtain ⟨y, h1, h2⟩ := rs.get q
      exact ⟨y, h1, h.here s h2⟩
theorem ge_cst {e : Expr} {v : Val} {x : V} (h : PE X e (tC x)) (r : ∀ w, RV c w v x) : PE X e (TE' c W (mcst v)) := by
  refine h.imp fun σ H Q ⟨w, sl, e, s, rs, h⟩ => ?_
  subst e
  exact h.here s (r w)
theorem ge_int {i j} : PE X (.Constant (.int i) j pos) (TE' c W (mcst (.int i))) := ge_cst pe_int fun _ => rfl
theorem ge_bl {b j} : PE X (.Constant (.bool b) j pos) (TE' c W (mcst (.bl b))) := ge_cst pe_bl fun _ => rfl
theorem ge_non {j} : PE X (.Constant .none j pos) (TE' c W (mcst .non)) := ge_cst pe_non fun _ => rfl
theorem ge_str {x j} : PE X (.Constant (.str x) j pos) (TE' c W (mcst (.str x))) := ge_cst pe_str fun _ => rfl

/-! ### operators -/
/-- an operator by values -/
def OpG (c : Ct) (X : Cx) (f : Value → Value → PySem.Sem Value) (g : Val → Val → Mu → Res Val) : Prop :=
  OpR X f fun x y H Q => ∃ w a b, w.H = H ∧ Sim c w ∧ RV c w a x ∧ RV c w b y ∧ Post c w (g a b w.μ) Q fun _ _ _ => False
/-- g never raises -/
def NoExc2 (g : Val → Val → Mu → Res Val) : Prop := ∀ a b μ e μ', g a b μ ≠ .exc e μ'
theorem Post.noexc {w : Wd} {r : Res Val} {Q : VK} {E E' : XK} (h : Post c w r Q E) (n : ∀ e μ', r ≠ .exc e μ') : Post c w r Q E' := by
  cases r with
  | ok v μ => exact h
  | exc e μ => exact absurd rfl (n e μ)
  | stuck => exact h
theorem lift2 {g : Val → Val → Mu → Res Val} (n : NoExc2 g) {σ : St} {H : Hp} {Q : VK} (h : TE' c W (mop2 g ma mb) σ H Q) :
    TE' c W ma σ H fun x H1 => TE' c W mb σ H1 fun y H2 => ∃ w a b, w.H = H2 ∧ Sim c w ∧ RV c w a x ∧ RV c w b y ∧ Post c w (g a b w.μ) Q fun _ _ _ => False := by
  obtain ⟨w, sl, e, s, rs, h⟩ := h
  subst e
  refine te_then (R := fun w r => Post c w r Q fun cls d H' => W cls d σ H') s rs exc_post (fun z => z) h fun v w1 e1 s1 rs1 h1 x rx => ?_
  have h1 := h1.ext e1
  refine te_then (R := fun w r => Post c w r Q fun cls d H' => W cls d σ H') s1 rs1 exc_post (fun z => z) h1 fun u w2 e2 s2 rs2 h2 y ry => ?_
  exact ⟨w2, v, u, rfl, s2, RV.ext s1 e2 _ _ rx, ry, (h2.ext e2).noexc (n _ _ _)⟩
theorem ge_op {op : Operator} {g : Val → Val → Mu → Res Val} (ho : OpG c X (binaryOp op) g) (n : NoExc2 g) (ha : PE X a (TE' c W ma)) (hb : PE X b (TE' c W mb)) : PE X (.BinOp a op b pos) (TE' c W (mop2 g ma mb)) :=
  (pe_op ho ha hb).imp fun _ _ _ h => lift2 n h
theorem ge_cmp {op : CmpOp} {g : Val → Val → Mu → Res Val} (ho : OpG c X (compareOp op) g) (n : NoExc2 g) (ha : PE X a (TE' c W ma)) (hb : PE X b (TE' c W mb)) (hm : behindInMarks op b = false) : PE X (.Compare a [op] [b] pos) (TE' c W (mop2 g ma mb)) :=
  (pe_cmpR ho ha hb hm).imp fun _ _ _ h => lift2 n h
end
end G

/-! G3: operators by values. -/
namespace G
open PySem PySem.Spec PyProof.Rows L2

def LIM : Nat := 16777216
theorem LIM_eq : LIM = sizeLine := by rw [sizeLine_eq]; rfl

/-! ### data -/
mutual
def toD : Val → PyData
  | .non => .none
  | .bl b => .bool b
  | .int i => .int i
  | .str s => .str s
  | .tup xs => .tuple (toDs xs)
  | .lst xs => .list (toDs xs)
  | .rol _ => .none
  | .ref _ => .none
  | .fn _ => .none
  | .ty _ => .none
  | .dct _ _ => .none
def toDs : List Val → List PyData
  | [] => []
  | x :: xs => toD x :: toDs xs
end
mutual
/-- data: its depth, if it is data -/
def dep : Val → Option Nat
  | .non => some 0
  | .bl _ => some 0
  | .int _ => some 0
  | .str s => if PyData.strOk s then some 0 else none
  | .tup xs => (deps xs).map (· + 1)
  | .lst xs => (deps xs).map (· + 1)
  | .rol _ => none
  | .ref _ => none
  | .fn _ => none
  | .ty _ => none
  | .dct _ _ => none
def deps : List Val → Option Nat
  | [] => some 0
  | x :: xs => match dep x, deps xs with
    | some a, some b => some (max a b)
    | _, _ => none
end
/-- data at most 60 deep -/
def shp (x : Val) : Bool := match dep x with
  | some n => decide (n ≤ 60)
  | none => false
mutual
def veq : Val → Val → Bool
  | .non, .non => true
  | .bl a, .bl b => a == b
  | .bl a, .int j => (if a then 1 else 0) == j
  | .int i, .bl b => i == (if b then 1 else 0)
  | .int i, .int j => i == j
  | .str x, .str y => x == y
  | .lst xs, .lst ys => veqs xs ys
  | .tup xs, .tup ys => veqs xs ys
  | _, _ => false
def veqs : List Val → List Val → Bool
  | [], [] => true
  | x :: xs, y :: ys => veq x y && veqs xs ys
  | _, _ => false
end
mutual
theorem dep_lay : ∀ (x : Val) (n : Nat), dep x = some n → (toD x).canLay0 = true ∧ (toD x).depth ≤ n
  | .non, n, h => ⟨rfl, Nat.zero_le _⟩
  | .bl _, n, h => ⟨rfl, Nat.zero_le _⟩
  | .int _, n, h => ⟨rfl, Nat.zero_le _⟩
  | .str s, n, h => by
    simp only [dep] at h
    split at h
    · rename_i hs
      exact ⟨by simp only [toD, PyData.canLay0]; exact hs, Nat.zero_le _⟩
    · cases h
  | .tup xs, n, h => by
    simp only [dep, Option.map_eq_some_iff] at h
    obtain ⟨m, h, e⟩ := h
    have := deps_lay xs m h
    simp only [toD, PyData.canLay0, PyData.depth]
    exact ⟨this.1, by omega⟩
  | .lst xs, n, h => by
    simp only [dep, Option.map_eq_some_iff] at h
    obtain ⟨m, h, e⟩ := h
    have := deps_lay xs m h
    simp only [toD, PyData.canLay0, PyData.depth]
    exact ⟨this.1, by omega⟩
  | .rol _, n, h => nomatch h
  | .ref _, n, h => nomatch h
  | .fn _, n, h => nomatch h
  | .ty _, n, h => nomatch h
  | .dct _ _, n, h => nomatch h
theorem deps_lay : ∀ (xs : List Val) (n : Nat), deps xs = some n → PyData.canLayAll0 (toDs xs) = true ∧ PyData.depthAll (toDs xs) ≤ n
  | [], n, h => ⟨rfl, Nat.zero_le _⟩
  | x :: xs, n, h => by
    simp only [deps] at h
    cases e1 : dep x with
    | none => rw [e1] at h; cases h
    | some a =>
      cases e2 : deps xs with
      | none => rw [e1, e2] at h; cases h
      | some b =>
        rw [e1, e2] at h
        cases h
        have h1 := dep_lay x a e1
        have h2 := deps_lay xs b e2
        simp only [toDs, PyData.canLayAll0, PyData.depthAll, h1.1, h2.1]
        exact ⟨rfl, by omega⟩
end
theorem shp_shaped {x : Val} (h : shp x = true) : SeqAt.shaped (toD x) = true := by
  unfold shp at h
  cases e : dep x with
  | none => rw [e] at h; cases h
  | some n =>
    rw [e] at h
    have := dep_lay x n e
    have h := of_decide_eq_true h
    unfold SeqAt.shaped
    rw [this.1, Bool.true_and]
    exact decide_eq_true (by omega)
mutual
theorem eqv_veq : ∀ (x y : Val) (n m : Nat), dep x = some n → dep y = some m → PyData.eqv (toD x) (toD y) = veq x y
  | .tup xs, y, n, m, hx, hy => by
    simp only [dep, Option.map_eq_some_iff] at hx
    obtain ⟨k, hx, _⟩ := hx
    cases y with
    | tup ys =>
      simp only [dep, Option.map_eq_some_iff] at hy
      obtain ⟨k', hy, _⟩ := hy
      simp only [toD, PyData.eqv, veq]
      exact eqvs_veqs xs ys k k' hx hy
    | _ => first | (simp [toD, PyData.eqv, veq]; done) | cases hy
  | .lst xs, y, n, m, hx, hy => by
    simp only [dep, Option.map_eq_some_iff] at hx
    obtain ⟨k, hx, _⟩ := hx
    cases y with
    | lst ys =>
      simp only [dep, Option.map_eq_some_iff] at hy
      obtain ⟨k', hy, _⟩ := hy
      simp only [toD, PyData.eqv, veq]
      exact eqvs_veqs xs ys k k' hx hy
    | _ => first | (simp [toD, PyData.eqv, veq]; done) | cases hy
  | .non, y, _, _, _, hy => by cases y <;> first | (simp [toD, PyData.eqv, veq]; done) | cases hy
  | .bl _, y, _, _, _, hy => by cases y <;> first | (simp [toD, PyData.eqv, veq]; done) | cases hy
  | .int _, y, _, _, _, hy => by cases y <;> first | (simp [toD, PyData.eqv, veq]; done) | cases hy
  | .str _, y, _, _, _, hy => by cases y <;> first | (simp [toD, PyData.eqv, veq]; done) | cases hy
  | .rol _, _, _, _, h, _ => nomatch h
  | .ref _, _, _, _, h, _ => nomatch h
  | .fn _, _, _, _, h, _ => nomatch h
  | .ty _, _, _, _, h, _ => nomatch h
  | .dct _ _, _, _, _, h, _ => nomatch h
theorem eqvs_veqs : ∀ (xs ys : List Val) (n m : Nat), deps xs = some n → deps ys = some m → PyData.eqvAll (toDs xs) (toDs ys) = veqs xs ys
  | [], [], _, _, _, _ => by simp [toDs, PyData.eqvAll, veqs]
  | [], _ :: _, _, _, _, _ => by simp [toDs, PyData.eqvAll, veqs]
  | _ :: _, [], _, _, _, _ => by simp [toDs, PyData.eqvAll, veqs]
  | x :: xs, y :: ys, n, m, hx, hy => by
    simp only [deps] at hx hy
    cases e1 : dep x with
    | none => rw [e1] at hx; cases hx
    | some a =>
      cases e2 : deps xs with
      | none => rw [e1, e2] at hx; cases hx
      | some b =>
        cases e3 : dep y with
        | none => rw [e3] at hy; cases hy
        | some a' =>
          cases e4 : deps ys with
          | none => rw [e3, e4] at hy; cases hy
          | some b' =>
            simp only [toDs, PyData.eqvAll, veqs, eqv_veq x y a a' e1 e3, eqvs_veqs xs ys b b' e2 e4]
end
theorem shp_dep {x : Val} (h : shp x = true) : ∃ n, dep x = some n := by
  unfold shp at h
  cases e : dep x with
  | none => rw [e] at h; cases h
  | some n => exact ⟨n, rfl⟩
theorem eqv_of_shp {x y : Val} (hx : shp x = true) (hy : shp y = true) : PyData.eqv (toD x) (toD y) = veq x y := by
  obtain ⟨n, hn⟩ := shp_dep hx
  obtain ⟨m, hm⟩ := shp_dep hy
  exact eqv_veq x y n m hn hm
section
variable {c : Ct} {w : Wd}
mutual
theorem RV.dp : ∀ (x : Val) (v : V) (n : Nat), RV c w x v → dep x = some n → Dp c.K w.H v (toD x)
  | .non, _, _, h, _ => by rw [show _ = V.non from h]; exact .non
  | .bl b, _, _, h, _ => by rw [show _ = V.bl b from h]; exact .bl b
  | .int b, _, _, h, _ => by rw [show _ = V.int b from h]; exact .int b
  | .str b, _, _, h, _ => by rw [show _ = V.str b from h]; exact .str b
  | .tup xs, _, n, ⟨a, ys, e, h, r⟩, hd => by
    simp only [dep, Option.map_eq_some_iff] at hd
    obtain ⟨k, hd, _⟩ := hd
    subst e
    exact .tup h (RVs.dp xs ys k r hd)
  | .lst xs, _, n, ⟨a, ys, e, h, r⟩, hd => by
    simp only [dep, Option.map_eq_some_iff] at hd
    obtain ⟨k, hd, _⟩ := hd
    subst e
    exact .lst h.sq (RVs.dp xs ys k r hd)
  | .rol _, _, _, _, h => nomatch h
  | .ref _, _, _, _, h => nomatch h
  | .fn _, _, _, _, h => nomatch h
  | .ty _, _, _, _, h => nomatch h
  | .dct _ _, _, _, _, h => nomatch h
theorem RVs.dp : ∀ (xs : List Val) (ys : List V) (n : Nat), RVs c w xs ys → deps xs = some n → DpAll c.K w.H ys (toDs xs)
  | [], _, _, h, _ => by rw [show _ = [] from h]; exact .nil
  | x :: xs, _, n, ⟨y, r, e, h1, h2⟩, hd => by
    simp only [deps] at hd
    cases e1 : dep x with
    | none => rw [e1] at hd; cases hd
    | some a =>
      cases e2 : deps xs with
      | none => rw [e1, e2] at hd; cases hd
      | some b =>
        subst e
        exact .cons (RV.dp x y a h1 e1) (RVs.dp xs r b h2 e2)
end
/-- what is at hand, as data -/
theorem look_dp {x : Val} {v : V} (s : Sim c w) (r : RV c w x v) (h : shp (look w.μ x) = true) : Dp c.K w.H v (toD (look w.μ x)) := by
  obtain ⟨n, hn⟩ := shp_dep h
  cases e : look w.μ x with
  | lst xs =>
    obtain ⟨a, ys, e1, h1, h2⟩ := look_lst s r e
    rw [e] at hn
    simp only [dep, Option.map_eq_some_iff] at hn
    obtain ⟨k, hn, _⟩ := hn
    subst e1
    exact .lst h1 (RVs.dp xs ys k h2 hn)
  | tup xs =>
    obtain ⟨a, ys, e1, h1, h2⟩ := look_tup s r e
    rw [e] at hn
    simp only [dep, Option.map_eq_some_iff] at hn
    obtain ⟨k, hn, _⟩ := hn
    subst e1
    exact .tup h1 (RVs.dp xs ys k h2 hn)
  | int i => rw [look_int r e]; exact .int i
  | bl i => rw [look_bl r e]; exact .bl i
  | str i => rw [look_str r e]; exact .str i
  | non =>
    cases x with
    | non => rw [show v = V.non from r]; exact .non
    | ref n => simp only [look] at e; split at e <;> cases e
    | _ => cases e
  | rol _ => rw [e] at hn; cases hn
  | ref _ => rw [e] at hn; cases hn
  | fn _ => rw [e] at hn; cases hn
  | ty _ => rw [e] at hn; cases hn
  | dct _ _ => rw [e] at hn; cases hn
end

/-! ### ==, != -/
def vEq (x y : Val) (μ : Mu) : Res Val := if shp (look μ x) && shp (look μ y) then .ok (.bl (veq (look μ x) (look μ y))) μ else .stuck
def vNe (x y : Val) (μ : Mu) : Res Val := if shp (look μ x) && shp (look μ y) then .ok (.bl (!veq (look μ x) (look μ y))) μ else .stuck
theorem nx_Eq : NoExc2 vEq := fun a b μ e μ' h => by unfold vEq at h; split at h <;> cases h
theorem nx_Ne : NoExc2 vNe := fun a b μ e μ' h => by unfold vNe at h; split at h <;> cases h
section
variable {c : Ct} {X : Cx}
/-- room that every call leaves -/
theorem og_Eq (hK : X.K = c.K) (hu : X.A.units + 64 < cLine) : OpG c X (compareOp .Eq) vEq := by
  intro pins s σ H x y v u Q I rx ry ⟨w, a, b, e, sm, r1, r2, h⟩
  subst e
  unfold vEq at h
  split at h
  · rename_i hs
    obtain ⟨h1, h2⟩ := Bool.and_eq_true_iff.mp hs
    refine op_eqD hu pins s σ w.H x y v u Q I rx ry ⟨_, _, by rw [hK]; exact look_dp sm r1 h1, by rw [hK]; exact look_dp sm r2 h2, shp_shaped h1, shp_shaped h2, ?_⟩
    rw [eqv_of_shp h1 h2]
    exact h.here sm rfl
  · exact h.elim
theorem og_Ne (hK : X.K = c.K) (hu : X.A.units + 64 < cLine) : OpG c X (compareOp .NotEq) vNe := by
  intro pins s σ H x y v u Q I rx ry ⟨w, a, b, e, sm, r1, r2, h⟩
  subst e
  unfold vNe at h
  split at h
  · rename_i hs
    obtain ⟨h1, h2⟩ := Bool.and_eq_true_iff.mp hs
    refine op_neD hu pins s σ w.H x y v u Q I rx ry ⟨_, _, by rw [hK]; exact look_dp sm r1 h1, by rw [hK]; exact look_dp sm r2 h2, shp_shaped h1, shp_shaped h2, ?_⟩
    rw [eqv_of_shp h1 h2]
    exact h.here sm rfl
  · exact h.elim

/-! ### + - * // % -/
def vAdd (x y : Val) (μ : Mu) : Res Val := match look μ x, look μ y with
  | .int i, .int j => .ok (.int (i + j)) μ
  | .int i, .bl k => .ok (.int (i + b2i k)) μ
  | .str s, .str t => if s.length + t.length ≤ LIM then .ok (.str (s ++ t)) μ else .stuck
  | .tup a, .tup b => if a.length + b.length ≤ LIM then .ok (.tup (a ++ b)) μ else .stuck
  | _, _ => .stuck
def vSub (x y : Val) (μ : Mu) : Res Val := match x, y with
  | .int i, .int j => .ok (.int (i - j)) μ
  | _, _ => .stuck
def vMul (x y : Val) (μ : Mu) : Res Val := match x, y with
  | .int i, .int j => if (-(2 ^ 64) < i ∧ i < 2 ^ 64) ∨ (-(2 ^ 64) < j ∧ j < 2 ^ 64) then .ok (.int (i * j)) μ else .stuck
  | _, _ => .stuck
def vFdiv (x y : Val) (μ : Mu) : Res Val := match x, y with
  | .int i, .int j => if j ≠ 0 ∧ j.natAbs < 1073741824 then .ok (.int (i.fdiv j)) μ else .stuck
  | _, _ => .stuck
def vMod (x y : Val) (μ : Mu) : Res Val := match x, y with
  | .int i, .int j => if j ≠ 0 then .ok (.int (i.fmod j)) μ else .stuck
  | _, _ => .stuck
theorem nx_Add : NoExc2 vAdd := fun a b μ e μ' h => by unfold vAdd at h; split at h <;> first | cases h | (split at h <;> cases h)
theorem nx_Sub : NoExc2 vSub := fun a b μ e μ' h => by unfold vSub at h; split at h <;> cases h
theorem nx_Mul : NoExc2 vMul := fun a b μ e μ' h => by unfold vMul at h; split at h <;> first | cases h | (split at h <;> cases h)
theorem nx_Fdiv : NoExc2 vFdiv := fun a b μ e μ' h => by unfold vFdiv at h; split at h <;> first | cases h | (split at h <;> cases h)
theorem nx_Mod : NoExc2 vMod := fun a b μ e μ' h => by unfold vMod at h; split at h <;> first | cases h | (split at h <;> cases h)
theorem og_Add (hK : X.K = c.K) : OpG c X (binaryOp .Add) vAdd := by
  intro pins s σ H x y v u Q I rx ry ⟨w, a, b, e, sm, r1, r2, h⟩
  subst e
  unfold vAdd at h
  split at h
  · rename_i i j e1 e2
    exact op_add pins s σ w.H x y v u Q I rx ry ⟨i, j, look_int r1 e1, look_int r2 e2, h.here sm rfl⟩
  · rename_i i j e1 e2
    exact op_add_ib pins s σ w.H x y v u Q I rx ry ⟨i, j, look_int r1 e1, look_bl r2 e2, h.here sm rfl⟩
  · rename_i i j e1 e2
    split at h
    · rename_i hl
      exact op_add_str pins s σ w.H x y v u Q I rx ry ⟨i, j, look_str r1 e1, look_str r2 e2, by rw [← LIM_eq]; exact hl, h.here sm rfl⟩
    · exact h.elim
  · rename_i i j e1 e2
    split at h
    · rename_i hl
      obtain ⟨p, xs, f1, f2, f3⟩ := look_tup sm r1 e1
      obtain ⟨q, ys, g1, g2, g3⟩ := look_tup sm r2 e2
      refine op_catA pins s σ w.H x y v u Q I rx ry ⟨p, q, xs, ys, f1, g1, by rw [hK]; exact f2, by rw [hK]; exact g2, by rw [← LIM_eq, ← f3.length, ← g3.length]; exact hl, fun z => ?_, fun z1 z2 => ?_, fun _ _ r n => ?_⟩
      · subst z
        have : i = [] := List.eq_nil_of_length_eq_zero f3.length
        subst this
        exact h.here sm ⟨q, ys, rfl, g2, g3⟩
      · subst z2
        have : j = [] := List.eq_nil_of_length_eq_zero g3.length
        subst this
        rw [List.append_nil] at h
        exact h.here sm ⟨p, xs, rfl, f2, f3⟩
      · exact h.tup sm (f3.append g3) n
    · exact h.elim
  · exact h.elim
theorem og_Sub : OpG c X (binaryOp .Sub) vSub := by
  intro pins s σ H x y v u Q I rx ry ⟨w, a, b, e, sm, r1, r2, h⟩
  subst e
  unfold vSub at h
  split at h
  · rename_i i j
    exact op_sub pins s σ w.H x y v u Q I rx ry ⟨i, j, r1, r2, h.here sm rfl⟩
  · exact h.elim
theorem og_Mul : OpG c X (binaryOp .Mult) vMul := by
  intro pins s σ H x y v u Q I rx ry ⟨w, a, b, e, sm, r1, r2, h⟩
  subst e
  unfold vMul at h
  split at h
  · rename_i i j
    split at h
    · rename_i hc
      exact op_mul pins s σ w.H x y v u Q I rx ry ⟨i, j, r1, r2, hc, h.here sm rfl⟩
    · exact h.elim
  · exact h.elim
theorem og_Fdiv : OpG c X (binaryOp .FloorDiv) vFdiv := by
  intro pins s σ H x y v u Q I rx ry ⟨w, a, b, e, sm, r1, r2, h⟩
  subst e
  unfold vFdiv at h
  split at h
  · rename_i i j
    split at h
    · rename_i hc
      exact op_fdivN pins s σ w.H x y v u Q I rx ry ⟨i, j, r1, r2, hc, h.here sm rfl⟩
    · exact h.elim
  · exact h.elim
theorem og_Mod : OpG c X (binaryOp .Mod) vMod := by
  intro pins s σ H x y v u Q I rx ry ⟨w, a, b, e, sm, r1, r2, h⟩
  subst e
  unfold vMod at h
  split at h
  · rename_i i j
    split at h
    · rename_i hc
      exact op_modN pins s σ w.H x y v u Q I rx ry ⟨i, j, r1, r2, hc, h.here sm rfl⟩
    · exact h.elim
  · exact h.elim
end
end G

/-! G4: tests, and, or, displays, subscripts, slices. -/
namespace G
open PySem PySem.Spec PyProof.Rows L2

/-! ### truth -/
def vtruth (μ : Mu) (v : Val) : Option Bool := match look μ v with
  | .non => some false
  | .bl b => some b
  | .int i => some (i != 0)
  | .str s => if s.length ≤ LIM then some ((s.length : Int) != 0) else none
  | .lst xs => some !xs.isEmpty
  | .tup xs => some !xs.isEmpty
  | _ => none
section
variable {c : Ct} {w : Wd}
theorem RVs.isEmpty {xs : List Val} {ys : List V} (h : RVs c w xs ys) : xs.isEmpty = ys.isEmpty := by
  have := h.length
  cases xs <;> cases ys <;> simp at this ⊢
theorem vtruth_tru {x : Val} {v : V} {k : Bool} (s : Sim c w) (r : RV c w x v) (h : vtruth w.μ x = some k) : TruV c.K v w.H k := by
  unfold vtruth at h
  split at h
  · rename_i e
    cases h
    have : v = .non := by
      cases x with
      | non => exact r
      | ref n => simp only [look] at e; split at e <;> cases e
      | _ => cases e
    subst this; exact (rfl : false = false)
  · rename_i e; cases h; rw [look_bl r e]; exact (rfl : k = k)
  · rename_i e; cases h; rw [look_int r e]; exact rfl
  · rename_i e
    split at h
    · rename_i hl; cases h; rw [look_str r e]; exact ⟨by rw [← LIM_eq]; exact hl, rfl⟩
    · cases h
  · rename_i e
    cases h
    obtain ⟨a, ys, e1, h1, h2⟩ := look_lst s r e
    subst e1
    exact .inl ⟨ys, h1, by rw [h2.isEmpty]⟩
  · rename_i e
    cases h
    obtain ⟨a, ys, e1, h1, h2⟩ := look_tup s r e
    subst e1
    exact .inr (.inl ⟨ys, h1, by rw [h2.isEmpty]⟩)
  · cases h
end
def mtruth (m : M Val) : M Bool := andThen m fun v => fun _ μ => match vtruth μ v with
  | some b => .ok b μ
  | none => .stuck
def tand (a b : M Bool) : M Bool := andThen a fun k => if k then b else fun _ μ => .ok false μ
def tor (a b : M Bool) : M Bool := andThen a fun k => if k then fun _ μ => .ok true μ else b
def tnot (a : M Bool) : M Bool := andThen a fun k => fun _ μ => .ok (!k) μ
def tife (t a b : M Bool) : M Bool := andThen t fun k => if k then a else b
def mife (t : M Bool) (a b : M Val) : M Val := andThen t fun k => if k then a else b
def mnot (a : M Val) : M Val := andThen a fun v => fun _ μ => match vtruth μ v with
  | some b => .ok (.bl (!b)) μ
  | none => .stuck
def mand (a b : M Val) : M Val := andThen a fun v => fun sl μ => match vtruth μ v with
  | some true => b sl μ
  | some false => .ok v μ
  | none => .stuck
def mor (a b : M Val) : M Val := andThen a fun v => fun sl μ => match vtruth μ v with
  | some true => .ok v μ
  | some false => b sl μ
  | none => .stuck

section
variable {c : Ct} {W : WX} {X : Cx} {a b e : Expr} {ma mb m : M Val} {ta tb t : M Bool} {pos : Pos} {rest : List Expr}
theorem excB_post {w : Wd} {Q : Bool → Hp → Prop} {σ : St} : ∀ e μ', PostB c w (.exc e μ') Q (fun cls d H' => W cls d σ H') → ∀ w', w'.μ = μ' → Ext w w' → Sim c w' → ∀ cls d, RX c w' e cls d → W cls d σ w'.H := fun _ _ h => h
/-- from a test to what follows in a row -/
theorem tt_then {β : Type} {w : Wd} {sl : Sl} {σ : St} {f : Bool → M β} {R : Wd → Res β → Prop} {m : M Bool}
    (hs : Sim c w) (hsl : RSl c w sl σ)
    (hexc : ∀ e μ', R w (.exc e μ') → ∀ w', w'.μ = μ' → Ext w w' → Sim c w' → ∀ cls d, RX c w' e cls d → W cls d σ w'.H)
    (hstuck : ¬ R w .stuck)
    (h : R w (andThen m f sl w.μ)) {K : Bool → Hp → Prop}
    (k : ∀ v w', Ext w w' → Sim c w' → RSl c w' sl σ → R w (f v sl w'.μ) → K v w'.H) : TT' c W m σ w.H K := by
  refine ⟨w, sl, rfl, hs, hsl, ?_⟩
  unfold andThen at h
  cases e : m sl w.μ with
  | ok v μ' =>
    rw [e] at h
    intro w' hμ ext sim
    subst hμ
    exact k v w' ext sim (hsl.ext hs ext) h
  | exc x μ' =>
    rw [e] at h
    exact fun w' hμ ext sim cls d r => hexc x μ' h w' hμ ext sim cls d r
  | stuck => rw [e] at h; exact absurd h hstuck
/-- a value's truth as a test; he: by intro _; rfl -/
theorem gt_truth (hK : X.K = c.K) (ha : PE X a (TE' c W ma)) (he : ∀ whole, isTrue a X.env whole = (do let v ← whole; standAt a.pos; holding [v] (truthy v))) : PT X a (TT' c W (mtruth ma)) := by
  refine (pt_truth ha he).imp fun σ H Q ⟨w, sl, e, s, rs, h⟩ => ?_
  subst e
  refine te_then (R := fun w r => PostB c w r Q fun cls d H' => W cls d σ H') s rs excB_post (fun z => z) h fun v w1 e1 s1 rs1 h1 x rx => ?_
  cases q : vtruth w1.μ v with
  | none => rw [q] at h1; exact h1.elim
  | some k =>
    rw [q] at h1
    exact ⟨k, by rw [hK]; exact vtruth_tru s1 rx q, h1 w1 rfl e1 s1⟩
/-- a comparison's answer as a test: it is a bool -/
theorem gt_bool {t0 : TE} (h : PT X a (tTest t0)) (k : ∀ σ H Q, TE' c W ma σ H Q → t0 σ H Q) : PT X a (TT' c W (mtruth (andThen ma fun v => fun _ μ => match v with | .bl b => .ok (.bl b) μ | _ => .stuck))) := by
  refine h.imp fun σ H Q ⟨w, sl, e, s, rs, h⟩ => k σ H _ ?_
  subst e
  refine ⟨w, sl, rfl, s, rs, ?_⟩
  unfold mtruth andThen at h
  cases q : ma sl w.μ with
  | ok v μ' =>
    rw [q] at h
    intro w' hμ ext sim x rx
    cases v with
    | bl b =>
      subst hμ
      exact ⟨b, rx, h w' rfl ext sim⟩
    | _ => exact h.elim
  | exc x μ' =>
    rw [q] at h
    exact h
  | stuck => rw [q] at h; exact h.elim
/-- .. with the answer taken as it is -/
def mbool (m : M Val) : M Bool := andThen m fun v => fun _ μ => match v with
  | .bl b => .ok b μ
  | _ => .stuck
theorem gt_bool' {t0 : TE} (h : PT X a (tTest t0)) (k : ∀ σ H Q, TE' c W ma σ H Q → t0 σ H Q) : PT X a (TT' c W (mbool ma)) := by
  refine h.imp fun σ H Q ⟨w, sl, e, s, rs, h⟩ => k σ H _ ?_
  subst e
  refine ⟨w, sl, rfl, s, rs, ?_⟩
  unfold mbool andThen at h
  cases q : ma sl w.μ with
  | ok v μ' =>
    rw [q] at h
    intro w' hμ ext sim x rx
    cases v with
    | bl b =>
      subst hμ
      exact ⟨b, rx, h w' rfl ext sim⟩
    | _ => exact h.elim
  | exc x μ' =>
    rw [q] at h
    exact h
  | stuck => rw [q] at h; exact h.elim
theorem gt_cmp {op : CmpOp} {g : Val → Val → Mu → Res Val} (ho : OpG c X (compareOp op) g) (n : NoExc2 g) (ha : PE X a (TE' c W ma)) (hb : PE X b (TE' c W mb)) (hm : behindInMarks op b = false) : PT X (.Compare a [op] [b] pos) (TT' c W (mbool (mop2 g ma mb))) :=
  gt_bool' (pt_cmpR ho ha hb hm) fun _ _ _ h => lift2 n h

/-! ### and, or, not, if else -/
theorem gw_and1 (ha : PT X a (TT' c W ta)) : PW X (.BoolOp .And [a] pos) (TT' c W ta) := pw_and1 ha
theorem gw_or1 (ha : PT X a (TT' c W ta)) : PW X (.BoolOp .Or [a] pos) (TT' c W ta) := pw_or1 ha
theorem gw_and (ha : PT X a (TT' c W ta)) (hb : PW X (.BoolOp .And (b :: rest) pos) (TT' c W tb)) : PW X (.BoolOp .And (a :: b :: rest) pos) (TT' c W (tand ta tb)) := by
  refine (pw_and ha hb).imp fun σ H Q ⟨w, sl, e, s, rs, h⟩ => ?_
  subst e
  refine tt_then (R := fun w r => PostB c w r Q fun cls d H' => W cls d σ H') s rs excB_post (fun z => z) h fun v w1 e1 s1 rs1 h1 => ?_
  cases v with
  | true => exact iteT ⟨w1, sl, rfl, s1, rs1, h1.ext e1⟩
  | false => exact iteF (h1 w1 rfl e1 s1)
theorem gw_or (ha : PT X a (TT' c W ta)) (hb : PW X (.BoolOp .Or (b :: rest) pos) (TT' c W tb)) : PW X (.BoolOp .Or (a :: b :: rest) pos) (TT' c W (tor ta tb)) := by
  refine (pw_or ha hb).imp fun σ H Q ⟨w, sl, e, s, rs, h⟩ => ?_
  subst e
  refine tt_then (R := fun w r => PostB c w r Q fun cls d H' => W cls d σ H') s rs excB_post (fun z => z) h fun v w1 e1 s1 rs1 h1 => ?_
  cases v with
  | false => exact iteF ⟨w1, sl, rfl, s1, rs1, h1.ext e1⟩
  | true => exact iteT (h1 w1 rfl e1 s1)
theorem gt_not (ha : PT X a (TT' c W ta)) : PT X (.UnaryOp .Not a pos) (TT' c W (tnot ta)) := by
  refine (pt_not ha).imp fun σ H Q ⟨w, sl, e, s, rs, h⟩ => ?_
  subst e
  refine tt_then (R := fun w r => PostB c w r Q fun cls d H' => W cls d σ H') s rs excB_post (fun z => z) h fun v w1 e1 s1 rs1 h1 => ?_
  exact h1 w1 rfl e1 s1
theorem pt_ifExp {t u v : TT} {x y z : Expr} (hx : PT X x t) (hy : PT X y u) (hz : PT X z v) : PT X (.IfExp x y z pos) (fun σ H Q => t σ H fun c H1 => if c = true then u σ H1 Q else v σ H1 Q) := by
  refine ⟨fun pins s σ H Q I h => ?_⟩
  show wpAny _ _ (isTrue x X.env (eval x X.env) >>= fun c => if c = true then isTrue y X.env (eval y X.env) else isTrue z X.env (eval z X.env)) _ _ _
  refine wpAny_bind (thn (hx.run pins s σ H _ I h) fun c s1 ⟨H1, I1, q1⟩ => ?_)
  cases c with
  | true => exact hy.run pins s1 σ H1 Q I1 q1
  | false => exact hz.run pins s1 σ H1 Q I1 q1
theorem gt_ife (ht : PT X e (TT' c W t)) (ha : PT X a (TT' c W ta)) (hb : PT X b (TT' c W tb)) : PT X (.IfExp e a b pos) (TT' c W (tife t ta tb)) := by
  refine (pt_ifExp ht ha hb).imp fun σ H Q ⟨w, sl, e, s, rs, h⟩ => ?_
  subst e
  refine tt_then (R := fun w r => PostB c w r Q fun cls d H' => W cls d σ H') s rs excB_post (fun z => z) h fun v w1 e1 s1 rs1 h1 => ?_
  cases v with
  | true => exact iteT ⟨w1, sl, rfl, s1, rs1, h1.ext e1⟩
  | false => exact iteF ⟨w1, sl, rfl, s1, rs1, h1.ext e1⟩
theorem ge_ife (ht : PT X e (TT' c W t)) (ha : PE X a (TE' c W ma)) (hb : PE X b (TE' c W mb)) : PE X (.IfExp e a b pos) (TE' c W (mife t ma mb)) := by
  refine (pe_ifExp ht ha hb).imp fun σ H Q ⟨w, sl, e, s, rs, h⟩ => ?_
  subst e
  refine tt_then (R := fun w r => Post c w r Q fun cls d H' => W cls d σ H') s rs exc_post (fun z => z) h fun v w1 e1 s1 rs1 h1 => ?_
  cases v with
  | true => exact iteT ⟨w1, sl, rfl, s1, rs1, h1.ext e1⟩
  | false => exact iteF ⟨w1, sl, rfl, s1, rs1, h1.ext e1⟩
theorem ge_not (hK : X.K = c.K) (ha : PE X a (TE' c W ma)) : PE X (.UnaryOp .Not a pos) (TE' c W (mnot ma)) := by
  refine (pe_notT ha).imp fun σ H Q ⟨w, sl, e, s, rs, h⟩ => ?_
  subst e
  refine te_then (R := fun w r => Post c w r Q fun cls d H' => W cls d σ H') s rs exc_post (fun z => z) h fun v w1 e1 s1 rs1 h1 x rx => ?_
  cases q : vtruth w1.μ v with
  | none => rw [q] at h1; exact h1.elim
  | some k =>
    rw [q] at h1
    exact ⟨k, by rw [hK]; exact vtruth_tru s1 rx q, (h1.ext e1).here s1 rfl⟩
theorem ge_one {op} (h : PE X a (TE' c W ma)) : PE X (.BoolOp op [a] pos) (TE' c W ma) := pe_one h
theorem ge_and (hK : X.K = c.K) (ha : PE X a (TE' c W ma)) (hb : PE X (.BoolOp .And (b :: rest) pos) (TE' c W mb)) : PE X (.BoolOp .And (a :: b :: rest) pos) (TE' c W (mand ma mb)) := by
  refine (pe_andT ha hb).imp fun σ H Q ⟨w, sl, e, s, rs, h⟩ => ?_
  subst e
  refine te_then (R := fun w r => Post c w r Q fun cls d H' => W cls d σ H') s rs exc_post (fun z => z) h fun v w1 e1 s1 rs1 h1 x rx => ?_
  cases q : vtruth w1.μ v with
  | none => rw [q] at h1; exact h1.elim
  | some k =>
    rw [q] at h1
    refine ⟨k, by rw [hK]; exact vtruth_tru s1 rx q, ?_⟩
    cases k with
    | true => exact iteT ⟨w1, sl, rfl, s1, rs1, h1.ext e1⟩
    | false => exact iteF ((h1.ext e1).here s1 rx)
theorem ge_or (hK : X.K = c.K) (ha : PE X a (TE' c W ma)) (hb : PE X (.BoolOp .Or (b :: rest) pos) (TE' c W mb)) : PE X (.BoolOp .Or (a :: b :: rest) pos) (TE' c W (mor ma mb)) := by
  refine (pe_orT ha hb).imp fun σ H Q ⟨w, sl, e, s, rs, h⟩ => ?_
  subst e
  refine te_then (R := fun w r => Post c w r Q fun cls d H' => W cls d σ H') s rs exc_post (fun z => z) h fun v w1 e1 s1 rs1 h1 x rx => ?_
  cases q : vtruth w1.μ v with
  | none => rw [q] at h1; exact h1.elim
  | some k =>
    rw [q] at h1
    refine ⟨k, by rw [hK]; exact vtruth_tru s1 rx q, ?_⟩
    cases k with
    | true => exact iteT ((h1.ext e1).here s1 rx)
    | false => exact iteF ⟨w1, sl, rfl, s1, rs1, h1.ext e1⟩

/-! ### argument lists, displays -/
def anil : M (List Val) := fun _ μ => .ok [] μ
def acons (a : M Val) (r : M (List Val)) : M (List Val) := andThen a fun v => andThen r fun vs => fun _ μ => .ok (v :: vs) μ
theorem excL_post {w : Wd} {Q : List V → Hp → Prop} {σ : St} : ∀ e μ', PostL c w (.exc e μ') Q (fun cls d H' => W cls d σ H') → ∀ w', w'.μ = μ' → Ext w w' → Sim c w' → ∀ cls d, RX c w' e cls d → W cls d σ w'.H := fun _ _ h => h
theorem ga_nil : PA X [] (TA' c W anil) := by
  refine pa_nil.imp fun σ H Q ⟨w, sl, e, s, rs, h⟩ => ?_
  subst e
  exact h w rfl (Ext.refl w) s [] rfl
/-- from an argument list to what follows -/
theorem ta_then {β : Type} {w : Wd} {sl : Sl} {σ : St} {f : List Val → M β} {R : Wd → Res β → Prop} {m : M (List Val)}
    (hs : Sim c w) (hsl : RSl c w sl σ)
    (hexc : ∀ e μ', R w (.exc e μ') → ∀ w', w'.μ = μ' → Ext w w' → Sim c w' → ∀ cls d, RX c w' e cls d → W cls d σ w'.H)
    (hstuck : ¬ R w .stuck)
    (h : R w (andThen m f sl w.μ)) {K : List V → Hp → Prop}
    (k : ∀ v w', Ext w w' → Sim c w' → RSl c w' sl σ → R w (f v sl w'.μ) → ∀ x, RVs c w' v x → K x w'.H) : TA' c W m σ w.H K := by
  refine ⟨w, sl, rfl, hs, hsl, ?_⟩
  unfold andThen at h
  cases e : m sl w.μ with
  | ok v μ' =>
    rw [e] at h
    intro w' hμ ext sim x rx
    subst hμ
    exact k v w' ext sim (hsl.ext hs ext) h x rx
  | exc x μ' =>
    rw [e] at h
    exact fun w' hμ ext sim cls d r => hexc x μ' h w' hμ ext sim cls d r
  | stuck => rw [e] at h; exact absurd h hstuck
theorem ga_cons {es : List Expr} {mr : M (List Val)} (ha : PE X a (TE' c W ma)) (hr : PA X es (TA' c W mr)) (hs : starEach (a :: es) X.env = (false, eval a X.env) :: starEach es X.env := by rfl) : PA X (a :: es) (TA' c W (acons ma mr)) := by
  refine (pa_cons ha hr hs).imp fun σ H Q ⟨w, sl, e, s, rs, h⟩ => ?_
  subst e
  refine te_then (R := fun w r => PostL c w r Q fun cls d H' => W cls d σ H') s rs excL_post (fun z => z) h fun v w1 e1 s1 rs1 h1 x rx => ?_
  refine ta_then (R := fun w r => PostL c w r Q fun cls d H' => W cls d σ H') s1 rs1 excL_post (fun z => z) (h1.ext e1) fun vs w2 e2 s2 rs2 h2 xs rxs => ?_
  exact h2 w2 rfl e2 s2 (x :: xs) ⟨x, xs, rfl, RV.ext s1 e2 _ _ rx, rxs⟩
def mtup (m : M (List Val)) : M Val := andThen m fun vs => fun _ μ => if vs.length ≤ LIM then .ok (.tup vs) μ else .stuck
def mlst (m : M (List Val)) : M (List Val) := andThen m fun vs => fun _ μ => if vs.length ≤ LIM then .ok vs μ else .stuck
theorem ge_tup {es : List Expr} {k} {mr : M (List Val)} (h : PA X es (TA' c W mr)) : PE X (.Tuple es k pos) (TE' c W (mtup mr)) := by
  refine (pe_tup h).imp fun σ H Q ⟨w, sl, e, s, rs, h⟩ => ?_
  subst e
  refine ta_then (R := fun w r => Post c w r Q fun cls d H' => W cls d σ H') s rs exc_post (fun z => z) h fun vs w1 e1 s1 rs1 h1 xs rx => ?_
  split at h1
  · rename_i hl
    exact ⟨by rw [← LIM_eq, ← rx.length]; exact hl, fun p n => (h1.ext e1).tup s1 rx n⟩
  · exact h1.elim
theorem excF_post {w : Wd} {Q : VK} {σ : St} : ∀ e μ', PostF c w (.exc e μ') Q (fun cls d H' => W cls d σ H') → ∀ w', w'.μ = μ' → Ext w w' → Sim c w' → ∀ cls d, RX c w' e cls d → W cls d σ w'.H := fun _ _ h => h
theorem PostF.new {w : Wd} {vs : List Val} {ys : List V} {p : Addr} {Q : VK} {E : XK} (h : PostF c w (.ok vs w.μ) Q E) (s : Sim c w) (r : RVs c w vs ys) (n : w.H p = none) : Q (.ref p) (upd w.H p (.lst ys)) := h w rfl (Ext.refl w) s p ys n r
theorem gf_lst {es : List Expr} {mr : M (List Val)} (h : PA X es (TA' c W mr)) : PE X (.List es pos) (TF' c W (mlst mr)) := by
  refine (pe_lst h).imp fun σ H Q ⟨w, sl, e, s, rs, h⟩ => ?_
  subst e
  refine ta_then (R := fun w r => PostF c w r Q fun cls d H' => W cls d σ H') s rs excF_post (fun z => z) h fun vs w1 e1 s1 rs1 h1 xs rx => ?_
  split at h1
  · rename_i hl
    exact ⟨by rw [← LIM_eq, ← rx.length]; exact hl, fun p n => (h1.ext e1).new s1 rx n⟩
  · exact h1.elim
/-- a new list as one that nobody changes -/
theorem ge_imm {m : M (List Val)} (h : PE X a (TF' c W m)) : PE X a (TE' c W (mimm m)) := by
  refine h.imp fun σ H Q ⟨w, sl, e, s, rs, h⟩ => ⟨w, sl, e, s, rs, ?_⟩
  unfold mimm andThen at h
  cases q : m sl w.μ with
  | ok vs μ' =>
    rw [q] at h
    intro w' hμ ext sim D ys n r
    subst hμ
    exact Post.lst (h.ext ext) sim r n
  | exc x μ' => rw [q] at h; exact h
  | stuck => rw [q] at h; exact h
/-- .. as one that is changed -/
theorem ge_mut {m : M (List Val)} (h : PE X a (TF' c W m)) : PE X a (TE' c W (mmut m)) := by
  refine h.imp fun σ H Q ⟨w, sl, e, s, rs, h⟩ => ⟨w, sl, e, s, rs, ?_⟩
  unfold mmut andThen at h
  cases q : m sl w.μ with
  | ok vs μ' =>
    rw [q] at h
    intro w' hμ ext sim D ys n r
    subst hμ
    have e1 : Ext w' { w' with ρ := w'.ρ ++ [D], μ := w'.μ ++ [.lst vs], H := upd w'.H D (.lst ys) } := alloc_ext n
    refine h _ rfl (ext.trans e1) (alloc_sim sim n ⟨ys, upd_same, RVs.ext sim e1 _ _ r⟩ (sim.rs_new n)) _ ⟨D, rfl, ?_⟩
    show (w'.ρ ++ [D])[w'.μ.length]? = some D
    rw [← sim.len]
    simp
  | exc x μ' => rw [q] at h; exact h
  | stuck => rw [q] at h; exact h

/-! ### subscripts -/
def vIdx (x y : Val) (μ : Mu) : Res Val := match look μ x, y with
  | .lst xs, .int i => (match atI xs i with | some v => .ok v μ | none => .stuck)
  | .tup xs, .int i => (match atI xs i with | some v => .ok v μ | none => .stuck)
  | .str s, .int i => if s.length ≤ LIM then (match atI s.cps.toList i with | some k => .ok (.str ⟨#[k]⟩) μ | none => .stuck) else .stuck
  | _, _ => .stuck
theorem nx_Idx : NoExc2 vIdx := fun a b μ e μ' h => by
  unfold vIdx at h
  split at h
  · split at h <;> cases h
  · split at h <;> cases h
  · split at h
    · split at h <;> cases h
    · cases h
  · cases h
theorem atI_rv {w : Wd} {xs : List Val} {ys : List V} {i : Int} {v : Val} (r : RVs c w xs ys) (h : atI xs i = some v) : ∃ y, atI ys i = some y ∧ RV c w v y := by
  unfold atI at h ⊢
  rw [← r.length]
  cases e : ixN xs.length i with
  | none => rw [e] at h; cases h
  | some j =>
    rw [e] at h
    exact r.get (i := j) h
/-- o[i] by values -/
def IxG (c : Ct) (X : Cx) (g : Val → Val → Mu → Res Val) : Prop :=
  IxR X fun x y H Q => ∃ w a b, w.H = H ∧ Sim c w ∧ RV c w a x ∧ RV c w b y ∧ Post c w (g a b w.μ) Q fun _ _ _ => False
theorem ig_Idx (hK : X.K = c.K) : IxG c X vIdx := by
  intro ev es pins s σ H x y v u Q I rx ry ⟨w, a, b, e, sm, r1, r2, h⟩ hs
  subst e
  unfold vIdx at h
  split at h
  · rename_i xs i e1
    split at h
    · rename_i q hq
      obtain ⟨p, ys, f1, f2, f3⟩ := look_lst sm r1 e1
      obtain ⟨z, hz, rz⟩ := atI_rv f3 hq
      refine ix_list ev es pins s σ w.H x y v u Q I rx ry ⟨p, ys, i, z, f1, r2, by rw [hK]; exact f2, hz, h.here sm rz⟩ hs
    · exact h.elim
  · rename_i xs i e1
    split at h
    · rename_i q hq
      obtain ⟨p, ys, f1, f2, f3⟩ := look_tup sm r1 e1
      obtain ⟨z, hz, rz⟩ := atI_rv f3 hq
      refine ix_tup ev es pins s σ w.H x y v u Q I rx ry ⟨p, ys, i, z, f1, r2, by rw [hK]; exact f2, hz, h.here sm rz⟩ hs
    · exact h.elim
  · rename_i xs i e1
    split at h
    · rename_i hl
      split at h
      · rename_i q hq
        refine ix_str ev es pins s σ w.H x y v u Q I rx ry ⟨xs, i, q, look_str r1 e1, r2, by rw [← LIM_eq]; exact hl, hq, h.here sm rfl⟩ hs
      · exact h.elim
    · exact h.elim
  · exact h.elim
theorem ge_ix {g : Val → Val → Mu → Res Val} (hr : IxG c X g) (n : NoExc2 g) (ha : PE X a (TE' c W ma)) (hb : PE X b (TE' c W mb)) (hs : PlainIx b) : PE X (.Subscript a b pos) (TE' c W (mop2 g ma mb)) :=
  (pe_ix hr ha hb hs).imp fun _ _ _ h => lift2 n h

/-! ### slices -/
def vCut (xs : List Val) (lo hi : Option Int) : List Val := (xs.drop (HT.sIx xs.length 0 lo)).take (HT.sIx xs.length xs.length hi - HT.sIx xs.length 0 lo)
theorem vCut_rv {w : Wd} {xs : List Val} {ys : List V} (r : RVs c w xs ys) (lo hi : Option Int) : RVs c w (vCut xs lo hi) (cutV ys lo hi) := by
  unfold vCut cutV
  rw [r.length]
  exact (r.drop _).take _
theorem vCut_whole {xs : List Val} {lo hi : Option Int} (h : HT.sIx xs.length 0 lo = 0 ∧ HT.sIx xs.length xs.length hi = xs.length) : vCut xs lo hi = xs := by
  unfold vCut
  rw [h.1, h.2]
  simp
/-- a slice of a tuple, a text -/
def vSlice (x : Val) (lo hi : Option Int) (μ : Mu) : Res Val := match look μ x with
  | .tup xs => .ok (.tup (vCut xs lo hi)) μ
  | .str s => if s.length ≤ LIM then .ok (.str (cutS s lo hi)) μ else .stuck
  | .lst xs => .ok (.lst (vCut xs lo hi)) μ
  | _ => .stuck
/-- .. of a list, a new one -/
def vSliceL (x : Val) (lo hi : Option Int) (μ : Mu) : Res (List Val) := match look μ x with
  | .lst xs => .ok (vCut xs lo hi) μ
  | _ => .stuck
def SlG (c : Ct) (X : Cx) (g : Val → Option Int → Option Int → Mu → Res Val) : Prop :=
  SlR X fun x lo hi H Q => ∃ w a, w.H = H ∧ Sim c w ∧ RV c w a x ∧ Post c w (g a lo hi w.μ) Q fun _ _ _ => False
theorem sg_Slice (hK : X.K = c.K) : SlG c X vSlice := by
  intro pins s σ H x v vl vu lo hi sl Q I rx hs pl pu ⟨w, a, e, sm, r1, h⟩
  subst e
  unfold vSlice at h
  split at h
  · rename_i xs e1
    obtain ⟨p, ys, f1, f2, f3⟩ := look_tup sm r1 e1
    refine sl_tupA pins s σ w.H x v vl vu lo hi sl Q I rx hs pl pu ⟨p, ys, f1, by rw [hK]; exact f2, fun hw => ?_, fun _ q n => h.tup sm (vCut_rv f3 lo hi) n⟩
    rw [← f3.length] at hw
    rw [vCut_whole hw] at h
    exact h.here sm ⟨p, ys, rfl, f2, f3⟩
  · rename_i z e1
    split at h
    · rename_i hl
      exact sl_str pins s σ w.H x v vl vu lo hi sl Q I rx hs pl pu ⟨z, look_str r1 e1, by rw [← LIM_eq]; exact hl, h.here sm rfl⟩
    · exact h.elim
  · rename_i xs e1
    obtain ⟨p, ys, f1, f2, f3⟩ := look_lst sm r1 e1
    exact sl_list pins s σ w.H x v vl vu lo hi sl Q I rx hs pl pu ⟨p, ys, f1, by rw [hK]; exact f2, fun q n => h.lst sm (vCut_rv f3 lo hi) n⟩
  · exact h.elim
/-- a part of a slice -/
def TO' (c : Ct) (W : WX) (m : M (Option Int)) : St → Hp → (Option Int → Hp → Prop) → Prop := fun σ H Q => ∃ w sl, w.H = H ∧ Sim c w ∧ RSl c w sl σ ∧ match m sl w.μ with
  | .ok b μ' => ∀ w', w'.μ = μ' → Ext w w' → Sim c w' → Q b w'.H
  | .exc e μ' => ∀ w', w'.μ = μ' → Ext w w' → Sim c w' → ∀ cls d, RX c w' e cls d → W cls d σ w'.H
  | .stuck => False
def onone : M (Option Int) := fun _ μ => .ok none μ
def osome (m : M Val) : M (Option Int) := andThen m fun v => fun _ μ => match v with
  | .int i => .ok (some i) μ
  | _ => .stuck
theorem _root_.L2.PO.imp {e : Option Expr} {t t' : TO} (h : PO X e t) (k : ∀ σ H Q, t' σ H Q → t σ H Q) : PO X e t' := ⟨fun pins s σ H Q I hw => h.run pins s σ H Q I (k σ H Q hw)⟩
theorem go_none : PO X none (TO' c W onone) := po_none.imp fun σ H Q ⟨w, sl, e, s, rs, h⟩ => by
  subst e
  exact h w rfl (Ext.refl w) s
theorem go_some (ha : PE X a (TE' c W ma)) : PO X (some a) (TO' c W (osome ma)) := (po_some ha).imp fun σ H Q ⟨w, sl, e, s, rs, h⟩ => by
  subst e
  refine ⟨w, sl, rfl, s, rs, ?_⟩
  unfold osome andThen at h
  cases q : ma sl w.μ with
  | ok v μ' =>
    rw [q] at h
    intro w' hμ ext sim x rx
    cases v with
    | int i =>
      subst hμ
      exact ⟨i, rx, h w' rfl ext sim⟩
    | _ => exact h.elim
  | exc x μ' => rw [q] at h; exact h
  | stuck => rw [q] at h; exact h
def mslice (g : Val → Option Int → Option Int → Mu → Res Val) (a : M Val) (lo hi : M (Option Int)) : M Val := andThen a fun x => andThen lo fun l => andThen hi fun u => fun _ μ => g x l u μ
theorem to_then {β : Type} {w : Wd} {sl : Sl} {σ : St} {f : Option Int → M β} {R : Wd → Res β → Prop} {m : M (Option Int)}
    (hs : Sim c w) (hsl : RSl c w sl σ)
    (hexc : ∀ e μ', R w (.exc e μ') → ∀ w', w'.μ = μ' → Ext w w' → Sim c w' → ∀ cls d, RX c w' e cls d → W cls d σ w'.H)
    (hstuck : ¬ R w .stuck)
    (h : R w (andThen m f sl w.μ)) {K : Option Int → Hp → Prop}
    (k : ∀ v w', Ext w w' → Sim c w' → RSl c w' sl σ → R w (f v sl w'.μ) → K v w'.H) : TO' c W m σ w.H K := by
  refine ⟨w, sl, rfl, hs, hsl, ?_⟩
  unfold andThen at h
  cases e : m sl w.μ with
  | ok v μ' =>
    rw [e] at h
    intro w' hμ ext sim
    subst hμ
    exact k v w' ext sim (hsl.ext hs ext) h
  | exc x μ' =>
    rw [e] at h
    exact fun w' hμ ext sim cls d r => hexc x μ' h w' hμ ext sim cls d r
  | stuck => rw [e] at h; exact absurd h hstuck
theorem ge_slice {g : Val → Option Int → Option Int → Mu → Res Val} {lo hi : Option Expr} {ml mh : M (Option Int)} {p2 : Pos} (hr : SlG c X g) (n : ∀ a l u μ e μ', g a l u μ ≠ .exc e μ') (ha : PE X a (TE' c W ma)) (hl : PO X lo (TO' c W ml)) (hh : PO X hi (TO' c W mh)) :
    PE X (.Subscript a (.Slice lo hi none p2) pos) (TE' c W (mslice g ma ml mh)) := by
  refine (pe_slice hr ha hl hh).imp fun σ H Q ⟨w, sl, e, s, rs, h⟩ => ?_
  subst e
  refine te_then (R := fun w r => Post c w r Q fun cls d H' => W cls d σ H') s rs exc_post (fun z => z) h fun v w1 e1 s1 rs1 h1 x rx => ?_
  refine to_then (R := fun w r => Post c w r Q fun cls d H' => W cls d σ H') s1 rs1 exc_post (fun z => z) (h1.ext e1) fun l w2 e2 s2 rs2 h2 => ?_
  refine to_then (R := fun w r => Post c w r Q fun cls d H' => W cls d σ H') s2 rs2 exc_post (fun z => z) (h2.ext e2) fun u w3 e3 s3 rs3 h3 => ?_
  exact ⟨w3, v, rfl, s3, RV.ext s1 (e2.trans e3) _ _ rx, (h3.ext e3).noexc (n _ _ _ _)⟩
theorem nx_Slice : ∀ a l u μ e μ', vSlice a l u μ ≠ .exc e μ' := fun a l u μ e μ' h => by
  unfold vSlice at h
  split at h
  · cases h
  · split at h <;> cases h
  · cases h
  · cases h
end
end G

/-! G5: built-in functions by values. -/
namespace G
open PySem PySem.Spec PyProof.Rows L2

/-- a built-in by values -/
def CaG (c : Ct) (X : Cx) (f : Value) (g : List Val → Mu → Res Val) : Prop :=
  CallR X f fun xs H Q => ∃ w vs, w.H = H ∧ Sim c w ∧ RVs c w vs xs ∧ Post c w (g vs w.μ) Q fun _ _ _ => False
/-- .. that gives a new list -/
def CaF (c : Ct) (X : Cx) (f : Value) (g : List Val → Mu → Res (List Val)) : Prop :=
  CallR X f fun xs H Q => ∃ w vs, w.H = H ∧ Sim c w ∧ RVs c w vs xs ∧ PostF c w (g vs w.μ) Q fun _ _ _ => False
def NoExc {α β : Type} (g : α → Mu → Res β) : Prop := ∀ a μ e μ', g a μ ≠ .exc e μ'
def mcall {α : Type} (g : List Val → Mu → Res α) (as : M (List Val)) : M α := andThen as fun vs => fun _ μ => g vs μ
section
variable {c : Ct} {W : WX} {X : Cx} {x : Str} {p pos : Pos} {e : Expr} {es : List Expr} {ma : M (List Val)} {id T : String}
theorem PostF.noexc {w : Wd} {r : Res (List Val)} {Q : VK} {E E' : XK} (h : PostF c w r Q E) (n : ∀ e μ', r ≠ .exc e μ') : PostF c w r Q E' := by
  cases r with
  | ok v μ => exact h
  | exc e μ => exact absurd rfl (n e μ)
  | stuck => exact h
theorem liftC {g : List Val → Mu → Res Val} (n : NoExc g) {σ : St} {H : Hp} {Q : VK} (h : TE' c W (mcall g ma) σ H Q) : TA' c W ma σ H fun xs H1 => ∃ w vs, w.H = H1 ∧ Sim c w ∧ RVs c w vs xs ∧ Post c w (g vs w.μ) Q fun _ _ _ => False := by
  obtain ⟨w, sl, e, s, rs, h⟩ := h
  subst e
  exact ta_then (R := fun w r => Post c w r Q fun cls d H' => W cls d σ H') s rs exc_post (fun z => z) h fun vs w1 e1 s1 rs1 h1 xs rx => ⟨w1, vs, rfl, s1, rx, (h1.ext e1).noexc (n _ _)⟩
theorem liftF {g : List Val → Mu → Res (List Val)} (n : NoExc g) {σ : St} {H : Hp} {Q : VK} (h : TF' c W (mcall g ma) σ H Q) : TA' c W ma σ H fun xs H1 => ∃ w vs, w.H = H1 ∧ Sim c w ∧ RVs c w vs xs ∧ PostF c w (g vs w.μ) Q fun _ _ _ => False := by
  obtain ⟨w, sl, e, s, rs, h⟩ := h
  subst e
  exact ta_then (R := fun w r => PostF c w r Q fun cls d H' => W cls d σ H') s rs excF_post (fun z => z) h fun vs w1 e1 s1 rs1 h1 xs rx => ⟨w1, vs, rfl, s1, rx, (h1.ext e1).noexc (n _ _)⟩
theorem ge_callB {g : List Val → Mu → Res Val} (hc : CaG c X (.builtin id) g) (n : NoExc g) (hm : X.mg x = none) (ha : PA X (e :: es) (TA' c W ma)) (hg : Gl X x := by rfl) (hv : bootBuiltins x = some (.builtin id) := by decide +kernel) (hn : x ≠ "__name__" := by decide) (hdb : (x == ("__debug__" : Str)) = false := by decide)
    (he : starEach (e :: es) X.env = (false, eval e X.env) :: starEach es X.env := by rfl) (hpl : (backTo pos (starEach es X.env)).any (·.1) = false := by rfl) : PE X (.Call (.Name x p) (e :: es) [] pos) (TE' c W (mcall g ma)) :=
  (pe_callB hc hg hm hv ha hn hdb he hpl).imp fun _ _ _ h => liftC n h
theorem ge_callT {g : List Val → Mu → Res Val} (hc : CaG c X (.type T) g) (n : NoExc g) (hm : X.mg x = none) (ha : PA X (e :: es) (TA' c W ma)) (hg : Gl X x := by rfl) (hv : bootBuiltins x = some (.type T) := by decide +kernel) (hn : x ≠ "__name__" := by decide) (hdb : (x == ("__debug__" : Str)) = false := by decide)
    (he : starEach (e :: es) X.env = (false, eval e X.env) :: starEach es X.env := by rfl) (hpl : (backTo pos (starEach es X.env)).any (·.1) = false := by rfl) : PE X (.Call (.Name x p) (e :: es) [] pos) (TE' c W (mcall g ma)) :=
  (pe_callTy hc hg hm hv ha hn hdb he hpl).imp fun _ _ _ h => liftC n h
theorem gf_callB {g : List Val → Mu → Res (List Val)} (hc : CaF c X (.builtin id) g) (n : NoExc g) (hm : X.mg x = none) (ha : PA X (e :: es) (TA' c W ma)) (hg : Gl X x := by rfl) (hv : bootBuiltins x = some (.builtin id) := by decide +kernel) (hn : x ≠ "__name__" := by decide) (hdb : (x == ("__debug__" : Str)) = false := by decide)
    (he : starEach (e :: es) X.env = (false, eval e X.env) :: starEach es X.env := by rfl) (hpl : (backTo pos (starEach es X.env)).any (·.1) = false := by rfl) : PE X (.Call (.Name x p) (e :: es) [] pos) (TF' c W (mcall g ma)) :=
  (pe_callB hc hg hm hv ha hn hdb he hpl).imp fun _ _ _ h => liftF n h
theorem gf_callT {g : List Val → Mu → Res (List Val)} (hc : CaF c X (.type T) g) (n : NoExc g) (hm : X.mg x = none) (ha : PA X (e :: es) (TA' c W ma)) (hg : Gl X x := by rfl) (hv : bootBuiltins x = some (.type T) := by decide +kernel) (hn : x ≠ "__name__" := by decide) (hdb : (x == ("__debug__" : Str)) = false := by decide)
    (he : starEach (e :: es) X.env = (false, eval e X.env) :: starEach es X.env := by rfl) (hpl : (backTo pos (starEach es X.env)).any (·.1) = false := by rfl) : PE X (.Call (.Name x p) (e :: es) [] pos) (TF' c W (mcall g ma)) :=
  (pe_callTy hc hg hm hv ha hn hdb he hpl).imp fun _ _ _ h => liftF n h
/-- a built-in type's name as a value -/
theorem ge_ty {n : String} (hm : X.mg x = none) (hg : Gl X x := by rfl) (hv : bootBuiltins x = some (.type n) := by decide +kernel) (hn : x ≠ "__name__" := by decide) (hdb : (x == ("__debug__" : Str)) = false := by decide) : PE X (.Name x pos) (TE' c W (mcst (.ty n))) :=
  ge_cst (pe_bltn (v := .ty n) hg hm hv rfl hn hdb) fun _ => rfl
/-- a module's constant -/
theorem ge_glob {v : Val} {y : V} {u : Value} (hm : X.mg x = some u) (r : RelV y u) (rv : ∀ w, RV c w v y) (hg : Gl X x := by rfl) (hdb : (x == ("__debug__" : Str)) = false := by decide) : PE X (.Name x pos) (TE' c W (mcst v)) :=
  ge_cst (pe_glob hg hm r hdb) rv
end

/-! ### len, abs, int, min, max -/
def vLen (vs : List Val) (μ : Mu) : Res Val := match vs with
  | [v] => (match look μ v with
    | .lst xs => .ok (.int xs.length) μ
    | .tup xs => .ok (.int xs.length) μ
    | .str s => if s.length ≤ LIM then .ok (.int s.length) μ else .stuck
    | _ => .stuck)
  | _ => .stuck
def vAbs (vs : List Val) (μ : Mu) : Res Val := match vs with
  | [.int i] => .ok (.int (if i < 0 then -i else i)) μ
  | _ => .stuck
def vInt (vs : List Val) (μ : Mu) : Res Val := match vs with
  | [.int i] => .ok (.int i) μ
  | [.bl k] => .ok (.int (if k then 1 else 0)) μ
  | _ => .stuck
def vMax2 (vs : List Val) (μ : Mu) : Res Val := match vs with
  | [.int i, .int j] => .ok (.int (if j > i then j else i)) μ
  | _ => .stuck
def vMin2 (vs : List Val) (μ : Mu) : Res Val := match vs with
  | [.int i, .int j] => .ok (.int (if j < i then j else i)) μ
  | _ => .stuck
def vTuple (vs : List Val) (μ : Mu) : Res Val := match vs with
  | [v] => (match look μ v with
    | .lst xs => .ok (.tup xs) μ
    | .tup xs => .ok (.tup xs) μ
    | _ => .stuck)
  | _ => .stuck
def vList (vs : List Val) (μ : Mu) : Res (List Val) := match vs with
  | [v] => (match seqOf μ v with
    | some xs => .ok xs μ
    | none => .stuck)
  | _ => .stuck
/-- the truths of a list of bools -/
def blsOf : List Val → Option (List Bool)
  | [] => some []
  | .bl b :: xs => (blsOf xs).map (b :: ·)
  | _ :: _ => none
def intsOf : List Val → Option (List Int)
  | [] => some []
  | .int b :: xs => (intsOf xs).map (b :: ·)
  | _ :: _ => none
def vAny (vs : List Val) (μ : Mu) : Res Val := match vs with
  | [v] => (match look μ v with
    | .lst xs => (match blsOf xs with | some bs => .ok (.bl (bs.any id)) μ | none => .stuck)
    | _ => .stuck)
  | _ => .stuck
def vAll (vs : List Val) (μ : Mu) : Res Val := match vs with
  | [v] => (match look μ v with
    | .lst xs => (match blsOf xs with | some bs => .ok (.bl (bs.all id)) μ | none => .stuck)
    | _ => .stuck)
  | _ => .stuck
def vSum (vs : List Val) (μ : Mu) : Res Val := match vs with
  | [v] => (match look μ v with
    | .lst xs => (match intsOf xs with | some bs => .ok (.int bs.sum) μ | none => .stuck)
    | _ => .stuck)
  | _ => .stuck
def tyn : Val → Option String
  | .non => some "NoneType"
  | .bl _ => some "bool"
  | .int _ => some "int"
  | .str _ => some "str"
  | .tup _ => some "tuple"
  | .lst _ => some "list"
  | _ => none
/-- the types that are asked for -/
def isiB (a b : String) : Option Bool :=
  if a = b then (if b ∈ ["bool", "int", "str", "tuple", "list", "dict"] then some true else none)
  else if a = "bool" ∧ b = "int" then some true
  else if b ∈ ["bool", "int", "str", "tuple", "list", "dict"] ∧ a ∈ ["NoneType", "bool", "int", "str", "tuple", "list", "dict"] then some false else none
def vIsi (vs : List Val) (μ : Mu) : Res Val := match vs with
  | [v, .ty b] => (match tyn (look μ v) with
    | some a => (match isiB a b with | some k => .ok (.bl k) μ | none => .stuck)
    | none => .stuck)
  | _ => .stuck
theorem nx_Len : NoExc vLen := fun a μ e μ' h => by
  unfold vLen at h
  split at h
  · split at h
    · cases h
    · cases h
    · split at h <;> cases h
    · cases h
  · cases h
theorem nx_Abs : NoExc vAbs := fun a μ e μ' h => by unfold vAbs at h; split at h <;> cases h
theorem nx_Int : NoExc vInt := fun a μ e μ' h => by unfold vInt at h; split at h <;> cases h
theorem nx_Max2 : NoExc vMax2 := fun a μ e μ' h => by unfold vMax2 at h; split at h <;> cases h
theorem nx_Min2 : NoExc vMin2 := fun a μ e μ' h => by unfold vMin2 at h; split at h <;> cases h
theorem nx_Tuple : NoExc vTuple := fun a μ e μ' h => by
  unfold vTuple at h
  split at h
  · split at h <;> cases h
  · cases h
theorem nx_List : NoExc vList := fun a μ e μ' h => by
  unfold vList at h
  split at h
  · split at h <;> cases h
  · cases h
theorem nx_Any : NoExc vAny := fun a μ e μ' h => by
  unfold vAny at h
  split at h
  · split at h
    · split at h <;> cases h
    · cases h
  · cases h
theorem nx_All : NoExc vAll := fun a μ e μ' h => by
  unfold vAll at h
  split at h
  · split at h
    · split at h <;> cases h
    · cases h
  · cases h
theorem nx_Sum : NoExc vSum := fun a μ e μ' h => by
  unfold vSum at h
  split at h
  · split at h
    · split at h <;> cases h
    · cases h
  · cases h
theorem nx_Isi : NoExc vIsi := fun a μ e μ' h => by
  unfold vIsi at h
  split at h
  · split at h
    · split at h <;> cases h
    · cases h
  · cases h
section
variable {c : Ct} {X : Cx} {w : Wd}
theorem RVs.one {v : Val} {xs : List V} (h : RVs c w [v] xs) : ∃ x, xs = [x] ∧ RV c w v x := by
  obtain ⟨y, r, e, h1, h2⟩ := h
  have h2 : r = [] := h2
  subst h2
  exact ⟨y, e, h1⟩
theorem RVs.two {v u : Val} {xs : List V} (h : RVs c w [v, u] xs) : ∃ x y, xs = [x, y] ∧ RV c w v x ∧ RV c w u y := by
  obtain ⟨y, r, e, h1, h2⟩ := h
  obtain ⟨z, e2, h3⟩ := h2.one
  subst e2
  exact ⟨y, z, e, h1, h3⟩
theorem blsOf_rv : ∀ {xs : List Val} {bs : List Bool} {ys : List V}, blsOf xs = some bs → RVs c w xs ys → ys = bs.map V.bl
  | [], bs, ys, h, r => by cases h; exact r
  | .bl b :: xs, bs, ys, h, r => by
    obtain ⟨y, q, e, h1, h2⟩ := r
    simp only [blsOf, Option.map_eq_some_iff] at h
    obtain ⟨bs', h, e'⟩ := h
    subst e' e
    rw [show y = V.bl b from h1, blsOf_rv h h2]
    rfl
  | .non :: _, _, _, h, _ => by cases h
  | .int _ :: _, _, _, h, _ => by cases h
  | .str _ :: _, _, _, h, _ => by cases h
  | .tup _ :: _, _, _, h, _ => by cases h
  | .lst _ :: _, _, _, h, _ => by cases h
  | .rol _ :: _, _, _, h, _ => by cases h
  | .ref _ :: _, _, _, h, _ => by cases h
  | .fn _ :: _, _, _, h, _ => by cases h
  | .ty _ :: _, _, _, h, _ => by cases h
  | .dct _ _ :: _, _, _, h, _ => by cases h
theorem intsOf_rv : ∀ {xs : List Val} {bs : List Int} {ys : List V}, intsOf xs = some bs → RVs c w xs ys → ys = bs.map V.int
  | [], bs, ys, h, r => by cases h; exact r
  | .int b :: xs, bs, ys, h, r => by
    obtain ⟨y, q, e, h1, h2⟩ := r
    simp only [intsOf, Option.map_eq_some_iff] at h
    obtain ⟨bs', h, e'⟩ := h
    subst e' e
    rw [show y = V.int b from h1, intsOf_rv h h2]
    rfl
  | .non :: _, _, _, h, _ => by cases h
  | .bl _ :: _, _, _, h, _ => by cases h
  | .str _ :: _, _, _, h, _ => by cases h
  | .tup _ :: _, _, _, h, _ => by cases h
  | .lst _ :: _, _, _, h, _ => by cases h
  | .rol _ :: _, _, _, h, _ => by cases h
  | .ref _ :: _, _, _, h, _ => by cases h
  | .fn _ :: _, _, _, h, _ => by cases h
  | .ty _ :: _, _, _, h, _ => by cases h
  | .dct _ _ :: _, _, _, h, _ => by cases h
theorem cg_Len (hK : X.K = c.K) : CaG c X (.builtin "len") vLen := by
  intro pins s σ H xs us Q I r ⟨w, vs, e, sm, rv, h⟩
  subst e
  unfold vLen at h
  split at h
  · rename_i v
    obtain ⟨x, ex, rx⟩ := rv.one
    subst ex
    split at h
    · rename_i zs e1
      obtain ⟨a, ys, f1, f2, f3⟩ := look_lst sm rx e1
      subst f1
      exact call_len pins s σ w.H _ us Q I r ⟨.ref a, ys.length, rfl, .inl ⟨ys, by rw [hK]; exact f2, rfl⟩, by rw [← f3.length]; exact h.here sm rfl⟩
    · rename_i zs e1
      obtain ⟨a, ys, f1, f2, f3⟩ := look_tup sm rx e1
      subst f1
      exact call_len pins s σ w.H _ us Q I r ⟨.ref a, ys.length, rfl, .inr ⟨ys, by rw [hK]; exact f2, rfl⟩, by rw [← f3.length]; exact h.here sm rfl⟩
    · rename_i zs e1
      split at h
      · rename_i hl
        rw [look_str rx e1] at r
        exact call_len_str pins s σ w.H _ us Q I r ⟨zs, rfl, by rw [← LIM_eq]; exact hl, h.here sm rfl⟩
      · exact h.elim
    · exact h.elim
  · exact h.elim
theorem cg_Abs : CaG c X (.builtin "abs") vAbs := by
  intro pins s σ H xs us Q I r ⟨w, vs, e, sm, rv, h⟩
  subst e
  unfold vAbs at h
  split at h
  · obtain ⟨x, ex, rx⟩ := rv.one
    exact call_abs pins s σ w.H _ us Q I r ⟨_, by rw [ex, show x = V.int _ from rx], h.here sm rfl⟩
  · exact h.elim
theorem cg_Int : CaG c X (.type "int") vInt := by
  intro pins s σ H xs us Q I r ⟨w, vs, e, sm, rv, h⟩
  subst e
  unfold vInt at h
  split at h
  · obtain ⟨x, ex, rx⟩ := rv.one
    exact call_int1 pins s σ w.H _ us Q I r (.inl ⟨_, by rw [ex, show x = V.int _ from rx], h.here sm rfl⟩)
  · obtain ⟨x, ex, rx⟩ := rv.one
    exact call_int1 pins s σ w.H _ us Q I r (.inr ⟨_, by rw [ex, show x = V.bl _ from rx], h.here sm rfl⟩)
  · exact h.elim
theorem cg_Max2 (hc : X.calm = true) : CaG c X (.builtin "max") vMax2 := by
  intro pins s σ H xs us Q I r ⟨w, vs, e, sm, rv, h⟩
  subst e
  unfold vMax2 at h
  split at h
  · obtain ⟨x, y, ex, rx, ry⟩ := rv.two
    exact call_max2 hc pins s σ w.H _ us Q I r ⟨_, _, by rw [ex, show x = V.int _ from rx, show y = V.int _ from ry], h.here sm rfl⟩
  · exact h.elim
theorem cg_Min2 (hc : X.calm = true) : CaG c X (.builtin "min") vMin2 := by
  intro pins s σ H xs us Q I r ⟨w, vs, e, sm, rv, h⟩
  subst e
  unfold vMin2 at h
  split at h
  · obtain ⟨x, y, ex, rx, ry⟩ := rv.two
    exact call_min2 hc pins s σ w.H _ us Q I r ⟨_, _, by rw [ex, show x = V.int _ from rx, show y = V.int _ from ry], h.here sm rfl⟩
  · exact h.elim
theorem cg_Tuple (hK : X.K = c.K) : CaG c X (.type "tuple") vTuple := by
  intro pins s σ H xs us Q I r ⟨w, vs, e, sm, rv, h⟩
  subst e
  unfold vTuple at h
  split at h
  · obtain ⟨x, ex, rx⟩ := rv.one
    subst ex
    split at h
    · rename_i zs e1
      obtain ⟨a, ys, f1, f2, f3⟩ := look_lst sm rx e1
      subst f1
      exact call_tuple_of pins s σ w.H _ us Q I r ⟨a, ys, rfl, .inl ⟨by rw [hK]; exact f2, fun l n => h.tup sm f3 n⟩⟩
    · rename_i zs e1
      obtain ⟨a, ys, f1, f2, f3⟩ := look_tup sm rx e1
      subst f1
      exact call_tuple_of pins s σ w.H _ us Q I r ⟨a, ys, rfl, .inr ⟨by rw [hK]; exact f2, h.here sm ⟨a, ys, rfl, f2, f3⟩⟩⟩
    · exact h.elim
  · exact h.elim
theorem cf_List (hK : X.K = c.K) : CaF c X (.type "list") vList := by
  intro pins s σ H xs us Q I r ⟨w, vs, e, sm, rv, h⟩
  subst e
  unfold vList at h
  split at h
  · obtain ⟨x, ex, rx⟩ := rv.one
    subst ex
    split at h
    · rename_i zs e1
      obtain ⟨a, ys, f1, f2, f3⟩ := seqOf_sq sm rx e1
      subst f1
      exact call_list_of pins s σ w.H _ us Q I r ⟨a, ys, rfl, by rw [hK]; exact f2, fun l n => h.new sm f3 n⟩
    · exact h.elim
  · exact h.elim
theorem cg_Any (hK : X.K = c.K) (hc : X.calm = true) : CaG c X (.builtin "any") vAny := by
  intro pins s σ H xs us Q I r ⟨w, vs, e, sm, rv, h⟩
  subst e
  unfold vAny at h
  split at h
  · obtain ⟨x, ex, rx⟩ := rv.one
    subst ex
    split at h
    · rename_i zs e1
      obtain ⟨a, ys, f1, f2, f3⟩ := look_lst sm rx e1
      subst f1
      split at h
      · rename_i bs hb
        have := blsOf_rv hb f3
        subst this
        exact cr_any hc pins s σ w.H _ us Q I r ⟨a, bs, rfl, by rw [hK]; exact f2, h.here sm rfl⟩
      · exact h.elim
    · exact h.elim
  · exact h.elim
theorem cg_All (hK : X.K = c.K) (hc : X.calm = true) : CaG c X (.builtin "all") vAll := by
  intro pins s σ H xs us Q I r ⟨w, vs, e, sm, rv, h⟩
  subst e
  unfold vAll at h
  split at h
  · obtain ⟨x, ex, rx⟩ := rv.one
    subst ex
    split at h
    · rename_i zs e1
      obtain ⟨a, ys, f1, f2, f3⟩ := look_lst sm rx e1
      subst f1
      split at h
      · rename_i bs hb
        have := blsOf_rv hb f3
        subst this
        exact cr_all hc pins s σ w.H _ us Q I r ⟨a, bs, rfl, by rw [hK]; exact f2, h.here sm rfl⟩
      · exact h.elim
    · exact h.elim
  · exact h.elim
theorem cg_Sum (hK : X.K = c.K) (hc : X.calm = true) : CaG c X (.builtin "sum") vSum := by
  intro pins s σ H xs us Q I r ⟨w, vs, e, sm, rv, h⟩
  subst e
  unfold vSum at h
  split at h
  · obtain ⟨x, ex, rx⟩ := rv.one
    subst ex
    split at h
    · rename_i zs e1
      obtain ⟨a, ys, f1, f2, f3⟩ := look_lst sm rx e1
      subst f1
      split at h
      · rename_i bs hb
        have := intsOf_rv hb f3
        subst this
        exact cr_sum hc pins s σ w.H _ us Q I r ⟨a, bs, rfl, by rw [hK]; exact f2, h.here sm rfl⟩
      · exact h.elim
    · exact h.elim
  · exact h.elim

/-! ### isinstance -/
theorem isiB_kit {a b : String} {k : Bool} (h : isiB a b = some k) : kitB a b = some k := by
  unfold isiB at h
  split at h
  · rename_i e
    subst e
    split at h
    · rename_i hm
      cases h
      simp only [List.mem_cons, List.not_mem_nil, or_false] at hm
      rcases hm with rfl | rfl | rfl | rfl | rfl | rfl <;> decide +kernel
    · cases h
  · split at h
    · rename_i hm
      obtain ⟨rfl, rfl⟩ := hm
      cases h
      decide +kernel
    · rename_i n1 n2
      split at h
      · rename_i hm
        cases h
        obtain ⟨h1, h2⟩ := hm
        simp only [List.mem_cons, List.not_mem_nil, or_false] at h1 h2
        rcases h1 with rfl | rfl | rfl | rfl | rfl | rfl <;> rcases h2 with rfl | rfl | rfl | rfl | rfl | rfl | rfl <;> first | (exact absurd rfl n1) | (exact absurd ⟨rfl, rfl⟩ n2) | decide +kernel
      · cases h
theorem look_dct {x : Val} {v : V} {ks : List DKey} {vs : List Val} (s : Sim c w) (r : RV c w x v) (h : look w.μ x = .dct ks vs) : ∃ a ys, v = .ref a ∧ DcH w.H a ks ys ∧ RVs c w vs ys := by
  cases x with
  | ref n =>
    obtain ⟨a, e, hn⟩ := r
    have hl : n < w.μ.length := by rw [← s.len]; exact (List.getElem?_eq_some_iff.mp hn).1
    have hg := List.getElem?_eq_getElem hl
    have ro := s.ob n a _ hn hg
    simp only [look, hg] at h
    revert h ro
    cases w.μ[n] with
    | lst zs => intro _ h; cases h
    | dct ks vs => intro ro h; cases h; obtain ⟨ys, q, r⟩ := ro; exact ⟨a, ys, e, q, r⟩
  | dct _ _ => cases h; obtain ⟨a, ys, e, q, r⟩ := r; exact ⟨a, ys, e, q.1, r⟩
  | non => cases h
  | bl _ => cases h
  | int _ => cases h
  | str _ => cases h
  | tup _ => cases h
  | lst _ => cases h
  | fn _ => cases h
  | rol _ => cases h
  | ty _ => cases h
theorem tyxL {K : PySem.W.Frag} {H : Hp} {a : Addr} {ys : List V} (h : SqL K H a ys) : TyX K H (.ref a) (.type "list") := by
  rcases h with (h | ⟨o, h⟩) | ⟨o, its, n, h1, h2, _⟩
  · exact .base (.lst h)
  · exact .base (.frz h)
  · exact .kList h1 h2
theorem tyxT {K : PySem.W.Frag} {H : Hp} {a : Addr} {ys : List V} (h : SqT K H a ys) : TyX K H (.ref a) (.type "tuple") := by
  rcases h with (h | ⟨o, h⟩) | ⟨o, its, n, h1, h2, _⟩
  · exact .base (.tup h)
  · exact .fTuple h
  · exact .kTuple h1 h2
theorem look_non {x : Val} {v : V} (r : RV c w x v) (h : look w.μ x = .non) : v = .non := by
  cases x with
  | non => exact r
  | ref n => simp only [look] at h; split at h <;> cases h
  | _ => cases h
theorem cg_Isi (hK : X.K = c.K) : CaG c X (.builtin "isinstance") vIsi := by
  intro pins s σ H xs us Q I r ⟨w, vs, e, sm, rv, h⟩
  subst e
  match vs, rv, h with
  | [v, .ty b], rv, h =>
    obtain ⟨x, y, ex, rx, ry⟩ := rv.two
    subst ex
    have ry : y = .ty b := ry
    subst ry
    have fin : ∀ {a : String}, tyn (look w.μ v) = some a → TyX c.K w.H x (.type a) → Post c w (vIsi [v, .ty b] w.μ) Q (fun _ _ _ => False) → wpAny (model X.prog X.w) X.A (call (.builtin "isinstance") us) (EP X pins σ Q) X.xe s := fun {a} ht ty h => by
      unfold vIsi at h
      dsimp only at h
      rw [ht] at h
      dsimp only at h
      split at h
      · rename_i k hk
        exact call_isi pins s σ w.H _ us Q I r ⟨x, .ty b, _, _, k, rfl, .ty b, by rw [hK]; exact ty, kit_ty (isiB_kit hk), h.here sm rfl⟩
      · exact h.elim
    cases e1 : look w.μ v with
    | non => exact fin (by rw [e1]; rfl) (by rw [look_non rx e1]; exact .base .non) h
    | bl k => exact fin (by rw [e1]; rfl) (by rw [look_bl rx e1]; exact .base (.bl k)) h
    | int k => exact fin (by rw [e1]; rfl) (by rw [look_int rx e1]; exact .base (.int k)) h
    | str k => exact fin (by rw [e1]; rfl) (by rw [look_str rx e1]; exact .base (.str k)) h
    | lst zs => obtain ⟨a, ys, f1, f2, _⟩ := look_lst sm rx e1; exact fin (by rw [e1]; rfl) (by rw [f1]; exact tyxL f2) h
    | tup zs => obtain ⟨a, ys, f1, f2, _⟩ := look_tup sm rx e1; exact fin (by rw [e1]; rfl) (by rw [f1]; exact tyxT f2) h
    | dct _ _ => unfold vIsi at h; dsimp only at h; rw [e1] at h; exact h.elim
    | rol n => unfold vIsi at h; dsimp only at h; rw [e1] at h; exact h.elim
    | ref n => unfold vIsi at h; dsimp only at h; rw [e1] at h; exact h.elim
    | fn n => unfold vIsi at h; dsimp only at h; rw [e1] at h; exact h.elim
    | ty n => unfold vIsi at h; dsimp only at h; rw [e1] at h; exact h.elim
  | [], _, h => exact h.elim
  | [_], _, h => exact h.elim
  | _ :: a :: _ :: _, _, h => cases a <;> exact h.elim
  | [_, .non], _, h => exact h.elim
  | [_, .bl _], _, h => exact h.elim
  | [_, .int _], _, h => exact h.elim
  | [_, .str _], _, h => exact h.elim
  | [_, .tup _], _, h => exact h.elim
  | [_, .lst _], _, h => exact h.elim
  | [_, .rol _], _, h => exact h.elim
  | [_, .ref _], _, h => exact h.elim
  | [_, .fn _], _, h => exact h.elim
  | [_, .dct _ _], _, h => exact h.elim
end
end G

/-! G6: targets, what is walked, statements. -/
namespace G
open PySem PySem.Spec PyProof.Rows L2

/-! ### targets -/
inductive Tgt where
  | nm (i : Nat) | tp (ts : List Tgt)
mutual
def bindT : Tgt → Val → Sl → Mu → Option Sl
  | .nm i, v, sl, _ => some (sl.set i (some v))
  | .tp ts, v, sl, μ => match seqOf μ v with
    | some xs => bindTs ts xs sl μ
    | none => none
def bindTs : List Tgt → List Val → Sl → Mu → Option Sl
  | [], [], sl, _ => some sl
  | t :: ts, x :: xs, sl, μ => match bindT t x sl μ with
    | some sl' => bindTs ts xs sl' μ
    | none => none
  | _, _, _, _ => none
end
mutual
def Tgt.slots : Tgt → List Nat
  | .nm i => [i]
  | .tp ts => slotsAll ts
def slotsAll : List Tgt → List Nat
  | [] => []
  | t :: ts => t.slots ++ slotsAll ts
end
/-- the same but at these slots -/
def OffS (σ σ' : St) (is : List Nat) : Prop := σ'.length = σ.length ∧ ∀ i, i ∉ is → σ'[i]? = σ[i]?
def TG' (c : Ct) (t : Tgt) : TG := fun v σ H Q => ∃ w sl x, w.H = H ∧ Sim c w ∧ RSl c w sl σ ∧ RV c w x v ∧ ∃ sl', bindT t x sl w.μ = some sl' ∧ ∀ σ', RSl c w sl' σ' → OffS σ σ' t.slots → Q σ' w.H
def TGs' (c : Ct) (ts : List Tgt) : TGs := fun vs σ H Q => ∃ w sl xs, w.H = H ∧ Sim c w ∧ RSl c w sl σ ∧ RVs c w xs vs ∧ ∃ sl', bindTs ts xs sl w.μ = some sl' ∧ ∀ σ', RSl c w sl' σ' → OffS σ σ' (slotsAll ts) → Q σ' w.H
theorem _root_.L2.PG.imp {X : Cx} {e : Expr} {t t' : TG} (h : PG X e t) (k : ∀ v σ H Q, t' v σ H Q → t v σ H Q) : PG X e t' := ⟨fun pins s σ H v u Q I r hw => h.run pins s σ H v u Q I r (k v σ H Q hw)⟩
theorem _root_.L2.PGs.imp {X : Cx} {e : List Expr} {t t' : TGs} (h : PGs X e t) (k : ∀ v σ H Q, t' v σ H Q → t v σ H Q) : PGs X e t' := ⟨fun pins s σ H v u Q I r hw => h.run pins s σ H v u Q I r (k v σ H Q hw)⟩
theorem _root_.L2.PG.or {X : Cx} {e : Expr} {t t' : TG} (h : PG X e t) (h' : PG X e t') : PG X e (fun v σ H Q => t v σ H Q ∨ t' v σ H Q) := ⟨fun pins s σ H v u Q I r hw => hw.elim (h.run pins s σ H v u Q I r) (h'.run pins s σ H v u Q I r)⟩
section
variable {c : Ct} {W : WX} {X : Cx} {pos : Pos}
theorem gg_nm {i : Nat} {x : Str} (hN : X.N.Nodup) (hi : X.N[i]? = some x) (hx : Loc X.env.scope x) (hf : X.fn x = true ∨ X.env.scope.names.lookup x = some .local := by first | exact .inl rfl | exact .inr rfl | assumption) : PG X (.Name x pos) (TG' c (.nm i)) := by
  refine (pg_name hN hi hx hf).imp fun v σ H Q ⟨w, sl, x, e, s, rs, rv, sl', h1, h2⟩ => ?_
  subst e
  cases h1
  refine h2 _ (rs.set rv i) ⟨by simp, fun j hj => ?_⟩
  rw [List.getElem?_set_ne]
  exact fun e => hj (by rw [e]; exact List.mem_singleton.mpr rfl)
theorem ggs_nil : PGs X [] (TGs' c []) := by
  refine pgs_nil.imp fun v σ H Q ⟨w, sl, xs, e, s, rs, rv, sl', h1, h2⟩ => ?_
  subst e
  cases xs with
  | nil => cases h1; exact ⟨rv, h2 _ rs ⟨rfl, fun _ _ => rfl⟩⟩
  | cons _ _ => cases h1
theorem ggs_cons {e : Expr} {es : List Expr} {t : Tgt} {ts : List Tgt} (h1 : PG X e (TG' c t)) (h2 : PGs X es (TGs' c ts))
    (hs : (assignEach (e :: es) X.env).map (·.2) = assign e X.env :: (assignEach es X.env).map (·.2) := by rfl) : PGs X (e :: es) (TGs' c (t :: ts)) := by
  refine (pgs_cons h1 h2 hs).imp fun v σ H Q ⟨w, sl, xs, e, s, rs, rv, sl', h1, h2⟩ => ?_
  subst e
  cases xs with
  | nil => cases h1
  | cons x xs =>
    obtain ⟨y, r, e, r1, r2⟩ := rv
    simp only [bindTs] at h1
    cases q : bindT t x sl w.μ with
    | none => rw [q] at h1; cases h1
    | some sl2 =>
      rw [q] at h1
      refine ⟨y, r, e, w, sl, x, rfl, s, rs, r1, sl2, q, fun σ2 rs2 o2 => ⟨w, sl2, xs, rfl, s, rs2, r2, sl', h1, fun σ3 rs3 o3 => h2 σ3 rs3 ⟨o3.1.trans o2.1, fun i hi => ?_⟩⟩⟩
      simp only [slotsAll, List.mem_append, not_or] at hi
      exact (o3.2 i hi.2).trans (o2.2 i hi.1)
theorem bindTs_len : ∀ {ts : List Tgt} {xs : List Val} {sl : Sl} {μ : Mu} {sl' : Sl}, bindTs ts xs sl μ = some sl' → xs.length = ts.length
  | [], [], _, _, _, _ => rfl
  | [], _ :: _, _, _, _, h => by cases h
  | _ :: _, [], _, _, _, h => by cases h
  | t :: ts, x :: xs, sl, μ, sl', h => by
    simp only [bindTs] at h
    cases q : bindT t x sl μ with
    | none => rw [q] at h; cases h
    | some sl2 => rw [q] at h; simp [bindTs_len h]
theorem gg_tp {es : List Expr} {k : Nat} {ts : List Tgt} {n : Nat} (hK : X.K = c.K) (hc : X.calm = true) (h : PGs X es (TGs' c ts)) (hts : ts.length = n := by rfl)
    (hn : (assignEach es X.env).length = n := by rfl) (hst : (assignEach es X.env).findIdx? (·.1) = none := by rfl) : PG X (.Tuple es k pos) (TG' c (.tp ts)) := by
  refine ((pg_tup hc h hn hst).or (pg_lst hc h hn hst)).imp fun v σ H Q ⟨w, sl, x, e, s, rs, rv, sl', h1, h2⟩ => ?_
  subst e
  simp only [bindT] at h1
  cases q : seqOf w.μ x with
  | none => rw [q] at h1; cases h1
  | some xs =>
    rw [q] at h1
    have hl := bindTs_len h1
    obtain ⟨a, ys, e1, e2, e3⟩ := seqOf_sq s rv q
    rcases e2 with e2 | e2
    · exact .inr ⟨a, ys, e1, by rw [hK]; exact e2, by rw [← e3.length, hl, hts], w, sl, xs, rfl, s, rs, e3, sl', h1, h2⟩
    · exact .inl ⟨a, ys, e1, by rw [hK]; exact e2, by rw [← e3.length, hl, hts], w, sl, xs, rfl, s, rs, e3, sl', h1, h2⟩
end

/-! ### what is walked -/
inductive Src where
  | vals (xs : List Val) | live (r : Nat) (e : Bool)
/-- an item as it is yielded: with its number, if e -/
def eit (e : Bool) (i : Nat) (x : Val) : Val := match e with
  | true => .tup [.int i, x]
  | false => x
/-- the iterator J gives xs -/
def WalkG (c : Ct) (J : It) (xs : List Val) (w0 : Wd) : Prop := ∀ w, ExtR w0 w → Sim c w →
  (∀ (i : Nat) (x : Val), xs[i]? = some x → J.go i w.H ∧ ∀ y H', J.yld i w.H y H' → ∃ w', w'.H = H' ∧ w'.μ = w.μ ∧ Ext w w' ∧ Sim c w' ∧ RV c w' x y) ∧ J.stop xs.length w.H
/-- .. the items of the list r as it stands -/
def WalkL (c : Ct) (J : It) (r : Nat) (e : Bool) (w0 : Wd) : Prop := ∀ w, ExtR w0 w → Sim c w → ∀ xs, w.μ[r]? = some (.lst xs) →
  (∀ (i : Nat) (x : Val), xs[i]? = some x → J.go i w.H ∧ ∀ y H', J.yld i w.H y H' → ∃ w', w'.H = H' ∧ w'.μ = w.μ ∧ Ext w w' ∧ Sim c w' ∧ RV c w' (eit e i x) y) ∧ ∀ i, xs.length ≤ i → J.stop i w.H
def WalkS (c : Ct) (J : It) (s : Src) (w0 : Wd) : Prop := match s with
  | .vals xs => WalkG c J xs w0
  | .live r e => WalkL c J r e w0
def TI' (c : Ct) (W : WX) (m : M Src) : TI := fun σ H R => ∃ w sl, w.H = H ∧ Sim c w ∧ RSl c w sl σ ∧ match m sl w.μ with
  | .ok s μ' => ∀ w', w'.μ = μ' → Ext w w' → Sim c w' → ∀ J, WalkS c J s w' → R J w'.H
  | .exc e μ' => ∀ w', w'.μ = μ' → Ext w w' → Sim c w' → ∀ cls d, RX c w' e cls d → W cls d σ w'.H
  | .stuck => False
theorem _root_.L2.PI.imp {X : Cx} {tg e : Expr} {t t' : TI} (h : PI X tg e t) (k : ∀ σ H Q, t' σ H Q → t σ H Q) : PI X tg e t' := ⟨fun pins s σ H R I hw => h.run pins s σ H R I (k σ H R hw)⟩
section
variable {c : Ct} {W : WX} {X : Cx} {pos : Pos} {tg : Expr}
/-- a list at hand is walked, by values -/
theorem iter_sqL {pins : List (Addr × Obj)} {σ : St} {H : Hp} {s1 : Shared} {R : It → Hp → Prop} {a : Addr} {ys : List V} (I1 : Inv X pins σ H s1) (hq : SqL X.K H a ys) (q : R (Itl X.K a) H) : wpAny (model X.prog X.w) X.A (pyIter (.ref a)) (PIE X pins σ tg R) X.xe s1 := by
  obtain ⟨us, _, pl, _⟩ := I1.list hq
  exact wpAny_pyIter_list pl.isList (pi_one (tk := s1.toks) I1 _ (turn_list a _) ⟨_, Heap.get?_push_size _ rfl, rfl, rfl⟩ q)
theorem iter_sqT {pins : List (Addr × Obj)} {σ : St} {H : Hp} {s1 : Shared} {R : It → Hp → Prop} {a : Addr} {ys : List V} (I1 : Inv X pins σ H s1) (hq : SqT X.K H a ys) (q : R (Itt X.K a) H) : wpAny (model X.prog X.w) X.A (pyIter (.ref a)) (PIE X pins σ tg R) X.xe s1 := by
  obtain ⟨us, _, pl, _⟩ := I1.tuple hq
  exact wpAny_pyIter_tuple (show s1.heap.IsTuple a us.toArray from pl) (pi_one (tk := s1.toks) I1 _ (turn_tuple a _) ⟨_, Heap.get?_push_size _ rfl, rfl, rfl⟩ q)
/-- an expression's value, walked: a list or a tuple -/
theorem pi_seq {l : Expr} {tl : TE} (hl : PE X l tl) : PI X tg l (fun σ H R => tl σ H fun x H1 => ∃ a ys, x = .ref a ∧ ((SqL X.K H1 a ys ∧ R (Itl X.K a) H1) ∨ (SqT X.K H1 a ys ∧ R (Itt X.K a) H1))) := by
  refine ⟨fun pins s σ H R I h => thn (hl.run pins s σ H _ I h) fun v s1 ⟨x, H1, I1, r1, a, ys, e, q⟩ => ?_⟩
  subst e
  obtain rfl : v = Value.ref a := r1
  rcases q with ⟨h1, q⟩ | ⟨h1, q⟩
  · exact iter_sqL I1 h1 q
  · exact iter_sqT I1 h1 q
def srcOf (μ : Mu) (v : Val) : Option Src := match v with
  | .lst xs => some (.vals xs)
  | .tup xs => some (.vals xs)
  | .rol xs => some (.vals xs)
  | .ref r => (match μ[r]? with | some (.lst _) => some (.live r false) | _ => none)
  | _ => none
def iseq (m : M Val) : M Src := andThen m fun v => fun _ μ => match srcOf μ v with
  | some s => .ok s μ
  | none => .stuck
theorem walk_imm {w : Wd} {a : Addr} {xs : List Val} {ys : List V} (h : SqL c.K w.H a ys) (h' : ImL w a ys ∨ RoL c w a ys) (r : RVs c w xs ys) (s : Sim c w) : WalkG c (Itl c.K a) xs w := fun w1 e1 s1 => by
  have h1 : SqL c.K w1.H a ys := h'.elim (fun h => (e1.imL h).sq) fun h => (e1.roL s h).sq
  have r1 := RVs.extR s e1 _ _ r
  refine ⟨fun i x hx => ?_, ys, h1, by rw [r1.length]; exact Nat.le_refl _⟩
  obtain ⟨y, hy, ry⟩ := r1.get hx
  refine ⟨⟨ys, y, h1, hy⟩, fun z H' ⟨e2, e3⟩ => ?_⟩
  have := e3 ys h1
  rw [hy] at this
  cases this
  exact ⟨w1, e2.symm, rfl, Ext.refl _, s1, ry⟩
theorem walk_tupG {w : Wd} {a : Addr} {xs : List Val} {ys : List V} (h : SqT c.K w.H a ys) (r : RVs c w xs ys) (s : Sim c w) : WalkG c (Itt c.K a) xs w := fun w1 e1 s1 => by
  have h1 := e1.sqT s h
  have r1 := RVs.extR s e1 _ _ r
  refine ⟨fun i x hx => ?_, ys, h1, by rw [r1.length]; exact Nat.le_refl _⟩
  obtain ⟨y, hy, ry⟩ := r1.get hx
  refine ⟨⟨ys, y, h1, hy⟩, fun z H' ⟨e2, e3⟩ => ?_⟩
  have := e3 ys h1
  rw [hy] at this
  cases this
  exact ⟨w1, e2.symm, rfl, Ext.refl _, s1, ry⟩
theorem walk_live {w : Wd} {a : Addr} {r : Nat} (h : w.ρ[r]? = some a) : WalkL c (Itl c.K a) r false w := fun w1 e1 s1 xs hx => by
  have ha := e1.pre_get h
  obtain ⟨ys, h1, r1⟩ := s1.ob r a _ ha hx
  have h1 : SqL c.K w1.H a ys := SqL.of h1
  refine ⟨fun i x hx => ?_, fun i hi => ⟨ys, h1, by rw [← r1.length]; exact hi⟩⟩
  obtain ⟨y, hy, ry⟩ := r1.get hx
  refine ⟨⟨ys, y, h1, hy⟩, fun z H' ⟨e2, e3⟩ => ?_⟩
  have := e3 ys h1
  rw [hy] at this
  cases this
  exact ⟨w1, e2.symm, rfl, Ext.refl _, s1, ry⟩
theorem gi_seq {l : Expr} {ml : M Val} (hK : X.K = c.K) (hl : PE X l (TE' c W ml)) : PI X tg l (TI' c W (iseq ml)) := by
  refine (pi_seq hl).imp fun σ H R ⟨w, sl, e, s, rs, h⟩ => ?_
  subst e
  refine ⟨w, sl, rfl, s, rs, ?_⟩
  unfold iseq andThen at h
  cases q : ml sl w.μ with
  | ok v μ' =>
    rw [q] at h
    intro w' hμ ext sim x rx
    subst hμ
    rw [hK]
    cases v with
    | lst xs =>
      obtain ⟨a, ys, e1, e2, e3⟩ := rx
      exact ⟨a, ys, e1, .inl ⟨e2.sq, h w' rfl ext sim _ (walk_imm e2.sq (.inl e2) e3 sim)⟩⟩
    | rol xs =>
      obtain ⟨a, ys, e1, e2, e3⟩ := rx
      exact ⟨a, ys, e1, .inl ⟨e2.sq, h w' rfl ext sim _ (walk_imm e2.sq (.inr e2) e3 sim)⟩⟩
    | tup xs =>
      obtain ⟨a, ys, e1, e2, e3⟩ := rx
      exact ⟨a, ys, e1, .inr ⟨e2, h w' rfl ext sim _ (walk_tupG e2 e3 sim)⟩⟩
    | ref r =>
      obtain ⟨a, e1, e2⟩ := rx
      simp only [srcOf] at h
      cases q2 : w'.μ[r]? with
      | none => rw [q2] at h; exact h.elim
      | some o =>
        rw [q2] at h
        cases o with
        | lst xs =>
          obtain ⟨ys, f1, f2⟩ := sim.ob r a _ e2 q2
          exact ⟨a, ys, e1, .inl ⟨SqL.of f1, h w' rfl ext sim _ (walk_live e2)⟩⟩
        | dct _ _ => exact h.elim
    | _ => exact h.elim
  | exc x μ' => rw [q] at h; exact h
  | stuck => rw [q] at h; exact h
/-- range -/
def rgVals (a b : Int) : List Val := (List.range (b - a).toNat).map fun i => Val.int (a + (i : Nat))
def small62 (i : Int) : Bool := decide (-(2 ^ 62) ≤ i) && decide (i < 2 ^ 62)
def irng1 (m : M (List Val)) : M Src := andThen m fun vs => fun _ μ => match vs with
  | [.int j] => if small62 j then .ok (.vals (rgVals 0 j)) μ else .stuck
  | _ => .stuck
def irng2 (m : M (List Val)) : M Src := andThen m fun vs => fun _ μ => match vs with
  | [.int i, .int j] => if small62 i && small62 j then .ok (.vals (rgVals i j)) μ else .stuck
  | _ => .stuck
theorem small62_iff {i : Int} (h : small62 i = true) : -(2 ^ 62) ≤ i ∧ i < 2 ^ 62 := by
  unfold small62 at h
  obtain ⟨h1, h2⟩ := Bool.and_eq_true_iff.mp h
  exact ⟨of_decide_eq_true h1, of_decide_eq_true h2⟩
theorem rgVals_get {a b : Int} {i : Nat} {x : Val} (h : (rgVals a b)[i]? = some x) : i < (b - a).toNat ∧ x = .int (a + (i : Nat)) := by
  unfold rgVals at h
  rw [List.getElem?_map] at h
  cases q : (List.range (b - a).toNat)[i]? with
  | none => rw [q] at h; cases h
  | some j =>
    rw [q] at h
    obtain ⟨h1, h2⟩ := List.getElem?_eq_some_iff.mp q
    rw [List.length_range] at h1
    rw [List.getElem_range] at h2
    subst h2
    exact ⟨h1, (Option.some.inj h).symm⟩
theorem rgVals_len {a b : Int} : (rgVals a b).length = (b - a).toNat := by unfold rgVals; simp
theorem walk_rg {w : Wd} {a b : Int} : WalkG c (Itr a (b - a).toNat) (rgVals a b) w := fun w1 e1 s1 => by
  refine ⟨fun i x hx => ?_, by rw [rgVals_len]; exact Nat.le_refl _⟩
  obtain ⟨h1, h2⟩ := rgVals_get hx
  refine ⟨h1, fun y H' ⟨e2, e3⟩ => ⟨w1, e2.symm, rfl, Ext.refl _, s1, ?_⟩⟩
  subst h2
  exact e3
theorem ti_then {w : Wd} {sl : Sl} {σ : St} {f : List Val → M Src} {m : M (List Val)} {R : It → Hp → Prop} {K : List V → Hp → Prop}
    (hs : Sim c w) (hsl : RSl c w sl σ)
    (h : match andThen m f sl w.μ with
      | .ok s μ' => ∀ w', w'.μ = μ' → Ext w w' → Sim c w' → ∀ J, WalkS c J s w' → R J w'.H
      | .exc e μ' => ∀ w', w'.μ = μ' → Ext w w' → Sim c w' → ∀ cls d, RX c w' e cls d → W cls d σ w'.H
      | .stuck => False)
    (k : ∀ v w', Ext w w' → Sim c w' → (match f v sl w'.μ with
      | .ok s μ' => ∀ w'', w''.μ = μ' → Ext w w'' → Sim c w'' → ∀ J, WalkS c J s w'' → R J w''.H
      | .exc e μ' => ∀ w'', w''.μ = μ' → Ext w w'' → Sim c w'' → ∀ cls d, RX c w'' e cls d → W cls d σ w''.H
      | .stuck => False) → ∀ x, RVs c w' v x → K x w'.H) : TA' c W m σ w.H K := by
  refine ⟨w, sl, rfl, hs, hsl, ?_⟩
  unfold andThen at h
  cases q : m sl w.μ with
  | ok v μ' =>
    rw [q] at h
    intro w' hμ ext sim x rx
    subst hμ
    exact k v w' ext sim h x rx
  | exc x μ' =>
    rw [q] at h
    exact h
  | stuck => rw [q] at h; exact h
theorem gi_rng1 {a : Expr} {ma : M (List Val)} {p : Pos} (hm : X.mg "range" = none) (ha : PA X [a] (TA' c W ma)) (hg : Gl X "range" := by rfl) (hs : starEach [a] X.env = [(false, eval a X.env)] := by rfl) : PI X tg (.Call (.Name "range" p) [a] [] pos) (TI' c W (irng1 ma)) := by
  refine (pi_range1 hg hm ha hs).imp fun σ H R ⟨w, sl, e, s, rs, h⟩ => ?_
  subst e
  refine ti_then s rs h fun vs w1 e1 s1 h1 xs rx => ?_
  split at h1
  · rename_i s' μ' q
    split at q
    · rename_i j
      obtain ⟨x, ex, rx⟩ := rx.one
      split at q
      · rename_i hj
        cases q
        obtain ⟨b1, b2⟩ := small62_iff hj
        refine ⟨j, by rw [ex, show x = V.int j from rx], b1, b2, ?_⟩
        have := h1 w1 rfl e1 s1 (Itr 0 (j - 0).toNat) walk_rg
        rwa [Int.sub_zero] at this
      · cases q
    · cases q
  · rename_i q
    split at q
    · split at q <;> cases q
    · cases q
  · exact h1.elim
theorem gi_rng2 {a b : Expr} {ma : M (List Val)} {p : Pos} (hm : X.mg "range" = none) (ha : PA X [a, b] (TA' c W ma)) (hg : Gl X "range" := by rfl) (hs : starEach [a, b] X.env = [(false, eval a X.env), (false, eval b X.env)] := by rfl) (hs2 : starEach [b] X.env = [(false, eval b X.env)] := by rfl) : PI X tg (.Call (.Name "range" p) [a, b] [] pos) (TI' c W (irng2 ma)) := by
  refine (pi_range2 hg hm ha hs hs2).imp fun σ H R ⟨w, sl, e, s, rs, h⟩ => ?_
  subst e
  refine ti_then s rs h fun vs w1 e1 s1 h1 xs rx => ?_
  split at h1
  · rename_i s' μ' q
    split at q
    · rename_i i j
      obtain ⟨x, y, ex, rx, ry⟩ := rx.two
      split at q
      · rename_i hj
        cases q
        obtain ⟨hi, hj⟩ := Bool.and_eq_true_iff.mp hj
        obtain ⟨b1, b2⟩ := small62_iff hi
        obtain ⟨b3, b4⟩ := small62_iff hj
        exact ⟨i, j, by rw [ex, show x = V.int i from rx, show y = V.int j from ry], ⟨b1, b2, b3, b4⟩, h1 w1 rfl e1 s1 (Itr i (j - i).toNat) walk_rg⟩
      · cases q
    · cases q
  · rename_i q
    split at q
    · split at q <;> cases q
    · cases q
  · exact h1.elim

/-! ### statements -/
def sskip : B := fun sl μ => .nx sl μ
def sbrk : B := fun sl μ => .bk sl μ
def scnt : B := fun sl μ => .ct sl μ
def sseq (a b : B) : B := fun sl μ => match a sl μ with
  | .nx sl' μ' => b sl' μ'
  | r => r
/-- an expression, then the rest -/
def sthen {α : Type} (m : M α) (f : α → B) : B := fun sl μ => match m sl μ with
  | .ok v μ' => f v sl μ'
  | .exc e μ' => .exc e sl μ'
  | .stuck => .stuck
def sret (m : M Val) : B := sthen m fun v => fun _ μ => .rt v μ
def sretN : B := fun _ μ => .rt .non μ
def sdrop (m : M Val) : B := sthen m fun _ => fun sl μ => .nx sl μ
def sif (t : M Bool) (a b : B) : B := sthen t fun k => if k then a else b
def sasg (m : M Val) (t : Tgt) : B := sthen m fun v => fun sl μ => match bindT t v sl μ with
  | some sl' => .nx sl' μ
  | none => .stuck
def spar (m : M (List Val)) (i j : Nat) : B := sthen m fun vs => fun sl μ => match vs with
  | [v, u] => .nx ((sl.set i (some v)).set j (some u)) μ
  | _ => .stuck
theorem PostS.nx_here {w : Wd} {sl : Sl} {σ : St} {D : Ends} (h : PostS c w (.nx sl w.μ) D W) (s : Sim c w) (r : RSl c w sl σ) : D.nx σ w.H := h w rfl (Ext.refl w) s σ r
theorem gs_nil : PSs X [] (TS' c W sskip) := pss_nil.imp fun D σ H ⟨w, sl, e, s, rs, h⟩ => by subst e; exact h.nx_here s rs
theorem gs_cons {st : Stmt} {rest : List Stmt} {a b : B} (h1 : PS X st (TS' c W a)) (h2 : PSs X rest (TS' c W b)) : PSs X (st :: rest) (TS' c W (sseq a b)) := by
  refine (pss_cons h1 h2).imp fun D σ H ⟨w, sl, e, s, rs, h⟩ => ⟨w, sl, e, s, rs, ?_⟩
  unfold sseq at h
  cases q : a sl w.μ with
  | nx sl' μ' =>
    rw [q] at h
    intro w' hμ ext sim σ' rs'
    subst hμ
    exact ⟨w', sl', rfl, sim, rs', h.ext ext⟩
  | rt v μ' => rw [q] at h; exact h
  | bk v μ' => rw [q] at h; exact h
  | ct v μ' => rw [q] at h; exact h
  | exc x v μ' => rw [q] at h; exact h
  | stuck => rw [q] at h; exact h
theorem gs_one {st : Stmt} {a : B} (h1 : PS X st (TS' c W a)) : PSs X [st] (TS' c W a) := pss_one h1
theorem gs_pass : PS X (.Pass pos) (TS' c W sskip) := ps_pass.imp fun D σ H ⟨w, sl, e, s, rs, h⟩ => by subst e; exact h.nx_here s rs
theorem gs_break : PS X (.Break pos) (TS' c W sbrk) := ps_break.imp fun D σ H ⟨w, sl, e, s, rs, h⟩ => by subst e; exact h w rfl (Ext.refl w) s σ rs
theorem gs_cont : PS X (.Continue pos) (TS' c W scnt) := ps_continue.imp fun D σ H ⟨w, sl, e, s, rs, h⟩ => by subst e; exact h w rfl (Ext.refl w) s σ rs
theorem gs_doc {x j pos'} : PS X (.Expr (.Constant (.str x) j pos) pos') (TS' c W sskip) := ps_doc.imp fun D σ H ⟨w, sl, e, s, rs, h⟩ => by subst e; exact h.nx_here s rs
/-- from an expression to the rest of a statement -/
theorem ts_then {w : Wd} {sl : Sl} {σ : St} {f : Val → B} {m : M Val} {D : Ends} {K : VK} (hs : Sim c w) (hsl : RSl c w sl σ) (h : PostS c w (sthen m f sl w.μ) D W)
    (k : ∀ v w', Ext w w' → Sim c w' → RSl c w' sl σ → PostS c w (f v sl w'.μ) D W → ∀ x, RV c w' v x → K x w'.H) : TE' c W m σ w.H K := by
  refine ⟨w, sl, rfl, hs, hsl, ?_⟩
  unfold sthen at h
  cases e : m sl w.μ with
  | ok v μ' =>
    rw [e] at h
    intro w' hμ ext sim x rx
    subst hμ
    exact k v w' ext sim (hsl.ext hs ext) h x rx
  | exc x μ' =>
    rw [e] at h
    exact fun w' hμ ext sim cls d r => h w' hμ ext sim σ cls d (hsl.ext hs ext) r
  | stuck => rw [e] at h; exact h
theorem tst_then {w : Wd} {sl : Sl} {σ : St} {f : Bool → B} {m : M Bool} {D : Ends} {K : Bool → Hp → Prop} (hs : Sim c w) (hsl : RSl c w sl σ) (h : PostS c w (sthen m f sl w.μ) D W)
    (k : ∀ v w', Ext w w' → Sim c w' → RSl c w' sl σ → PostS c w (f v sl w'.μ) D W → K v w'.H) : TT' c W m σ w.H K := by
  refine ⟨w, sl, rfl, hs, hsl, ?_⟩
  unfold sthen at h
  cases e : m sl w.μ with
  | ok v μ' =>
    rw [e] at h
    intro w' hμ ext sim
    subst hμ
    exact k v w' ext sim (hsl.ext hs ext) h
  | exc x μ' =>
    rw [e] at h
    exact fun w' hμ ext sim cls d r => h w' hμ ext sim σ cls d (hsl.ext hs ext) r
  | stuck => rw [e] at h; exact h
theorem tsa_then {w : Wd} {sl : Sl} {σ : St} {f : List Val → B} {m : M (List Val)} {D : Ends} {K : List V → Hp → Prop} (hs : Sim c w) (hsl : RSl c w sl σ) (h : PostS c w (sthen m f sl w.μ) D W)
    (k : ∀ v w', Ext w w' → Sim c w' → RSl c w' sl σ → PostS c w (f v sl w'.μ) D W → ∀ x, RVs c w' v x → K x w'.H) : TA' c W m σ w.H K := by
  refine ⟨w, sl, rfl, hs, hsl, ?_⟩
  unfold sthen at h
  cases e : m sl w.μ with
  | ok v μ' =>
    rw [e] at h
    intro w' hμ ext sim x rx
    subst hμ
    exact k v w' ext sim (hsl.ext hs ext) h x rx
  | exc x μ' =>
    rw [e] at h
    exact fun w' hμ ext sim cls d r => h w' hμ ext sim σ cls d (hsl.ext hs ext) r
  | stuck => rw [e] at h; exact h
theorem gs_ret {e : Expr} {m : M Val} (he : PE X e (TE' c W m)) : PS X (.Return (some e) pos) (TS' c W (sret m)) := by
  refine (ps_ret he).imp fun D σ H ⟨w, sl, e, s, rs, h⟩ => ?_
  subst e
  exact ts_then s rs h fun v w1 e1 s1 rs1 h1 x rx => h1 w1 rfl e1 s1 x rx
theorem gs_retN : PS X (.Return none pos) (TS' c W sretN) := ps_retN.imp fun D σ H ⟨w, sl, e, s, rs, h⟩ => by subst e; exact h w rfl (Ext.refl w) s .non rfl
theorem gs_expr {e : Expr} {m : M Val} (he : PE X e (TE' c W m)) (hs : swapsWith e none pos.line X.env = pure false := by rfl) : PS X (.Expr e pos) (TS' c W (sdrop m)) := by
  refine (ps_expr he hs).imp fun D σ H ⟨w, sl, e, s, rs, h⟩ => ?_
  subst e
  exact ts_then s rs h fun v w1 e1 s1 rs1 h1 x rx => h1 w1 rfl e1 s1 σ rs1
theorem gs_if {t : Expr} {a b : List Stmt} {mt : M Bool} {ba bb : B} (ht : PT X t (TT' c W mt)) (ha : PSs X a (TS' c W ba)) (hb : PSs X b (TS' c W bb)) : PS X (.If t a b pos) (TS' c W (sif mt ba bb)) := by
  refine (ps_if ht ha hb).imp fun D σ H ⟨w, sl, e, s, rs, h⟩ => ?_
  subst e
  refine tst_then s rs h fun v w1 e1 s1 rs1 h1 => ?_
  cases v with
  | true => exact iteT ⟨w1, sl, rfl, s1, rs1, h1.ext e1⟩
  | false => exact iteF ⟨w1, sl, rfl, s1, rs1, h1.ext e1⟩
theorem asg_fin {w w1 : Wd} {sl : Sl} {σ : St} {D : Ends} {t : Tgt} {v : Val} {x : V} (e1 : Ext w w1) (s1 : Sim c w1) (rs1 : RSl c w1 sl σ) (h1 : PostS c w (match bindT t v sl w1.μ with
  | some sl' => .nx sl' w1.μ
  | none => .stuck) D W) (rx : RV c w1 v x) : TG' c t x σ w1.H D.nx := by
  cases q : bindT t v sl w1.μ with
  | none => rw [q] at h1; exact h1.elim
  | some sl' =>
    rw [q] at h1
    exact ⟨w1, sl, v, rfl, s1, rs1, rx, sl', q, fun σ' r' _ => h1 w1 rfl e1 s1 σ' r'⟩
theorem gs_asg {tg e : Expr} {m : M Val} {t : Tgt} (he : PE X e (TE' c W m)) (hg : PG X tg (TG' c t)) (hs : swapsWithSole [tg] e pos.line X.env = pure false := by rfl) (hw : swappedStores [tg] e X.env = pure none := by rfl)
    (h1 : (assignEach [tg] X.env).map (·.2) = [assign tg X.env] := by rfl) : PS X (.Assign [tg] e pos) (TS' c W (sasg m t)) := by
  refine (ps_asg he hg hs hw h1).imp fun D σ H ⟨w, sl, e, s, rs, h⟩ => ?_
  subst e
  exact ts_then s rs h fun v w1 e1 s1 rs1 h1 x rx => asg_fin e1 s1 rs1 h1 rx
/-- name = e -/
theorem gs_set {i : Nat} {x : Str} {e : Expr} {m : M Val} {pos' : Pos} (hN : X.N.Nodup) (hi : X.N[i]? = some x) (hx : Loc X.env.scope x) (he : PE X e (TE' c W m)) (hs : swapsWith e (some (.Name x pos')) pos.line X.env = pure false := by rfl) (hf : X.fn x = true ∨ X.env.scope.names.lookup x = some .local := by first | exact .inl rfl | exact .inr rfl | assumption) :
    PS X (.Assign [.Name x pos'] e pos) (TS' c W (sasg m (.nm i))) := by
  refine (ps_set hN hi hx he hs hf).imp fun D σ H ⟨w, sl, e, s, rs, h⟩ => ?_
  subst e
  refine ts_then s rs h fun v w1 e1 s1 rs1 h1 x rx => ?_
  exact h1 w1 rfl e1 s1 _ (rs1.set rx i)
/-- a, b = x, y -/
theorem gs_par {i j : Nat} {x y : Str} {a b : Expr} {m : M (List Val)} {px py pt : Pos} {kt k2 pt2} (hc : X.calm = true) (hN : X.N.Nodup) (hi : X.N[i]? = some x) (hj : X.N[j]? = some y) (hij : i ≠ j)
    (hx : X.env.scope.names.lookup x = some .local) (hy : X.env.scope.names.lookup y = some .local) (ha : PA X [a, b] (TA' c W m))
    (hw : swappedStores [.Tuple [.Name x px, .Name y py] kt pt] (.Tuple [a, b] k2 pt2) X.env = pure (some [x, y]))
    (hs : swapsWithSole [.Tuple [.Name x px, .Name y py] kt pt] (.Tuple [a, b] k2 pt2) pos.line X.env = pure false := by rfl) :
    PS X (.Assign [.Tuple [.Name x px, .Name y py] kt pt] (.Tuple [a, b] k2 pt2) pos) (TS' c W (spar m i j)) := by
  refine (ps_par hc hN hi hj hij hx hy ha hw hs).imp fun D σ H ⟨w, sl, e, s, rs, h⟩ => ?_
  subst e
  refine tsa_then s rs h fun vs w1 e1 s1 rs1 h1 xs rx => ?_
  split at h1
  · rename_i v u
    obtain ⟨p, q, ex, r1, r2⟩ := rx.two
    exact ⟨p, q, ex, h1 w1 rfl e1 s1 _ ((rs1.set r1 i).set r2 j)⟩
  · exact h1.elim
end
end G

/-! G7: loops, comprehensions. -/
namespace G
open PySem PySem.Spec PyProof.Rows L2

/-- a for over items that stand -/
def forL (t : Tgt) (body : B) : List Val → B
  | [], sl, μ => .nx sl μ
  | x :: xs, sl, μ => match bindT t x sl μ with
    | none => .stuck
    | some sl' => match body sl' μ with
      | .nx sl2 μ2 => forL t body xs sl2 μ2
      | .ct sl2 μ2 => forL t body xs sl2 μ2
      | .bk sl2 μ2 => .nx sl2 μ2
      | r => r
/-- a for over a list that the body may change; fuel bounds the turns -/
def forR (t : Tgt) (body : B) (r : Nat) (e : Bool) : Nat → Nat → B
  | 0, _, _, _ => .stuck
  | n + 1, i, sl, μ => match μ[r]? with
    | some (.lst xs) => (match xs[i]? with
      | none => .nx sl μ
      | some x => match bindT t (eit e i x) sl μ with
        | none => .stuck
        | some sl' => match body sl' μ with
          | .nx sl2 μ2 => forR t body r e n (i + 1) sl2 μ2
          | .ct sl2 μ2 => forR t body r e n (i + 1) sl2 μ2
          | .bk sl2 μ2 => .nx sl2 μ2
          | f => f)
    | _ => .stuck
def FUEL : Nat := 1000000000000
def sfor (src : M Src) (t : Tgt) (body : B) : B := sthen src fun s => match s with
  | .vals xs => forL t body xs
  | .live r e => forR t body r e FUEL 0
def swhile (c : M Bool) (body : B) : Nat → B
  | 0, _, _ => .stuck
  | n + 1, sl, μ => match c sl μ with
    | .ok true μ1 => (match body sl μ1 with
      | .nx sl2 μ2 => swhile c body n sl2 μ2
      | .ct sl2 μ2 => swhile c body n sl2 μ2
      | .bk sl2 μ2 => .nx sl2 μ2
      | f => f)
    | .ok false μ1 => .nx sl μ1
    | .exc e μ1 => .exc e sl μ1
    | .stuck => .stuck
section
variable {c : Ct} {W : WX} {X : Cx} {pos : Pos}
/-- the ends of a turn -/
theorem turn_post {w : Wd} {f : Flow} {k : B} {D : Ends} {N : St → Hp → Prop}
    (h : PostS c w (match f with
      | .nx sl2 μ2 => k sl2 μ2
      | .ct sl2 μ2 => k sl2 μ2
      | .bk sl2 μ2 => .nx sl2 μ2
      | r => r) D W)
    (hN : ∀ w' sl σ, Ext w w' → Sim c w' → RSl c w' sl σ → PostS c w (k sl w'.μ) D W → N σ w'.H) : PostS c w f { D with nx := N, ct := N, bk := D.nx } W := by
  cases f with
  | nx sl μ => exact fun w' hμ ext sim σ rs => hN w' sl σ ext sim rs (by rw [hμ]; exact h)
  | ct sl μ => exact fun w' hμ ext sim σ rs => hN w' sl σ ext sim rs (by rw [hμ]; exact h)
  | bk sl μ => exact h
  | rt v μ => exact h
  | exc e sl μ => exact h
  | stuck => exact h
theorem gs_for {tg iter : Expr} {body : List Stmt} {src : M Src} {t : Tgt} {b : B} (hp : PassesOwn (model X.prog X.w) X.A X.env X.xe) (hc : X.calm = true) (hi : PI X tg iter (TI' c W src)) (hg : PG X tg (TG' c t)) (hb : PSs X body (TS' c W b))
    (hs : ∀ x, foldedSetIterable iter X.env x = pure x := by intro _; rfl) : PS X (.For tg iter body [] pos) (TS' c W (sfor src t b)) := by
  refine (ps_for hp hc hi hg hb hs).imp fun D σ H ⟨w, sl, e, s, rs, h⟩ => ?_
  subst e
  refine ⟨w, sl, rfl, s, rs, ?_⟩
  unfold sfor sthen at h
  cases q : src sl w.μ with
  | stuck => rw [q] at h; exact h
  | exc x μ' =>
    rw [q] at h
    exact fun w' hμ ext sim cls d r => h w' hμ ext sim σ cls d (rs.ext s ext) r
  | ok sr μ' =>
    rw [q] at h
    intro w0 hμ ext0 sim0 J hJ
    subst hμ
    cases sr with
    | vals xs =>
      have hJ : WalkG c J xs w0 := hJ
      have h : PostS c w (forL t b xs sl w0.μ) D W := h
      refine ⟨fun i m σ H => m = xs.length - i ∧ i ≤ xs.length ∧ ∃ w1 sl1, w1.H = H ∧ Ext w0 w1 ∧ Sim c w1 ∧ RSl c w1 sl1 σ ∧ PostS c w1 (forL t b (xs.drop i) sl1 w1.μ) D W, ⟨xs.length, by simp, Nat.zero_le _, w0, sl, rfl, Ext.refl _, sim0, rs.ext s ext0, by simpa using h.ext ext0⟩, ?_⟩
      rintro i m σ1 H1 ⟨rfl, hi', w1, sl1, rfl, e1, s1, rs1, h1⟩
      obtain ⟨go, st⟩ := hJ w1 e1.r s1
      by_cases hlt : i < xs.length
      · obtain ⟨g1, g2⟩ := go i xs[i] (List.getElem?_eq_getElem hlt)
        refine .inr ⟨g1, fun σ' H' => ∃ w2 sl2, w2.H = H' ∧ Ext w0 w2 ∧ Sim c w2 ∧ RSl c w2 sl2 σ' ∧ PostS c w2 (forL t b (xs.drop (i + 1)) sl2 w2.μ) D W, fun σ' H' h => ⟨xs.length - (i + 1), by omega, rfl, hlt, h⟩, fun y H' hy => ?_⟩
        obtain ⟨w2, rfl, hμ2, e2, s2, r2⟩ := g2 y H' hy
        rw [List.drop_eq_getElem_cons hlt] at h1
        simp only [forL] at h1
        cases qb : bindT t xs[i] sl1 w1.μ with
        | none => rw [qb] at h1; exact h1.elim
        | some sl' =>
          rw [qb] at h1
          refine ⟨w2, sl1, xs[i], rfl, s2, rs1.ext s1 e2, r2, sl', by rw [hμ2]; exact qb, fun σ2 rs2 _ => ⟨w2, sl', rfl, s2, rs2, ?_⟩⟩
          rw [hμ2]
          exact turn_post (h1.ext e2) fun w3 sl3 σ3 e3 s3 rs3 p3 => ⟨w3, sl3, rfl, e1.trans (e2.trans e3), s3, rs3, p3.ext e3⟩
      · have e : i = xs.length := by omega
        subst e
        rw [List.drop_length] at h1
        exact .inl ⟨st, h1.nx_here s1 rs1⟩
    | live r e =>
      have hJ : WalkL c J r e w0 := hJ
      have h : PostS c w (forR t b r e FUEL 0 sl w0.μ) D W := h
      refine ⟨fun i m σ H => ∃ w1 sl1, w1.H = H ∧ Ext w0 w1 ∧ Sim c w1 ∧ RSl c w1 sl1 σ ∧ PostS c w1 (forR t b r e m i sl1 w1.μ) D W, ⟨FUEL, w0, sl, rfl, Ext.refl _, sim0, rs.ext s ext0, h.ext ext0⟩, ?_⟩
      rintro i m σ1 H1 ⟨w1, sl1, rfl, e1, s1, rs1, h1⟩
      cases m with
      | zero => exact h1.elim
      | succ m =>
        simp only [forR] at h1
        cases qr : w1.μ[r]? with
        | none => rw [qr] at h1; exact h1.elim
        | some o =>
          rw [qr] at h1
          cases o with
          | dct _ _ => exact h1.elim
          | lst xs =>
            obtain ⟨go, st⟩ := hJ w1 e1.r s1 xs qr
            dsimp only at h1
            cases qi : xs[i]? with
            | none =>
              rw [qi] at h1
              exact .inl ⟨st i (List.getElem?_eq_none_iff.mp qi), h1.nx_here s1 rs1⟩
            | some x =>
              rw [qi] at h1
              dsimp only at h1
              obtain ⟨g1, g2⟩ := go i x qi
              refine .inr ⟨g1, fun σ' H' => ∃ w2 sl2, w2.H = H' ∧ Ext w0 w2 ∧ Sim c w2 ∧ RSl c w2 sl2 σ' ∧ PostS c w2 (forR t b r e m (i + 1) sl2 w2.μ) D W, fun σ' H' h => ⟨m, by omega, h⟩, fun y H' hy => ?_⟩
              obtain ⟨w2, rfl, hμ2, e2, s2, r2⟩ := g2 y H' hy
              cases qb : bindT t (eit e i x) sl1 w1.μ with
              | none => rw [qb] at h1; exact h1.elim
              | some sl' =>
                rw [qb] at h1
                refine ⟨w2, sl1, eit e i x, rfl, s2, rs1.ext s1 e2, r2, sl', by rw [hμ2]; exact qb, fun σ2 rs2 _ => ⟨w2, sl', rfl, s2, rs2, ?_⟩⟩
                rw [hμ2]
                exact turn_post (h1.ext e2) fun w3 sl3 σ3 e3 s3 rs3 p3 => ⟨w3, sl3, rfl, e1.trans (e2.trans e3), s3, rs3, p3.ext e3⟩
theorem gs_while {t : Expr} {body : List Stmt} {mt : M Bool} {b : B} (n : Nat) (hp : PassesOwn (model X.prog X.w) X.A X.env X.xe) (ht : PT X t (TT' c W mt)) (hb : PSs X body (TS' c W b)) : PS X (.While t body [] pos) (TS' c W (swhile mt b n)) := by
  refine (ps_while hp ht hb).imp fun D σ H ⟨w, sl, e, s, rs, h⟩ => ?_
  subst e
  refine ⟨fun m σ H => ∃ w1 sl1, w1.H = H ∧ Sim c w1 ∧ RSl c w1 sl1 σ ∧ PostS c w1 (swhile mt b m sl1 w1.μ) D W, ⟨n, w, sl, rfl, s, rs, h⟩, ?_⟩
  rintro m σ1 H1 ⟨w1, sl1, rfl, s1, rs1, h1⟩
  cases m with
  | zero => exact h1.elim
  | succ m =>
    refine ⟨w1, sl1, rfl, s1, rs1, ?_⟩
    simp only [swhile] at h1
    cases q : mt sl1 w1.μ with
    | stuck => rw [q] at h1; exact h1
    | exc x μ' =>
      rw [q] at h1
      exact fun w' hμ ext sim cls d r => h1 w' hμ ext sim σ1 cls d (rs1.ext s1 ext) r
    | ok k μ' =>
      rw [q] at h1
      intro w2 hμ e2 s2
      subst hμ
      cases k with
      | false =>
        refine iteF ?_
        exact h1 w2 rfl e2 s2 σ1 (rs1.ext s1 e2)
      | true =>
        refine iteT ⟨fun σ' H' => ∃ w3 sl3, w3.H = H' ∧ Sim c w3 ∧ RSl c w3 sl3 σ' ∧ PostS c w3 (swhile mt b m sl3 w3.μ) D W, fun σ' H' h => ⟨m, by omega, h⟩, w2, sl1, rfl, s2, rs1.ext s1 e2, ?_⟩
        exact turn_post (PostS.ext h1 e2) fun w3 sl3 σ3 e3 s3 rs3 p3 => ⟨w3, sl3, rfl, s3, rs3, p3.ext e3⟩

end

/-! ### worlds that agree but at one place -/
section
variable {c : Ct} {w w2 : Wd} {D : Addr}
structure Off (w w2 : Wd) (D : Addr) : Prop where
  H : ∀ a, a ≠ D → w2.H a = w.H a
  ρ : w2.ρ = w.ρ
  rs : ∀ a, a ∈ w2.rs → a ∈ w.rs ∨ a = D
  at_ : (D ∈ w.rs ∧ ∃ o, w.H D = some o ∧ LD o) ∨ w.H D = none
theorem Off.rd (f : Off w w2 D) {a : Addr} {o : HO} (h : Rd w.H a o) (n : a ≠ D) : Rd w2.H a o := by
  rcases h with h | ⟨q, h⟩
  · exact .inl ((f.H a n).trans h)
  · exact .inr ⟨q, (f.H a n).trans h⟩
theorem Off.sqT (f : Off w w2 D) {a : Addr} {ys : List V} (h : SqT c.K w.H a ys) : SqT c.K w2.H a ys := by
  rcases h with h | h
  · refine .inl (f.rd h fun e => ?_)
    subst e
    rcases f.at_ with ⟨_, o, q, l⟩ | q
    · rcases l with ⟨_, l⟩ | ⟨_, l⟩ | ⟨_, l⟩ <;> (subst l; rcases h with h | ⟨_, h⟩ <;> (rw [q] at h; cases h))
    · exact rd_none h q
  · exact .inr h
theorem Off.imL (f : Off w w2 D) {a : Addr} {ys : List V} (h : ImL w a ys) : ImL w2 a ys := by
  obtain ⟨h, n, r⟩ := h
  have ne : a ≠ D := fun e => by
    subst e
    rcases f.at_ with ⟨q, _⟩ | q
    · exact r q
    · rw [h] at q; cases q
  exact ⟨(f.H a ne).trans h, by rw [f.ρ]; exact n, fun hm => (f.rs a hm).elim r ne⟩
theorem Off.roL (f : Off w w2 D) {a : Addr} {ys : List V} (h : RoL c w a ys) : RoL c w2 a ys := by
  rcases h with ⟨o, h⟩ | h
  · refine .inl ⟨o, (f.H a fun e => ?_).trans h⟩
    subst e
    rcases f.at_ with ⟨_, o, q, l⟩ | q
    · rcases l with ⟨_, l⟩ | ⟨_, l⟩ | ⟨_, l⟩ <;> (subst l; rw [h] at q; cases q)
    · rw [h] at q; cases q
  · exact .inr h
theorem Off.imD (f : Off w w2 D) {a : Addr} {ks : List DKey} {ys : List V} (h : ImD c w a ks ys) : ImD c w2 a ks ys := by
  obtain ⟨h, n, r⟩ := h
  obtain ⟨o, ho⟩ := h.some
  have ne : a ≠ D := fun e => by
    subst e
    rcases f.at_ with ⟨q, _⟩ | q
    · exact r q
    · rw [ho] at q; cases q
  exact ⟨h.congr (f.H a ne), by rw [f.ρ]; exact n, fun hm => (f.rs a hm).elim r ne⟩
mutual
theorem RV.off (f : Off w w2 D) : ∀ (x : Val) (v : V), RV c w x v → RV c w2 x v
  | .non, _, h => h
  | .bl _, _, h => h
  | .int _, _, h => h
  | .str _, _, h => h
  | .tup xs, _, ⟨a, ys, e1, e2, e3⟩ => ⟨a, ys, e1, f.sqT e2, RVs.off f xs ys e3⟩
  | .lst xs, _, ⟨a, ys, e1, e2, e3⟩ => ⟨a, ys, e1, f.imL e2, RVs.off f xs ys e3⟩
  | .rol xs, _, ⟨a, ys, e1, e2, e3⟩ => ⟨a, ys, e1, f.roL e2, RVs.off f xs ys e3⟩
  | .ref n, _, ⟨a, e1, e2⟩ => ⟨a, e1, by rw [f.ρ]; exact e2⟩
  | .fn _, _, h => h
  | .ty _, _, h => h
  | .dct ks vs, _, ⟨a, ys, e1, e2, e3⟩ => ⟨a, ys, e1, f.imD e2, RVs.off f vs ys e3⟩
theorem RVs.off (f : Off w w2 D) : ∀ (xs : List Val) (ys : List V), RVs c w xs ys → RVs c w2 xs ys
  | [], _, h => h
  | x :: xs, _, ⟨y, r, e1, e2, e3⟩ => ⟨y, r, e1, RV.off f x y e2, RVs.off f xs r e3⟩
end
theorem RSl.off (f : Off w w2 D) : ∀ {sl : Sl} {σ : St}, RSl c w sl σ → RSl c w2 sl σ
  | [], _, h => h
  | none :: sl, _, ⟨y, r, e1, e2⟩ => ⟨y, r, e1, RSl.off f e2⟩
  | some x :: sl, _, ⟨y, r, e1, e2, e3⟩ => ⟨y, r, e1, RV.off f x y e2, RSl.off f e3⟩
theorem Sim.off (f : Off w w2 D) (s : Sim c w) (hμ : w2.μ = w.μ) (hD : D ∉ w.ρ) (h2 : D ∈ w2.rs → ∃ o, w2.H D = some o) : Sim c w2 := by
  refine ⟨by rw [f.ρ, hμ]; exact s.len, by rw [f.ρ]; exact s.nd, fun i a o h1 h3 => ?_, fun a ha => ?_⟩
  · rw [f.ρ] at h1
    rw [hμ] at h3
    have ne : a ≠ D := fun e => hD (e ▸ List.mem_of_getElem? h1)
    have ro := s.ob i a o h1 h3
    cases o with
    | lst xs => obtain ⟨ys, q, r⟩ := ro; exact ⟨ys, (f.H a ne).trans q, RVs.off f _ _ r⟩
    | dct ks vs => obtain ⟨ys, q, r⟩ := ro; exact ⟨ys, q.congr (f.H a ne), RVs.off f _ _ r⟩
  · rw [f.ρ]
    by_cases e : a = D
    · subst e; exact ⟨hD, h2 ha⟩
    · rcases f.rs a ha with h | h
      · obtain ⟨h1, xs, h3⟩ := s.rs a h
        exact ⟨h1, xs, (f.H a e).trans h3⟩
      · exact absurd h e
/-- the world without what stands at D -/
def Wd.but (w : Wd) (D : Addr) (rs : List Addr) : Wd := { w with H := fun a => if a = D then none else w.H a, rs := rs }
theorem but_ext {rs : List Addr} (e : Ext w w2) (h : w.H D ≠ none) (n : D ∉ w.ρ) : Ext (w.but D rs) (w2.but D rs) := by
  obtain ⟨δ, p, q⟩ := e.pre
  refine ⟨⟨δ, p, fun a ha => ?_⟩, rfl, fun a o h1 h2 => ?_, fun a h1 => ?_⟩
  · show (if a = D then none else w.H a) = none
    split
    · rfl
    · exact q a ha
  · have h1 : (if a = D then none else w.H a) = some o := h1
    show (if a = D then none else w2.H a) = some o
    split at h1
    · cases h1
    · rename_i ne
      rw [if_neg ne]
      exact e.keep a o h1 h2
  · have h1 : (if a = D then none else w.H a) ≠ none := h1
    show (if a = D then none else w2.H a) ≠ none
    split at h1
    · exact absurd rfl h1
    · rename_i ne
      rw [if_neg ne]
      exact e.there a h1
/-- D laid and kept for the one who fills it -/
def Wd.res (w : Wd) (D : Addr) (ys : List V) : Wd := { w with H := upd w.H D (.lst ys), rs := D :: w.rs }
theorem res_off (n : w.H D = none) (ys : List V) : Off w (w.res D ys) D := ⟨fun a h => upd_ne h, rfl, fun a h => (List.mem_cons.mp h).elim .inr .inl, .inr n⟩
/-- .. filled further -/
theorem fill_off {ys zs : List V} (h : w.H D = some (.lst ys)) (hr : D ∈ w.rs) : Off w { w with H := upd w.H D (.lst zs) } D := ⟨fun a h => upd_ne h, rfl, fun a h => .inl h, .inl ⟨hr, _, h, .lst ys⟩⟩
theorem but_off {rs : List Addr} {ys : List V} (h : w.H D = some (.lst ys)) (hr : w.rs = D :: rs) : Off w (w.but D rs) D := ⟨fun a h => if_neg h, rfl, fun a h => .inl (by rw [hr]; exact List.mem_cons_of_mem _ h), .inl ⟨by rw [hr]; exact List.mem_cons_self, _, h, .lst ys⟩⟩
end

/-! ### comprehensions -/
/-- nothing is raised within a comprehension -/
abbrev W0 : WX := fun _ _ _ _ => False
/-- one clause -/
def lcL (own : List Nat) (t : Tgt) (cond : M Bool) (elt : M Val) : List Val → M (List Val)
  | [], _, μ => .ok [] μ
  | x :: xs, sl, μ => match bindT t x (wipeS sl own) μ with
    | none => .stuck
    | some sl' => match cond sl' μ with
      | .ok false μ1 => lcL own t cond elt xs sl μ1
      | .ok true μ1 => (match elt sl' μ1 with
        | .ok v μ2 => (match lcL own t cond elt xs sl μ2 with
          | .ok vs μ3 => .ok (v :: vs) μ3
          | _ => .stuck)
        | _ => .stuck)
      | _ => .stuck
/-- .. over a list that may change -/
def lcR (own : List Nat) (t : Tgt) (cond : M Bool) (elt : M Val) (r : Nat) (e : Bool) : Nat → Nat → M (List Val)
  | 0, _, _, _ => .stuck
  | n + 1, i, sl, μ => match μ[r]? with
    | some (.lst xs) => (match xs[i]? with
      | none => .ok [] μ
      | some x => match bindT t (eit e i x) (wipeS sl own) μ with
        | none => .stuck
        | some sl' => match cond sl' μ with
          | .ok false μ1 => lcR own t cond elt r e n (i + 1) sl μ1
          | .ok true μ1 => (match elt sl' μ1 with
            | .ok v μ2 => (match lcR own t cond elt r e n (i + 1) sl μ2 with
              | .ok vs μ3 => .ok (v :: vs) μ3
              | _ => .stuck)
            | _ => .stuck)
          | _ => .stuck)
    | _ => .stuck
def tyes : M Bool := fun _ μ => .ok true μ
/-- not too long -/
def short (r : Res (List Val)) : Res (List Val) := match r with
  | .ok vs μ => if vs.length ≤ LIM then .ok vs μ else .stuck
  | _ => .stuck
def mlc (src : M Src) (own : List Nat) (t : Tgt) (cond : M Bool) (elt : M Val) : M (List Val) := andThen src fun s => fun sl μ => match s with
  | .vals xs => short (lcL own t cond elt xs sl μ)
  | .live r e => short (lcR own t cond elt r e FUEL 0 sl μ)
/-- what has been made, ahead of what is made -/
def pre (acc : List Val) (r : Res (List Val)) : Res (List Val) := match r with
  | .ok vs μ => .ok (acc ++ vs) μ
  | _ => .stuck
theorem pre_nil {r : Res (List Val)} : short (pre [] r) = short r := by
  cases r <;> rfl
theorem pre_snoc {acc : List Val} {v : Val} {r : Res (List Val)} : pre acc (match r with
    | .ok vs μ => .ok (v :: vs) μ
    | _ => .stuck) = pre (acc ++ [v]) r := by
  cases r with
  | ok vs μ => simp [pre]
  | exc _ _ => rfl
  | stuck => rfl
section
variable {c : Ct} {W : WX} {X : Cx} {pos : Pos}
/-- where a comprehension stands: base world w0, its list at D, so far acc -/
structure LcAt (c : Ct) (w0 : Wd) (D : Addr) (acc : List Val) (w : Wd) : Prop where
  sim : Sim c w
  rs : w.rs = D :: w0.rs
  nr : D ∉ w0.rs
  nw : w0.H D = none
  ext : Ext w0 (w.but D w0.rs)
  at_ : ∃ ys, w.H D = some (.lst ys) ∧ RVs c w acc ys
theorem LcAt.start {w0 : Wd} {D : Addr} (s : Sim c w0) (n : w0.H D = none) : LcAt c w0 D [] (w0.res D []) := by
  have hD : D ∉ w0.ρ := fun h => s.ne_new n h rfl
  refine ⟨s.off (res_off n []) rfl hD fun _ => ⟨_, upd_same⟩, rfl, s.rs_new n, n, ?_, [], upd_same, rfl⟩
  have e : (w0.res D []).but D w0.rs = w0 := by
    show ({ ρ := w0.ρ, μ := w0.μ, H := fun a => if a = D then none else upd w0.H D (.lst []) a, rs := w0.rs } : Wd) = w0
    have : (fun a => if a = D then none else upd w0.H D (.lst []) a) = w0.H := by
      funext a
      by_cases h : a = D
      · rw [if_pos h, h, n]
      · rw [if_neg h, upd_ne h]
    rw [this]
  rw [e]
  exact Ext.refl _
theorem LcAt.notin {w0 : Wd} {D : Addr} {acc : List Val} {w : Wd} (l : LcAt c w0 D acc w) : D ∉ w.ρ := (l.sim.rs D (by rw [l.rs]; exact List.mem_cons_self)).1
theorem LcAt.go {w0 : Wd} {D : Addr} {acc : List Val} {w w2 : Wd} (l : LcAt c w0 D acc w) (e : Ext w w2) (s : Sim c w2) : LcAt c w0 D acc w2 := by
  obtain ⟨ys, h, r⟩ := l.at_
  exact ⟨s, e.rs.trans l.rs, l.nr, l.nw, l.ext.trans (but_ext e (by rw [h]; exact fun z => nomatch z) l.notin), ys, e.keep D _ h l.notin, RVs.ext l.sim e _ _ r⟩
theorem LcAt.push {w0 : Wd} {D : Addr} {acc : List Val} {w : Wd} {ys : List V} {v : Val} {y : V} (l : LcAt c w0 D acc w) (h : w.H D = some (.lst ys)) (r : RVs c w acc ys) (rv : RV c w v y) : LcAt c w0 D (acc ++ [v]) { w with H := upd w.H D (.lst (ys ++ [y])) } := by
  have hr : D ∈ w.rs := by rw [l.rs]; exact List.mem_cons_self
  have f : Off w { w with H := upd w.H D (.lst (ys ++ [y])) } D := fill_off h hr
  refine ⟨l.sim.off f rfl l.notin fun _ => ⟨_, upd_same⟩, l.rs, l.nr, l.nw, ?_, _, upd_same, (RVs.off f _ _ r).append ⟨y, [], rfl, RV.off f _ _ rv, rfl⟩⟩
  have e : ({ w with H := upd w.H D (.lst (ys ++ [y])) } : Wd).but D w0.rs = w.but D w0.rs := by
    show ({ ρ := w.ρ, μ := w.μ, H := fun a => if a = D then none else upd w.H D (.lst (ys ++ [y])) a, rs := w0.rs } : Wd) = { ρ := w.ρ, μ := w.μ, H := fun a => if a = D then none else w.H a, rs := w0.rs }
    have : (fun a => if a = D then none else upd w.H D (.lst (ys ++ [y])) a) = fun a => if a = D then none else w.H a := by
      funext a
      by_cases h : a = D
      · rw [if_pos h, if_pos h]
      · rw [if_neg h, if_neg h, upd_ne h]
    rw [this]
  rw [e]
  exact l.ext
theorem LcAt.r {w0 : Wd} {D : Addr} {acc : List Val} {w : Wd} (l : LcAt c w0 D acc w) : ExtR w0 w := by
  refine ⟨l.ext.pre, fun a h => ?_, fun a o h1 h2 _ => ?_, fun a h => ?_⟩
  · rw [l.rs] at h
    rcases List.mem_cons.mp h with h | h
    · rw [h]; exact .inr l.nw
    · exact .inl h
  · have := l.ext.keep a o h1 h2
    have : (if a = D then none else w.H a) = some o := this
    split at this
    · cases this
    · exact this
  · have : (if a = D then none else w.H a) ≠ none := l.ext.there a h
    split at this
    · exact absurd rfl this
    · exact this
/-- the end: what has been made is a new list -/
theorem LcAt.done {w w0 : Wd} {D : Addr} {acc : List Val} {w1 : Wd} {Q : VK} {E : XK} (l : LcAt c w0 D acc w1) (e0 : Ext w w0) (h : PostF c w (.ok acc w1.μ) Q E) : Q (.ref D) w1.H := by
  obtain ⟨ys, h1, r⟩ := l.at_
  have f : Off w1 (w1.but D w0.rs) D := but_off h1 l.rs
  have := h (w1.but D w0.rs) rfl (e0.trans l.ext) (l.sim.off f rfl l.notin fun hm => absurd hm l.nr) D ys (if_pos rfl) (RVs.off f _ _ r)
  have e : upd (w1.but D w0.rs).H D (.lst ys) = w1.H := by
    funext a
    by_cases h : a = D
    · rw [h, upd_same, h1]
    · rw [upd_ne h]; exact if_neg h
  rwa [e] at this
theorem wipe_get {σ : St} {i : Nat} : ∀ (vs : List Nat), (L2.wipe σ vs)[i]? = if i ∈ vs ∧ i < σ.length then some none else σ[i]?
  | [] => by simp [L2.wipe]
  | v :: vs => by
    have ih := wipe_get (σ := σ) (i := i) vs
    have hl := L2.wipe_length σ vs
    simp only [L2.wipe]
    by_cases e : v = i
    · subst e
      by_cases hv : v < σ.length
      · rw [List.getElem?_set_self (by rw [hl]; exact hv), if_pos ⟨List.mem_cons_self, hv⟩]
      · rw [List.getElem?_eq_none (by simp only [List.length_set, hl]; omega), if_neg fun z => hv z.2, List.getElem?_eq_none (by omega)]
    · rw [List.getElem?_set_ne e, ih]
      by_cases hi : i ∈ vs ∧ i < σ.length
      · rw [if_pos hi, if_pos ⟨List.mem_cons_of_mem _ hi.1, hi.2⟩]
      · rw [if_neg hi, if_neg fun z => hi ⟨(List.mem_cons.mp z.1).resolve_left (Ne.symm e), z.2⟩]
theorem wipe_off {σ σ2 : St} {vs is : List Nat} (h : OffS (L2.wipe σ vs) σ2 is) (hs : ∀ i ∈ is, i ∈ vs) : L2.wipe σ2 vs = L2.wipe σ vs := by
  have hl : σ2.length = σ.length := h.1.trans (L2.wipe_length σ vs)
  apply List.ext_getElem?
  intro i
  rw [wipe_get, wipe_get]
  by_cases hi : i ∈ vs ∧ i < σ.length
  · rw [if_pos hi, if_pos ⟨hi.1, by rw [hl]; exact hi.2⟩]
  · rw [if_neg hi, if_neg fun z => hi ⟨z.1, by rw [← hl]; exact z.2⟩]
    by_cases hv : i ∈ vs
    · have : ¬ i < σ.length := fun z => hi ⟨hv, z⟩
      rw [List.getElem?_eq_none (by omega), List.getElem?_eq_none (by omega)]
    · rw [h.2 i (fun z => hv (hs i z)), wipe_get, if_neg fun z => hv z.1]
theorem short_not {acc : List Val} {r : Res (List Val)} {w : Wd} {Q : VK} {E : XK} (h : PostF c w (short (pre acc r)) Q E) : ∃ vs μ, r = .ok vs μ ∧ (acc ++ vs).length ≤ LIM := by
  cases r with
  | ok vs μ =>
    refine ⟨vs, μ, rfl, ?_⟩
    simp only [pre, short] at h
    split at h
    · assumption
    · exact h.elim
  | exc _ _ => exact h.elim
  | stuck => exact h.elim
/-- one turn: the target, the test, the element, the rest k -/
theorem lc_turn {w w0 w1 : Wd} {D : Addr} {acc : List Val} {sl : Sl} {σ : St} {own : List Nat} {t : Tgt} {cond : M Bool} {elt : M Val} {k : Mu → Res (List Val)} {x : Val} {y : V} {Q : VK} {E : XK} {μ0 : Mu}
    (l : LcAt c w0 D acc w1) (rs : RSl c w1 sl σ) (hs : ∀ i ∈ t.slots, i ∈ own) (rx : RV c w1 x y) (hμ : w1.μ = μ0)
    (h : PostF c w (short (pre acc (match bindT t x (wipeS sl own) μ0 with
      | none => .stuck
      | some sl' => match cond sl' μ0 with
        | .ok false μ1 => k μ1
        | .ok true μ1 => (match elt sl' μ1 with
          | .ok v μ2 => (match k μ2 with
            | .ok vs μ3 => .ok (v :: vs) μ3
            | _ => .stuck)
          | _ => .stuck)
        | _ => .stuck))) Q E) :
    TG' c t y (L2.wipe σ own) w1.H fun σ2 H2 => L2.wipe σ2 own = L2.wipe σ own ∧ TT' c W0 cond σ2 H2 fun b H3 =>
      if b = true then TE' c W0 elt σ2 H3 fun z H4 => ∃ accV, H4 D = some (.lst accV) ∧ accV.length < sizeLine ∧ (∃ acc' w3, w3.H = upd H4 D (.lst (accV ++ [z])) ∧ LcAt c w0 D acc' w3 ∧ RSl c w3 sl σ ∧ PostF c w (short (pre acc' (k w3.μ))) Q E)
      else ∃ acc' w3, w3.H = H3 ∧ LcAt c w0 D acc' w3 ∧ RSl c w3 sl σ ∧ PostF c w (short (pre acc' (k w3.μ))) Q E := by
  subst hμ
  cases qb : bindT t x (wipeS sl own) w1.μ with
  | none => rw [qb] at h; exact h.elim
  | some sl' =>
    rw [qb] at h
    dsimp only at h
    refine ⟨w1, wipeS sl own, x, rfl, l.sim, rs.wipe own, rx, sl', qb, fun σ2 rs2 o2 => ⟨wipe_off o2 hs, w1, sl', rfl, l.sim, rs2, ?_⟩⟩
    cases qc : cond sl' w1.μ with
    | stuck => rw [qc] at h; exact h.elim
    | exc _ _ => rw [qc] at h; exact h.elim
    | ok b μ1 =>
      rw [qc] at h
      intro w2 hμ2 e2 s2
      subst hμ2
      have l2 := l.go e2 s2
      cases b with
      | false => exact iteF ⟨acc, w2, rfl, l2, rs.ext l.sim e2, h⟩
      | true =>
        refine iteT ⟨w2, sl', rfl, s2, rs2.ext l.sim e2, ?_⟩
        dsimp only at h
        cases qe : elt sl' w2.μ with
        | stuck => rw [qe] at h; exact h.elim
        | exc _ _ => rw [qe] at h; exact h.elim
        | ok v μ2 =>
          rw [qe] at h
          intro w4 hμ4 e4 s4 z rz
          subst hμ4
          have l4 := l2.go e4 s4
          obtain ⟨ys, h5, r5⟩ := l4.at_
          dsimp only at h
          rw [pre_snoc] at h
          obtain ⟨vs, μ3, e3, hl⟩ := short_not h
          have hlen : ys.length < sizeLine := by
            rw [← r5.length, ← LIM_eq]
            simp only [List.length_append, List.length_cons, List.length_nil] at hl
            omega
          refine ⟨ys, h5, hlen, acc ++ [v], _, rfl, l4.push h5 r5 rz, ?_, h⟩
          have f : Off w4 { w4 with H := upd w4.H D (.lst (ys ++ [z])) } D := fill_off h5 (by rw [l4.rs]; exact List.mem_cons_self)
          exact ((rs.ext l.sim e2).ext s2 e4).off f
theorem lc_reads {own : List Nat} {src : M Src} {t : Tgt} {mc : M Bool} {me : M Val} {σ : St} {H : Hp} {Q : VK} (h : TF' c W (mlc src own t mc me) σ H Q) (hsl : ∀ i ∈ t.slots, i ∈ own) :
    tLc (TI' c W src) (TG' c t) (TT' c W0 mc) (TE' c W0 me) own σ H Q := by
  obtain ⟨w, sl, e, s, rs, h⟩ := h
  subst e
  refine ⟨w, sl, rfl, s, rs, ?_⟩
  unfold mlc andThen at h
  cases q : src sl w.μ with
  | stuck => rw [q] at h; exact h
  | exc x μ' => rw [q] at h; exact h
  | ok sr μ' =>
    rw [q] at h
    intro w0 hμ ext0 sim0 J hJ D hD
    subst hμ
    have l0 := LcAt.start sim0 hD
    have rs0 : RSl c (w0.res D []) sl σ := (rs.ext s ext0).off (res_off hD [])
    cases sr with
    | vals xs =>
      have hJ : WalkG c J xs w0 := hJ
      have h : PostF c w (short (lcL own t mc me xs sl w0.μ)) Q (fun cls d H' => W cls d σ H') := h
      rw [← pre_nil] at h
      refine ⟨fun i m H => m = xs.length - i ∧ i ≤ xs.length ∧ ∃ acc w1, w1.H = H ∧ LcAt c w0 D acc w1 ∧ RSl c w1 sl σ ∧ PostF c w (short (pre acc (lcL own t mc me (xs.drop i) sl w1.μ))) Q (fun cls d H' => W cls d σ H'), ⟨xs.length, by simp, Nat.zero_le _, [], w0.res D [], rfl, l0, rs0, by rw [List.drop_zero]; exact h⟩, ?_⟩
      rintro i m H1 ⟨rfl, hi', acc, w1, rfl, l1, rs1, h1⟩
      obtain ⟨go, st⟩ := hJ w1 l1.r l1.sim
      by_cases hlt : i < xs.length
      · obtain ⟨g1, g2⟩ := go i xs[i] (List.getElem?_eq_getElem hlt)
        rw [List.drop_eq_getElem_cons hlt] at h1
        refine .inr ⟨g1, fun H' => ∃ acc w1, w1.H = H' ∧ LcAt c w0 D acc w1 ∧ RSl c w1 sl σ ∧ PostF c w (short (pre acc (lcL own t mc me (xs.drop (i + 1)) sl w1.μ))) Q (fun cls d H' => W cls d σ H'), fun H' h => ⟨xs.length - (i + 1), by omega, rfl, hlt, h⟩, fun y H' hy => ?_⟩
        obtain ⟨w2, rfl, hμ2, e2, s2, r2⟩ := g2 y H' hy
        exact lc_turn (l1.go e2 s2) (rs1.ext l1.sim e2) hsl r2 hμ2 h1
      · have e : i = xs.length := by omega
        subst e
        rw [List.drop_length] at h1
        obtain ⟨vs, μ3, e3, hl⟩ := short_not h1
        simp only [lcL, pre, List.append_nil, short] at h1
        split at h1
        · exact .inl ⟨st, l1.done ext0 h1⟩
        · exact h1.elim
    | live r e =>
      have hJ : WalkL c J r e w0 := hJ
      have h : PostF c w (short (lcR own t mc me r e FUEL 0 sl w0.μ)) Q (fun cls d H' => W cls d σ H') := h
      rw [← pre_nil] at h
      refine ⟨fun i m H => ∃ acc w1, w1.H = H ∧ LcAt c w0 D acc w1 ∧ RSl c w1 sl σ ∧ PostF c w (short (pre acc (lcR own t mc me r e m i sl w1.μ))) Q (fun cls d H' => W cls d σ H'), ⟨FUEL, [], w0.res D [], rfl, l0, rs0, h⟩, ?_⟩
      rintro i m H1 ⟨acc, w1, rfl, l1, rs1, h1⟩
      cases m with
      | zero => exact h1.elim
      | succ m =>
        simp only [lcR] at h1
        cases qr : w1.μ[r]? with
        | none => rw [qr] at h1; exact h1.elim
        | some o =>
          rw [qr] at h1
          cases o with
          | dct _ _ => exact h1.elim
          | lst xs =>
            obtain ⟨go, st⟩ := hJ w1 l1.r l1.sim xs qr
            dsimp only at h1
            cases qi : xs[i]? with
            | none =>
              rw [qi] at h1
              simp only [pre, List.append_nil, short] at h1
              split at h1
              · exact .inl ⟨st i (List.getElem?_eq_none_iff.mp qi), l1.done ext0 h1⟩
              · exact h1.elim
            | some x =>
              rw [qi] at h1
              dsimp only at h1
              obtain ⟨g1, g2⟩ := go i x qi
              refine .inr ⟨g1, fun H' => ∃ acc w1, w1.H = H' ∧ LcAt c w0 D acc w1 ∧ RSl c w1 sl σ ∧ PostF c w (short (pre acc (lcR own t mc me r e m (i + 1) sl w1.μ))) Q (fun cls d H' => W cls d σ H'), fun H' h => ⟨m, by omega, h⟩, fun y H' hy => ?_⟩
              obtain ⟨w2, rfl, hμ2, e2, s2, r2⟩ := g2 y H' hy
              exact lc_turn (l1.go e2 s2) (rs1.ext l1.sim e2) hsl r2 hμ2 h1
theorem gf_lc {elt tg iter : Expr} {ifs : List Expr} {scope : Scope} {own : List (Str × Nat)} {src : M Src} {t : Tgt} {mc : M Bool} {me : M Val} (hc : X.calm = true) (hN : X.N.Nodup) (hi : PI X tg iter (TI' c W src)) (ok : BlkOk X.N X.env.scope scope own)
    (hg : ∀ (s : Shared) (H : Hp) (C : Addr) (cl : List (Str × Addr)) (fp : List Addr), PG (X.blk s H scope (compEnvC scope cl C X.env) fp) tg (TG' c t)) (ht : ∀ (s : Shared) (H : Hp) (C : Addr) (cl : List (Str × Addr)) (fp : List Addr), PTs (X.blk s H scope (compEnvC scope cl C X.env) fp) ifs (TT' c W0 mc))
    (he : ∀ (s : Shared) (H : Hp) (C : Addr) (cl : List (Str × Addr)) (fp : List Addr), PE (X.blk s H scope (compEnvC scope cl C X.env) fp) elt (TE' c W0 me)) (hsl : ∀ i ∈ t.slots, i ∈ own.map (·.2)) (hs : ∀ x, foldedSetIterable iter X.env x = pure x := by intro _; rfl) :
    PE X (.ListComp elt [⟨tg, iter, ifs, 0⟩] scope pos) (TF' c W (mlc src (own.map (·.2)) t mc me)) := by
  refine (pe_lc hc hN hi ok hg ht he hs).imp fun σ H Q h => lc_reads h hsl
end
end G

/-! G8: defs, their calls. -/
namespace G
open PySem PySem.Spec PyProof.Rows L2

/-! ### the part of the heap that a call sees -/
mutual
/-- one more than the greatest reference -/
def up : Val → Nat
  | .tup xs => ups xs
  | .lst xs => ups xs
  | .rol xs => ups xs
  | .ref n => n + 1
  | .dct _ vs => ups vs
  | _ => 0
def ups : List Val → Nat
  | [] => 0
  | x :: xs => max (up x) (ups xs)
end
mutual
/-- all references below k -/
def cl (k : Nat) : Val → Bool
  | .tup xs => cls k xs
  | .lst xs => cls k xs
  | .rol xs => cls k xs
  | .ref n => decide (n < k)
  | .dct _ vs => cls k vs
  | _ => true
def cls (k : Nat) : List Val → Bool
  | [] => true
  | x :: xs => cl k x && cls k xs
end
def clO (k : Nat) : Ob → Bool
  | .lst xs => cls k xs
  | .dct _ vs => cls k vs
mutual
theorem cl_up : ∀ (x : Val) (k : Nat), up x ≤ k → cl k x = true
  | .tup xs, k, h => cls_ups xs k h
  | .lst xs, k, h => cls_ups xs k h
  | .rol xs, k, h => cls_ups xs k h
  | .ref n, k, h => decide_eq_true h
  | .dct _ vs, k, h => cls_ups vs k h
  | .non, _, _ => rfl
  | .bl _, _, _ => rfl
  | .int _, _, _ => rfl
  | .str _, _, _ => rfl
  | .fn _, _, _ => rfl
  | .ty _, _, _ => rfl
theorem cls_ups : ∀ (xs : List Val) (k : Nat), ups xs ≤ k → cls k xs = true
  | [], _, _ => rfl
  | x :: xs, k, h => by
    have h : max (up x) (ups xs) ≤ k := h
    simp only [cls, cl_up x k (by omega), cls_ups xs k (by omega), Bool.and_self]
end
section
variable {c : Ct} {w : Wd}
/-- the callee's world -/
def Wd.cut (w : Wd) (k : Nat) : Wd := { ρ := w.ρ.take k, μ := w.μ.take k, H := w.H, rs := w.rs ++ w.ρ.drop k }
theorem take_not {a : Addr} {k : Nat} {l : List Addr} (h : a ∉ l) : a ∉ l.take k := fun z => h (List.mem_of_mem_take z)
theorem ImL.cut {a : Addr} {ys : List V} {k : Nat} (h : ImL w a ys) : ImL (w.cut k) a ys := ⟨h.1, take_not h.2.1, fun z => (List.mem_append.mp z).elim h.2.2 fun z => h.2.1 (List.mem_of_mem_drop z)⟩
theorem ImD.cut {a : Addr} {ks : List DKey} {ys : List V} {k : Nat} (h : ImD c w a ks ys) : ImD c (w.cut k) a ks ys := ⟨h.1, take_not h.2.1, fun z => (List.mem_append.mp z).elim h.2.2 fun z => h.2.1 (List.mem_of_mem_drop z)⟩
mutual
theorem RV.cut {k : Nat} : ∀ (x : Val) (v : V), cl k x = true → RV c w x v → RV c (w.cut k) x v
  | .non, _, _, h => h
  | .bl _, _, _, h => h
  | .int _, _, _, h => h
  | .str _, _, _, h => h
  | .tup xs, _, q, ⟨a, ys, e1, e2, e3⟩ => ⟨a, ys, e1, e2, RVs.cut xs ys q e3⟩
  | .lst xs, _, q, ⟨a, ys, e1, e2, e3⟩ => ⟨a, ys, e1, e2.cut, RVs.cut xs ys q e3⟩
  | .rol xs, _, q, ⟨a, ys, e1, e2, e3⟩ => ⟨a, ys, e1, e2, RVs.cut xs ys q e3⟩
  | .ref n, _, q, ⟨a, e1, e2⟩ => ⟨a, e1, by
    show (w.ρ.take k)[n]? = some a
    rw [List.getElem?_take_of_lt (of_decide_eq_true q)]; exact e2⟩
  | .fn _, _, _, h => h
  | .ty _, _, _, h => h
  | .dct ks vs, _, q, ⟨a, ys, e1, e2, e3⟩ => ⟨a, ys, e1, e2.cut, RVs.cut vs ys q e3⟩
theorem RVs.cut {k : Nat} : ∀ (xs : List Val) (ys : List V), cls k xs = true → RVs c w xs ys → RVs c (w.cut k) xs ys
  | [], _, _, h => h
  | x :: xs, _, q, ⟨y, r, e1, e2, e3⟩ => ⟨y, r, e1, RV.cut x y (Bool.and_eq_true_iff.mp q).1 e2, RVs.cut xs r (Bool.and_eq_true_iff.mp q).2 e3⟩
end
theorem RO.cut {k : Nat} {a : Addr} {o : Ob} (q : clO k o = true) (h : RO c w a o) : RO c (w.cut k) a o := by
  cases o with
  | lst xs => obtain ⟨ys, h1, h2⟩ := h; exact ⟨ys, h1, RVs.cut _ _ q h2⟩
  | dct ks vs => obtain ⟨ys, h1, h2⟩ := h; exact ⟨ys, h1, RVs.cut _ _ q h2⟩
theorem Sim.cut {k : Nat} (s : Sim c w) (hc : (w.μ.take k).all (clO k) = true) : Sim c (w.cut k) := by
  refine ⟨by simp [Wd.cut, s.len], s.nd.sublist (List.take_sublist _ _), fun i a o h1 h2 => ?_, fun a ha => ?_⟩
  · have h1 : (w.ρ.take k)[i]? = some a := h1
    have h2 : (w.μ.take k)[i]? = some o := h2
    have hi : i < k := by
      have := (List.getElem?_eq_some_iff.mp h1).1
      rw [List.length_take] at this
      omega
    have q := (List.all_eq_true.mp hc) o (List.mem_of_getElem? h2)
    rw [List.getElem?_take_of_lt hi] at h1 h2
    exact (s.ob i a o h1 h2).cut q
  · rcases List.mem_append.mp ha with h | h
    · obtain ⟨h1, o, h2⟩ := s.rs a h
      exact ⟨take_not h1, o, h2⟩
    · obtain ⟨i, o, _, _, r⟩ := s.mem (List.mem_of_mem_drop h)
      refine ⟨fun z => ?_, r.some⟩
      have nd := s.nd
      rw [← List.take_append_drop k w.ρ] at nd
      exact (List.nodup_append.mp nd).2.2 a z a h rfl
/-- the caller's world behind the call -/
def Wd.join (w w1 : Wd) (k : Nat) : Wd := { ρ := w.ρ, μ := w1.μ.take k ++ w.μ.drop k, H := w1.H, rs := w.rs }
/-- what is known behind a call -/
structure Back (c : Ct) (w w1 : Wd) (k : Nat) : Prop where
  s : Sim c w
  s1 : Sim c w1
  e : Ext (w.cut k) w1
  hk : k ≤ w.μ.length
variable {w1 : Wd} {k : Nat}
theorem Back.pre (b : Back c w w1 k) : ∃ δ, w1.ρ = w.ρ.take k ++ δ ∧ ∀ a ∈ δ, w.H a = none := b.e.pre
theorem Back.lenk (b : Back c w w1 k) : (w.ρ.take k).length = k := by rw [List.length_take, b.s.len, Nat.min_eq_left b.hk]
theorem Back.nin (b : Back c w w1 k) {a : Addr} (h1 : a ∉ w1.ρ) (h2 : a ∉ w1.rs) : a ∉ w.ρ ∧ a ∉ w.rs := by
  obtain ⟨δ, p, _⟩ := b.pre
  rw [b.e.rs] at h2
  have h2 : a ∉ w.rs ++ w.ρ.drop k := h2
  refine ⟨fun z => ?_, fun z => h2 (List.mem_append_left _ z)⟩
  rw [← List.take_append_drop k w.ρ] at z
  rcases List.mem_append.mp z with z | z
  · exact h1 (by rw [p]; exact List.mem_append_left _ z)
  · exact h2 (List.mem_append_right _ z)
/-- a world of the caller behind the call: its heap, and what is its own there; av: the new thing that it takes over -/
structure Behind (b : Back c w w1 k) (av : Option Nat) (w2 : Wd) : Prop where
  H : w2.H = w1.H
  ρ : ∀ a : Addr, a ∈ w2.ρ → a ∈ w.ρ ∨ ∃ m : Nat, av = some m ∧ w1.ρ[m]? = some a
  get : ∀ (i : Nat) (a : Addr), w.ρ[i]? = some a → w2.ρ[i]? = some a
  rs : w2.rs = w.rs
variable {av : Option Nat}
theorem ImL.back {b : Back c w w1 k} {w2 : Wd} (h2 : Behind b av w2) {a : Addr} {ys : List V} (h : ImL w1 a ys) : ImL w2 a ys := by
  obtain ⟨q1, q2⟩ := b.nin h.2.1 h.2.2
  exact ⟨by rw [h2.H]; exact h.1, fun z => (h2.ρ a z).elim q1 fun ⟨m, _, e⟩ => h.2.1 (List.mem_of_getElem? e), by rw [h2.rs]; exact q2⟩
theorem ImD.back {b : Back c w w1 k} {w2 : Wd} (h2 : Behind b av w2) {a : Addr} {ks : List DKey} {ys : List V} (h : ImD c w1 a ks ys) : ImD c w2 a ks ys := by
  obtain ⟨q1, q2⟩ := b.nin h.2.1 h.2.2
  exact ⟨by rw [h2.H]; exact h.1, fun z => (h2.ρ a z).elim q1 fun ⟨m, _, e⟩ => h.2.1 (List.mem_of_getElem? e), by rw [h2.rs]; exact q2⟩
mutual
/-- references from k on become what they stand for -/
def fz (k : Nat) (rec : Nat → Option Val) : Val → Option Val
  | .tup xs => (fzs k rec xs).map .tup
  | .lst xs => (fzs k rec xs).map .lst
  | .rol xs => (fzs k rec xs).map .rol
  | .ref n => if n < k then some (.ref n) else rec n
  | .dct ks vs => (fzs k rec vs).map (.dct ks)
  | .non => some .non
  | .bl b => some (.bl b)
  | .int b => some (.int b)
  | .str b => some (.str b)
  | .fn b => some (.fn b)
  | .ty b => some (.ty b)
def fzs (k : Nat) (rec : Nat → Option Val) : List Val → Option (List Val)
  | [] => some []
  | x :: xs => match fz k rec x with
    | some y => (match fzs k rec xs with
      | some ys => some (y :: ys)
      | none => none)
    | none => none
end
def fzr (av : Option Nat) (μ : Mu) (k : Nat) : Nat → Nat → Option Val
  | 0, _ => none
  | n + 1, m => if av = some m then none else match μ[m]? with
    | some (.lst xs) => (fzs k (fzr av μ k n) xs).map .lst
    | some (.dct ks vs) => (fzs k (fzr av μ k n) vs).map (.dct ks)
    | none => none
def freeze (μ : Mu) (k : Nat) : Val → Option Val := fz k (fzr none μ k 8)
def freezes (av : Option Nat) (μ : Mu) (k : Nat) : List Val → Option (List Val) := fzs k (fzr av μ k 8)
/-- what rec must do -/
def RecOk (c : Ct) (w1 w2 : Wd) (k : Nat) (rec : Nat → Option Val) : Prop := ∀ n v x, k ≤ n → rec n = some v → RV c w1 (.ref n) x → RV c w2 v x
section
variable {rec : Nat → Option Val} {b : Back c w w1 k} {w2 : Wd}
theorem Back.get_lt (b : Back c w w1 k) {n : Nat} {a : Addr} (h : n < k) (e : w1.ρ[n]? = some a) : w.ρ[n]? = some a := by
  obtain ⟨δ, p, _⟩ := b.pre
  rw [p, List.getElem?_append_left (by rw [b.lenk]; exact h), List.getElem?_take_of_lt h] at e
  exact e
mutual
theorem RV.fz (h2 : Behind b av w2) (hr : RecOk c w1 w2 k rec) : ∀ (x : Val) (y : Val) (v : V), fz k rec x = some y → RV c w1 x v → RV c w2 y v
  | .non, y, _, q, h => by cases q; exact h
  | .bl _, y, _, q, h => by cases q; exact h
  | .int _, y, _, q, h => by cases q; exact h
  | .str _, y, _, q, h => by cases q; exact h
  | .fn _, y, _, q, h => by cases q; exact h
  | .ty _, y, _, q, h => by cases q; exact h
  | .tup xs, y, _, q, ⟨a, ys, e1, e2, e3⟩ => by
    simp only [G.fz, Option.map_eq_some_iff] at q
    obtain ⟨zs, q, rfl⟩ := q
    exact ⟨a, ys, e1, by rw [h2.H]; exact e2, RVs.fz h2 hr xs zs ys q e3⟩
  | .lst xs, y, _, q, ⟨a, ys, e1, e2, e3⟩ => by
    simp only [G.fz, Option.map_eq_some_iff] at q
    obtain ⟨zs, q, rfl⟩ := q
    exact ⟨a, ys, e1, e2.back h2, RVs.fz h2 hr xs zs ys q e3⟩
  | .rol xs, y, _, q, ⟨a, ys, e1, e2, e3⟩ => by
    simp only [G.fz, Option.map_eq_some_iff] at q
    obtain ⟨zs, q, rfl⟩ := q
    exact ⟨a, ys, e1, by unfold RoL at e2 ⊢; rw [h2.H]; exact e2, RVs.fz h2 hr xs zs ys q e3⟩
  | .ref n, y, v, q, h => by
    simp only [G.fz] at q
    split at q
    · rename_i hn
      cases q
      obtain ⟨a, e1, e2⟩ := h
      exact ⟨a, e1, h2.get n a (b.get_lt hn e2)⟩
    · rename_i hn
      exact hr n y v (by omega) q h
  | .dct ks vs, y, _, q, ⟨a, ys, e1, e2, e3⟩ => by
    simp only [G.fz, Option.map_eq_some_iff] at q
    obtain ⟨zs, q, rfl⟩ := q
    exact ⟨a, ys, e1, e2.back h2, RVs.fz h2 hr vs zs ys q e3⟩
theorem RVs.fz (h2 : Behind b av w2) (hr : RecOk c w1 w2 k rec) : ∀ (xs : List Val) (zs : List Val) (ys : List V), fzs k rec xs = some zs → RVs c w1 xs ys → RVs c w2 zs ys
  | [], zs, _, q, h => by cases q; exact h
  | x :: xs, zs, _, q, ⟨y, r, e1, e2, e3⟩ => by
    simp only [G.fzs] at q
    cases q1 : G.fz k rec x with
    | none => rw [q1] at q; cases q
    | some z =>
      cases q2 : G.fzs k rec xs with
      | none => rw [q1, q2] at q; cases q
      | some zr =>
        rw [q1, q2] at q
        cases q
        exact ⟨y, r, e1, RV.fz h2 hr x z y q1 e2, RVs.fz h2 hr xs zr r q2 e3⟩
end
theorem Back.new_not (b : Back c w w1 k) {n : Nat} {a : Addr} (hn : k ≤ n) (e : w1.ρ[n]? = some a) : a ∉ w.ρ ∧ a ∉ w.rs ∧ w.H a = none := by
  obtain ⟨δ, p, q⟩ := b.pre
  have hd : a ∈ δ := by
    rw [p, List.getElem?_append_right (by rw [b.lenk]; exact hn)] at e
    exact List.mem_of_getElem? e
  have hN := q a hd
  refine ⟨fun z => ?_, fun z => ?_, hN⟩
  · obtain ⟨_, _, _, _, r⟩ := b.s.mem z
    obtain ⟨o, ho⟩ := r.some
    rw [hN] at ho; cases ho
  · obtain ⟨_, o, ho⟩ := b.s.rs a z
    rw [hN] at ho; cases ho
theorem fzr_ok (h2 : Behind b av w2) : ∀ n, RecOk c w1 w2 k (fzr av w1.μ k n)
  | 0 => fun m v x _ h => nomatch h
  | n + 1 => fun m v x hm h ⟨a, e1, e2⟩ => by
    simp only [fzr] at h
    split at h
    · cases h
    rename_i hav
    have n4 : a ∉ w2.ρ := fun z => (h2.ρ a z).elim (b.new_not hm e2).1 fun ⟨m', h3, e3⟩ => by
      subst h3
      exact hav (by rw [nodup_get b.s1.nd e3 e2])
    obtain ⟨n1, n2, n3⟩ := b.new_not hm e2
    cases q : w1.μ[m]? with
    | none => rw [q] at h; cases h
    | some o =>
      rw [q] at h
      have ro := b.s1.ob m a o e2 q
      cases o with
      | lst xs =>
        simp only [Option.map_eq_some_iff] at h
        obtain ⟨zs, h, rfl⟩ := h
        obtain ⟨ys, f1, f2⟩ := ro
        exact ⟨a, ys, e1, ⟨by rw [h2.H]; exact f1, n4, by rw [h2.rs]; exact n2⟩, RVs.fz h2 (fzr_ok h2 n) xs zs ys h f2⟩
      | dct ks vs =>
        simp only [Option.map_eq_some_iff] at h
        obtain ⟨zs, h, rfl⟩ := h
        obtain ⟨ys, f1, f2⟩ := ro
        exact ⟨a, ys, e1, ⟨by rw [h2.H]; exact f1, n4, by rw [h2.rs]; exact n2⟩, RVs.fz h2 (fzr_ok h2 n) vs zs ys h f2⟩
end
mutual
theorem fz_cl {rec : Nat → Option Val} : ∀ (x : Val), cl k x = true → fz k rec x = some x
  | .non, _ => rfl
  | .bl _, _ => rfl
  | .int _, _ => rfl
  | .str _, _ => rfl
  | .fn _, _ => rfl
  | .ty _, _ => rfl
  | .tup xs, q => by simp only [fz, fzs_cl xs q, Option.map_some]
  | .lst xs, q => by simp only [fz, fzs_cl xs q, Option.map_some]
  | .rol xs, q => by simp only [fz, fzs_cl xs q, Option.map_some]
  | .dct _ vs, q => by simp only [fz, fzs_cl vs q, Option.map_some]
  | .ref n, q => if_pos (of_decide_eq_true q)
theorem fzs_cl {rec : Nat → Option Val} : ∀ (xs : List Val), cls k xs = true → fzs k rec xs = some xs
  | [], _ => rfl
  | x :: xs, q => by simp only [fzs, fz_cl x (Bool.and_eq_true_iff.mp q).1, fzs_cl xs (Bool.and_eq_true_iff.mp q).2]
end
theorem Back.behind_join (b : Back c w w1 k) : Behind b none (w.join w1 k) := ⟨rfl, fun _ h => .inl h, fun _ _ h => h, rfl⟩
theorem Back.ext (b : Back c w w1 k) : Ext w (w.join w1 k) :=
  ⟨⟨[], by simp [Wd.join], fun _ h => nomatch h⟩, rfl, fun a o h n => b.e.keep a o h (take_not n), fun a h => b.e.there a h⟩
theorem Back.joinOb (b : Back c w w1 k) {w2 : Wd} (h2 : Behind b av w2) (e2 : Ext w w2) (hc : (w1.μ.take k).all (clO k) = true) {i : Nat} {a : Addr} {o : Ob} (h1 : w.ρ[i]? = some a) (h3 : (w1.μ.take k ++ w.μ.drop k)[i]? = some o) : RO c w2 a o := by
  obtain ⟨δ, p, _⟩ := b.pre
  have hl1 : w1.μ.length = w1.ρ.length := b.s1.len.symm
  have hl : (w1.μ.take k).length = k := by
    rw [List.length_take, hl1, p, List.length_append, b.lenk]
    omega
  by_cases hi : i < k
  · rw [List.getElem?_append_left (by rw [hl]; exact hi)] at h3
    have q := (List.all_eq_true.mp hc) o (List.mem_of_getElem? h3)
    rw [List.getElem?_take_of_lt hi] at h3
    have h4 : w1.ρ[i]? = some a := by
      rw [p, List.getElem?_append_left (by rw [b.lenk]; exact hi), List.getElem?_take_of_lt hi]
      exact h1
    have ro := b.s1.ob i a o h4 h3
    have rc : RecOk c w1 w2 k (fun _ => none) := fun _ _ _ _ h => nomatch h
    cases o with
    | lst xs => obtain ⟨ys, f1, f2⟩ := ro; exact ⟨ys, by rw [h2.H]; exact f1, RVs.fz h2 rc xs xs ys (fzs_cl xs q) f2⟩
    | dct ks vs => obtain ⟨ys, f1, f2⟩ := ro; exact ⟨ys, by rw [h2.H]; exact f1, RVs.fz h2 rc vs vs ys (fzs_cl vs q) f2⟩
  · rw [List.getElem?_append_right (by rw [hl]; omega), hl, List.getElem?_drop] at h3
    have e : k + (i - k) = i := by omega
    rw [e] at h3
    have ro := b.s.ob i a o h1 h3
    refine ro.go b.s e2 ?_
    obtain ⟨x, hx⟩ := ro.some
    rw [hx, h2.H]
    refine b.e.keep a x hx fun z => ?_
    have nd := b.s.nd
    rw [← List.take_append_drop k w.ρ] at nd h1
    rw [List.getElem?_append_right (by rw [b.lenk]; omega)] at h1
    exact (List.nodup_append.mp nd).2.2 a z a (List.mem_of_getElem? h1) rfl
theorem Back.sim_join (b : Back c w w1 k) (hc : (w1.μ.take k).all (clO k) = true) : Sim c (w.join w1 k) := by
  obtain ⟨δ, p, _⟩ := b.pre
  refine ⟨?_, b.s.nd, fun i a o h1 h2 => b.joinOb b.behind_join b.ext hc h1 h2, fun a ha => ?_⟩
  · show w.ρ.length = (w1.μ.take k ++ w.μ.drop k).length
    rw [List.length_append, List.length_take, List.length_drop, ← b.s1.len, p, List.length_append, b.lenk, b.s.len]
    have := b.hk
    omega
  · obtain ⟨h1, o, h2⟩ := b.s.rs a ha
    exact ⟨h1, o, b.ext.keep a o h2 h1⟩

/-! ### the call -/
/-- what a call does: it sees the heap's part below k; what is new in its answer stands from then on as what it is -/
def frzE (μ : Mu) (k : Nat) (e : Exn) : Option Exn := match freezes none μ k (e.fs.map (·.2)) with
  | some vs => some ⟨e.c, (e.fs.map (·.1)).zip vs⟩
  | none => none
def callX (k : Nat) (μ μ' : Mu) (e : Exn) : Res Val := match frzE μ' k e with
  | some e' => if (μ'.take k).all (clO k) then .exc e' (μ'.take k ++ μ.drop k) else .stuck
  | none => .stuck
def callD (g : Sem) (vs : List Val) (μ : Mu) : Res Val :=
  if ups vs ≤ μ.length ∧ (μ.take (ups vs)).all (clO (ups vs)) = true then
    match g vs (μ.take (ups vs)) with
    | .ok v μ' => (match freeze μ' (ups vs) v with
      | some v' => if (μ'.take (ups vs)).all (clO (ups vs)) then .ok v' (μ'.take (ups vs) ++ μ.drop (ups vs)) else .stuck
      | none => .stuck)
    | .exc e μ' => callX (ups vs) μ μ' e
    | .stuck => .stuck
  else .stuck
/-- .. a new list, that the caller goes on to change -/
def callM (g : Sem) (vs : List Val) (μ : Mu) : Res Val :=
  if ups vs ≤ μ.length ∧ (μ.take (ups vs)).all (clO (ups vs)) = true then
    match g vs (μ.take (ups vs)) with
    | .ok (.ref m) μ' => if ups vs ≤ m then (match μ'[m]? with
        | some (.lst xs) => (match freezes (some m) μ' (ups vs) xs with
          | some xs' => if (μ'.take (ups vs)).all (clO (ups vs)) then .ok (.ref μ.length) (μ'.take (ups vs) ++ μ.drop (ups vs) ++ [.lst xs']) else .stuck
          | none => .stuck)
        | some (.dct ks xs) => (match freezes (some m) μ' (ups vs) xs with
          | some xs' => if (μ'.take (ups vs)).all (clO (ups vs)) then .ok (.ref μ.length) (μ'.take (ups vs) ++ μ.drop (ups vs) ++ [.dct ks xs']) else .stuck
          | none => .stuck)
        | none => .stuck) else .stuck
    | .ok _ _ => .stuck
    | .exc e μ' => callX (ups vs) μ μ' e
    | .stuck => .stuck
  else .stuck
theorem zip_ne {α β : Type} {l : List α} {m : List β} (h : l.length = m.length) (n : l ≠ []) : l.zip m ≠ [] := by
  cases l with
  | nil => exact absurd rfl n
  | cons a l => cases m with
    | nil => simp at h
    | cons b m => simp
theorem zip_fst {α β : Type} : ∀ {l : List α} {m : List β}, l.length = m.length → (l.zip m).map (·.1) = l
  | [], _, _ => by simp
  | a :: l, [], h => by simp at h
  | a :: l, b :: m, h => by simp [zip_fst (l := l) (m := m) (by simpa using h)]
theorem zip_snd {α β : Type} : ∀ {l : List α} {m : List β}, l.length = m.length → (l.zip m).map (·.2) = m
  | [], [], _ => by simp
  | [], b :: m, h => by simp at h
  | a :: l, [], h => by simp at h
  | a :: l, b :: m, h => by simp [zip_snd (l := l) (m := m) (by simpa using h)]
theorem fzs_len {rec : Nat → Option Val} : ∀ {xs zs : List Val}, fzs k rec xs = some zs → xs.length = zs.length
  | [], zs, q => by cases q; rfl
  | x :: xs, zs, q => by
    simp only [fzs] at q
    cases q1 : fz k rec x with
    | none => rw [q1] at q; cases q
    | some z =>
      cases q2 : fzs k rec xs with
      | none => rw [q1, q2] at q; cases q
      | some zr => rw [q1, q2] at q; cases q; simp [fzs_len q2]
theorem RX.back {b : Back c w w1 k} {w2 : Wd} (h2 : Behind b none w2) {e e' : Exn} {C : Value} {d : Option Addr} (q : frzE w1.μ k e = some e') (r : RX c w1 e C d) : RX c w2 e' C d := by
  unfold frzE at q
  cases q1 : freezes none w1.μ k (e.fs.map (·.2)) with
  | none => rw [q1] at q; cases q
  | some vs =>
    rw [q1] at q
    cases q
    obtain ⟨A, h1, h3, h4⟩ := r
    have hl := fzs_len q1
    rw [List.length_map] at hl
    refine ⟨A, h1, h3, ?_⟩
    rcases h4 with ⟨h4, h5⟩ | ⟨dx, ys, h4, h5, h6, h7, h8⟩
    · refine .inl ⟨?_, h5⟩
      show (e.fs.map (·.1)).zip vs = []
      rw [h4]; rfl
    · have hl2 : (e.fs.map (·.1)).length = vs.length := by rw [List.length_map]; exact hl
      have a1 : (((e.fs.map (·.1)).zip vs).map (·.1)) = e.fs.map (·.1) := zip_fst hl2
      have a2 : (((e.fs.map (·.1)).zip vs).map (·.2)) = vs := zip_snd hl2
      refine .inr ⟨dx, ys, h4, zip_ne hl2 (by simpa using h5), ?_, ?_, ?_⟩
      · show ys.length = ((e.fs.map (·.1)).zip vs).length
        rw [List.length_zip, hl2]; simp; omega
      · show w2.H dx = some (.xd ((((e.fs.map (·.1)).zip vs).map (·.1)).zip ys))
        rw [a1, h2.H]; exact h7
      · show RVs c w2 (((e.fs.map (·.1)).zip vs).map (·.2)) ys
        rw [a2]
        exact RVs.fz h2 (fzr_ok h2 8) _ _ _ q1 h8
theorem callX_post {Q : VK} {E : XK} {μ : Mu} {e : Exn} {b : Back c w w1 k} (h : Post c w (callX k w.μ w1.μ e) Q E) {C : Value} {d : Option Addr} (r : RX c w1 e C d) : E C d w1.H := by
  unfold callX at h
  cases q1 : frzE w1.μ k e with
  | none => rw [q1] at h; exact h.elim
  | some e' =>
    rw [q1] at h
    dsimp only at h
    split at h
    · rename_i hc
      exact h (w.join w1 k) rfl b.ext (b.sim_join hc) C d (r.back b.behind_join q1)
    · exact h.elim
theorem callD_post {g : Sem} {vs : List Val} {Q : VK} {E : XK} (s : Sim c w) (h : Post c w (callD g vs w.μ) Q E) :
    ∃ k, cls k vs = true ∧ Sim c (w.cut k) ∧ Post c (w.cut k) (g vs (w.cut k).μ) Q E := by
  refine ⟨ups vs, cls_ups vs _ (Nat.le_refl _), ?_⟩
  unfold callD at h
  split at h
  · rename_i hk
    refine ⟨s.cut hk.2, ?_⟩
    show Post c (w.cut (ups vs)) (g vs (w.μ.take (ups vs))) Q E
    cases q : g vs (w.μ.take (ups vs)) with
    | stuck => rw [q] at h; exact h
    | exc e μ' =>
      rw [q] at h
      intro w1 hμ e1 s1 C d r
      subst hμ
      exact callX_post (b := ⟨s, s1, e1, hk.1⟩) (μ := w.μ) h r
    | ok v μ' =>
      rw [q] at h
      intro w1 hμ e1 s1 x rx
      subst hμ
      dsimp only at h
      have b : Back c w w1 (ups vs) := ⟨s, s1, e1, hk.1⟩
      cases q1 : freeze w1.μ (ups vs) v with
      | none => rw [q1] at h; exact h.elim
      | some v' =>
        rw [q1] at h
        dsimp only at h
        split at h
        · rename_i hc
          exact h (w.join w1 _) rfl b.ext (b.sim_join hc) x (RV.fz b.behind_join (fzr_ok b.behind_join 8) v v' x q1 rx)
        · exact h.elim
  · exact h.elim
/-- .. with one more thing of the caller's own -/
def Wd.join1 (w w1 : Wd) (k : Nat) (a : Addr) (o : Ob) : Wd := { ρ := w.ρ ++ [a], μ := w1.μ.take k ++ w.μ.drop k ++ [o], H := w1.H, rs := w.rs }
theorem Back.ext1 (b : Back c w w1 k) {a : Addr} {o : Ob} (n : w.H a = none) : Ext w (w.join1 w1 k a o) :=
  ⟨⟨[a], rfl, fun x h => by rw [List.mem_singleton.mp h]; exact n⟩, rfl, fun x o h n => b.e.keep x o h (take_not n), fun x h => b.e.there x h⟩
theorem join_len (b : Back c w w1 k) : (w1.μ.take k ++ w.μ.drop k).length = w.ρ.length := by
  obtain ⟨δ, p, _⟩ := b.pre
  rw [List.length_append, List.length_take, List.length_drop, ← b.s1.len, p, List.length_append, b.lenk, b.s.len]
  have := b.hk
  omega
theorem Back.behind1 (b : Back c w w1 k) {a : Addr} {o : Ob} {m : Nat} (ha : w1.ρ[m]? = some a) : Behind b (some m) (w.join1 w1 k a o) :=
  ⟨rfl, fun x h => (List.mem_append.mp h).elim .inl fun h => .inr ⟨m, rfl, by rw [List.mem_singleton.mp h]; exact ha⟩, fun i x h => by
    show (w.ρ ++ [a])[i]? = some x
    rw [List.getElem?_append_left (List.getElem?_eq_some_iff.mp h).1]; exact h, rfl⟩
theorem Back.sim1 (b : Back c w w1 k) (hc : (w1.μ.take k).all (clO k) = true) {a : Addr} {o : Ob} {m : Nat} (hm : k ≤ m) (ha : w1.ρ[m]? = some a) (ro : RO c (w.join1 w1 k a o) a o) : Sim c (w.join1 w1 k a o) := by
  obtain ⟨n1, n2, n3⟩ := b.new_not hm ha
  refine ⟨?_, ?_, fun i x p h1 h2 => ?_, fun x hx => ?_⟩
  · show (w.ρ ++ [a]).length = (w1.μ.take k ++ w.μ.drop k ++ [o]).length
    rw [List.length_append, List.length_append, join_len b]
    rfl
  · show (w.ρ ++ [a]).Nodup
    rw [List.nodup_append]
    exact ⟨b.s.nd, by simp, fun x hx y hy e => n1 (by rw [← List.mem_singleton.mp hy, ← e]; exact hx)⟩
  · have h1 : (w.ρ ++ [a])[i]? = some x := h1
    have h2 : (w1.μ.take k ++ w.μ.drop k ++ [o])[i]? = some p := h2
    by_cases hi : i < w.ρ.length
    · rw [List.getElem?_append_left hi] at h1
      rw [List.getElem?_append_left (by rw [join_len b]; exact hi)] at h2
      exact b.joinOb (b.behind1 ha) (b.ext1 n3) hc h1 h2
    · rw [List.getElem?_append_right (by omega)] at h1
      rw [List.getElem?_append_right (by rw [join_len b]; omega), join_len b] at h2
      have e : i - w.ρ.length = 0 := by
        have := (List.getElem?_eq_some_iff.mp h1).1
        simp at this; omega
      rw [e] at h1 h2
      simp at h1 h2
      subst h1 h2
      exact ro
  · obtain ⟨h1, y, h2⟩ := b.s.rs x hx
    refine ⟨fun z => ?_, y, (b.ext1 (o := o) n3).keep x y h2 h1⟩
    rcases List.mem_append.mp z with z | z
    · exact h1 z
    · rw [List.mem_singleton.mp z, n3] at h2; cases h2
theorem callM_post {g : Sem} {vs : List Val} {Q : VK} {E : XK} (s : Sim c w) (h : Post c w (callM g vs w.μ) Q E) :
    ∃ k, cls k vs = true ∧ Sim c (w.cut k) ∧ Post c (w.cut k) (g vs (w.cut k).μ) Q E := by
  refine ⟨ups vs, cls_ups vs _ (Nat.le_refl _), ?_⟩
  unfold callM at h
  split at h
  · rename_i hk
    refine ⟨s.cut hk.2, ?_⟩
    show Post c (w.cut (ups vs)) (g vs (w.μ.take (ups vs))) Q E
    cases q : g vs (w.μ.take (ups vs)) with
    | stuck => rw [q] at h; exact h
    | exc e μ' =>
      rw [q] at h
      intro w1 hμ e1 s1 C d r
      subst hμ
      exact callX_post (b := ⟨s, s1, e1, hk.1⟩) (μ := w.μ) h r
    | ok v μ' =>
      rw [q] at h
      intro w1 hμ e1 s1 x rx
      subst hμ
      have b : Back c w w1 (ups vs) := ⟨s, s1, e1, hk.1⟩
      cases v with
      | ref m =>
        dsimp only at h
        split at h
        · rename_i hm
          obtain ⟨a, ex, ha⟩ := rx
          obtain ⟨n1, n2, n3⟩ := b.new_not hm ha
          have fin : ∀ {o : Ob}, (w1.μ.take (ups vs)).all (clO (ups vs)) = true → RO c (w.join1 w1 (ups vs) a o) a o → Post c w (.ok (.ref w.μ.length) (w1.μ.take (ups vs) ++ w.μ.drop (ups vs) ++ [o])) Q E → Q x w1.H := fun {o} hc ro h => by
            refine h (w.join1 w1 _ a o) rfl (b.ext1 n3) (b.sim1 hc hm ha ro) x ⟨a, ex, ?_⟩
            show (w.ρ ++ [a])[w.μ.length]? = some a
            rw [← s.len]; simp
          cases qo : w1.μ[m]? with
          | none => rw [qo] at h; exact h.elim
          | some o =>
            rw [qo] at h
            have ro := s1.ob m a o ha qo
            cases o with
            | lst xs =>
              obtain ⟨ys, f1, f2⟩ := ro
              dsimp only at h
              cases q1 : freezes (some m) w1.μ (ups vs) xs with
              | none => rw [q1] at h; exact h.elim
              | some zs =>
                rw [q1] at h
                dsimp only at h
                split at h
                · rename_i hc
                  exact fin (o := .lst zs) hc ⟨ys, f1, RVs.fz (b.behind1 ha) (fzr_ok (b.behind1 ha) 8) xs zs ys q1 f2⟩ h
                · exact h.elim
            | dct ks xs =>
              obtain ⟨ys, f1, f2⟩ := ro
              dsimp only at h
              cases q1 : freezes (some m) w1.μ (ups vs) xs with
              | none => rw [q1] at h; exact h.elim
              | some zs =>
                rw [q1] at h
                dsimp only at h
                split at h
                · rename_i hc
                  exact fin (o := .dct ks zs) hc ⟨ys, f1, RVs.fz (b.behind1 ha) (fzr_ok (b.behind1 ha) 8) xs zs ys q1 f2⟩ h
                · exact h.elim
        · exact h.elim
      | _ => exact h.elim
  · exact h.elim
end

/-! ### the rules -/
/-- what a def promises -/
def spG (c : Ct) (g : Sem) : Sp := fun xs H Q E => ∃ w vs, w.H = H ∧ Sim c w ∧ RVs c w vs xs ∧ Post c w (g vs w.μ) Q E
section
variable {c : Ct} {W : WX} {X : Cx} {x : Str} {p pos : Pos} {e : Expr} {es : List Expr} {ma : M (List Val)} {k : Nat} {f : Addr} {fd : FuncData} {ps : List Str} {g : Sem}
theorem liftD {σ : St} {H : Hp} {Q : VK} (h : TE' c W (mcall (callD g) ma) σ H Q) : TA' c W ma σ H fun xs H1 => spG c g xs H1 Q (WE W σ) := by
  obtain ⟨w, sl, e, s, rs, h⟩ := h
  subst e
  refine ta_then (R := fun w r => Post c w r Q fun cls d H' => W cls d σ H') s rs exc_post (fun z => z) h fun vs w1 e1 s1 rs1 h1 xs rx => ?_
  obtain ⟨k, q1, q2, q3⟩ := callD_post s1 (h1.ext e1)
  exact ⟨w1.cut k, vs, rfl, q2, RVs.cut _ _ q1 rx, q3⟩
theorem liftM {σ : St} {H : Hp} {Q : VK} (h : TE' c W (mcall (callM g) ma) σ H Q) : TA' c W ma σ H fun xs H1 => spG c g xs H1 Q (WE W σ) := by
  obtain ⟨w, sl, e, s, rs, h⟩ := h
  subst e
  refine ta_then (R := fun w r => Post c w r Q fun cls d H' => W cls d σ H') s rs exc_post (fun z => z) h fun vs w1 e1 s1 rs1 h1 xs rx => ?_
  obtain ⟨k, q1, q2, q3⟩ := callM_post s1 (h1.ext e1)
  exact ⟨w1.cut k, vs, rfl, q2, RVs.cut _ _ q1 rx, q3⟩
/-- a def, by name, as it may be called -/
structure Cal (c : Ct) (P : Program) (w : World) (mg : Str → Option Value) (base : Heap) (k : Nat) (x : Str) (g : Sem) : Prop where
  ex : ∃ (f : Addr) (fd : FuncData) (ps : List Str), FnOk P w c.K mg base (L2.CX P w) k f fd ps (spG c g) ∧ mg x = some (.ref f) ∧ PySem.W.keepIn c.K (.ref f) = true ∧ Binds c.K fd ps []
theorem ge_call (F : Cal c X.prog X.w X.mg X.base k x g) (hr : Room k X.A) (tk : Takes X W) (ha : PA X (e :: es) (TA' c W ma)) (hK : X.K = c.K := by rfl) (hg : Gl X x := by rfl)
    (hdb : (x == ("__debug__" : Str)) = false := by decide) (he : starEach (e :: es) X.env = (false, eval e X.env) :: starEach es X.env := by rfl) (hpl : (backTo pos (starEach es X.env)).any (·.1) = false := by rfl) :
    PE X (.Call (.Name x p) (e :: es) [] pos) (TE' c W (mcall (callD g) ma)) := by
  obtain ⟨f, fd, ps, F, hm, hk, hb⟩ := F.ex
  rw [← hK] at F hk hb
  exact (pe_callS F hr hg hm hk hb (passAt tk) ha hdb he hpl).imp fun _ _ _ h => liftD h
theorem ge_callMu (F : Cal c X.prog X.w X.mg X.base k x g) (hr : Room k X.A) (tk : Takes X W) (ha : PA X (e :: es) (TA' c W ma)) (hK : X.K = c.K := by rfl) (hg : Gl X x := by rfl)
    (hdb : (x == ("__debug__" : Str)) = false := by decide) (he : starEach (e :: es) X.env = (false, eval e X.env) :: starEach es X.env := by rfl) (hpl : (backTo pos (starEach es X.env)).any (·.1) = false := by rfl) :
    PE X (.Call (.Name x p) (e :: es) [] pos) (TE' c W (mcall (callM g) ma)) := by
  obtain ⟨f, fd, ps, F, hm, hk, hb⟩ := F.ex
  rw [← hK] at F hk hb
  exact (pe_callS F hr hg hm hk hb (passAt tk) ha hdb he hpl).imp fun _ _ _ h => liftM h
theorem pe_callS0 {CX : CXT} {sp : Sp} {E : St → XK} (F : FnOk X.prog X.w X.K X.mg X.base CX k f fd ps sp) (hr : Room k X.A) (hg : Gl X x) (hm : X.mg x = some (.ref f)) (hk : PySem.W.keepIn X.K (.ref f) = true) (hb : Binds X.K fd ps []) (hx : ∀ σ, PassesAt CX X σ (E σ))
    (hdb : (x == ("__debug__" : Str)) = false := by decide) : PE X (.Call (.Name x p) [] [] pos) (tCallS sp E tNil) := by
  refine ⟨fun pins s σ H Q I h => ?_⟩
  refine wpAny_Call_Name_kw (ld_glob I hg hm ?_ hdb)
  exact PySem.W.callWith_K0 I.kIn hk (run_fnS (us := []) F hr hb (hx σ) I .nil h)
theorem ge_call0 (F : Cal c X.prog X.w X.mg X.base k x g) (hr : Room k X.A) (tk : Takes X W) (hK : X.K = c.K := by rfl) (hg : Gl X x := by rfl)
    (hdb : (x == ("__debug__" : Str)) = false := by decide) : PE X (.Call (.Name x p) [] [] pos) (TE' c W (mcall (callD g) anil)) := by
  obtain ⟨f, fd, ps, F, hm, hk, hb⟩ := F.ex
  rw [← hK] at F hk hb
  refine (pe_callS0 F hr hg hm hk hb (passAt tk) hdb).imp fun σ H Q h => ?_
  have := liftD (ma := anil) h
  obtain ⟨w, sl, e, s, rs, h2⟩ := this
  subst e
  exact h2 w rfl (Ext.refl w) s [] rfl
theorem ge_callMu0 (F : Cal c X.prog X.w X.mg X.base k x g) (hr : Room k X.A) (tk : Takes X W) (hK : X.K = c.K := by rfl) (hg : Gl X x := by rfl)
    (hdb : (x == ("__debug__" : Str)) = false := by decide) : PE X (.Call (.Name x p) [] [] pos) (TE' c W (mcall (callM g) anil)) := by
  obtain ⟨f, fd, ps, F, hm, hk, hb⟩ := F.ex
  rw [← hK] at F hk hb
  refine (pe_callS0 F hr hg hm hk hb (passAt tk) hdb).imp fun σ H Q h => ?_
  have := liftM (ma := anil) h
  obtain ⟨w, sl, e, s, rs, h2⟩ := this
  subst e
  exact h2 w rfl (Ext.refl w) s [] rfl
theorem tk0 {X : Cx} : Takes X W0 := fun _ _ ⟨_, _, _, _, _, _, _, _, _, _, _, _, _, _, _, _, w⟩ => w.elim
end

/-! ### a def -/
def startS (nl : Nat) (vs : List Val) : Sl := vs.map some ++ List.replicate (nl - vs.length) none
/-- np: how many parameters; nl: how many names -/
def defB (np nl : Nat) (b : B) : Sem := fun vs μ => if vs.length = np then (match b (startS nl vs) μ with
  | .nx _ μ' => .ok .non μ'
  | .rt v μ' => .ok v μ'
  | .exc e _ μ' => .exc e μ'
  | _ => .stuck) else .stuck
theorem RSl_none {c : Ct} {w : Wd} : ∀ n : Nat, RSl c w (List.replicate n none) (List.replicate n none)
  | 0 => rfl
  | n + 1 => ⟨none, List.replicate n none, rfl, RSl_none n⟩
theorem RSl_start {c : Ct} {w : Wd} {N : List Str} {nl : Nat} (hn : N.length = nl) : ∀ {vs : List Val} {xs : List V}, RVs c w vs xs → ∀ m, RSl c w (vs.map some ++ List.replicate m none) (xs.map some ++ List.replicate m none)
  | [], _, h, m => by
    have h : _ = [] := h
    subst h
    exact RSl_none m
  | v :: vs, _, ⟨y, r, e, h1, h2⟩, m => by
    subst e
    exact ⟨y, _, rfl, h1, RSl_start hn h2 m⟩
section
variable {c : Ct} {P : Program} {w : World} {mg : Str → Option Value} {base : Heap}
/-- what an exception's way out of a def wishes -/
abbrev WQ (E : XK) : WX := fun cls d _ H => E cls d H
/-- the context of a def's body -/
abbrev bodyX (P : Program) (w : World) (K : PySem.W.Frag) (mg : Str → Option Value) (base : Heap) (N : List Str) (qual : Str) (st : Stmt) (f : Addr) (cdv : Value) (A : Around) (outer : List Env) (s : Shared) (H : Hp) (E : XK) : Cx := cxOf (L2.CX P w) P w K mg base N qual (defScope st) f cdv A outer s H E
theorem def_ok {x qual : Str} {st : Stmt} {f : Addr} {fd : FuncData} {N ps : List Str} {k np nl : Nat} {b : B} (F : Fun c.K x qual st f fd) (S : FnScope N ps (defScope st)) (hp : ps.length = np) (hn : N.length = nl)
    (hb : ∀ (cdv : Value) (A : Around) (outer : List Env) (s : Shared) (H : Hp) (E : XK), Room k (A.deeper (envOfC qual (defScope st) s.heap.objs.size f cdv)) → Takes (bodyX P w c.K mg base N qual st f cdv A outer s H E) (WQ E) →
      PassesOwn (model P w) (bodyX P w c.K mg base N qual st f cdv A outer s H E).A (bodyX P w c.K mg base N qual st f cdv A outer s H E).env (bodyX P w c.K mg base N qual st f cdv A outer s H E).xe →
      PSs (bodyX P w c.K mg base N qual st f cdv A outer s H E) (defBody st) (TS' c (WQ E) b)) : FnOk P w c.K mg base (L2.CX P w) (k + 1) f fd ps (spG c (defB np nl b)) := by
  refine F.okX S (fun vs H Q E h => ?_) (fun cdv A outer s H vs Q E hr h => ?_)
  · obtain ⟨w, us, _, _, r, h⟩ := h
    unfold defB at h
    split at h
    · rename_i hl
      rw [← r.length, hl, hp]
    · exact h.elim
  · refine ⟨_, hb cdv A outer s H E hr (takes_of rfl rfl rfl rfl) (passes_of rfl), ?_⟩
    obtain ⟨w, us, e, sm, r, h⟩ := h
    subst e
    unfold defB at h
    split at h
    · rename_i hl
      refine ⟨w, startS nl us, rfl, sm, ?_, ?_⟩
      · unfold startS L2.start
        rw [r.length, hn]
        exact RSl_start hn r _
      · cases q : b (startS nl us) w.μ with
        | stuck => rw [q] at h; exact h.elim
        | bk _ _ => rw [q] at h; exact h.elim
        | ct _ _ => rw [q] at h; exact h.elim
        | nx sl μ => rw [q] at h; exact fun w' hμ e' s' σ rs => h w' hμ e' s' _ rfl
        | rt v μ => rw [q] at h; exact h
        | exc e sl μ => rw [q] at h; exact fun w' hμ e' s' σ cls d rs rx => h w' hμ e' s' cls d rx
    · exact h.elim
end
end G

/-! G9: in, <, is None, chains. -/
namespace G
open PySem PySem.Spec PyProof.Rows L2

/-! ### in, not in -/
def isIn (x : Val) (xs : List Val) : Bool := xs.any fun y => veq y x
def shps (xs : List Val) : Bool := match deps xs with
  | some n => decide (n ≤ 59)
  | none => false
def strHas (s t : Str) : Bool := !(Builtin.Str.occurrences t s 0 t.length 1).isEmpty
def inB (x y : Val) (μ : Mu) : Option Bool := match look μ y with
  | .lst xs => if shp (look μ x) && shps xs then some (isIn (look μ x) xs) else none
  | .tup xs => if shp (look μ x) && shps xs then some (isIn (look μ x) xs) else none
  | .str t => (match look μ x with
    | .str s => some (strHas s t)
    | _ => none)
  | _ => none
def vIn (x y : Val) (μ : Mu) : Res Val := match inB x y μ with
  | some b => .ok (.bl b) μ
  | none => .stuck
def vNotIn (x y : Val) (μ : Mu) : Res Val := match inB x y μ with
  | some b => .ok (.bl (!b)) μ
  | none => .stuck
theorem nx_In : NoExc2 vIn := fun a b μ e μ' h => by unfold vIn at h; split at h <;> cases h
theorem nx_NotIn : NoExc2 vNotIn := fun a b μ e μ' h => by unfold vNotIn at h; split at h <;> cases h
theorem any_eqv {d : Val} (hd : shp d = true) : ∀ {xs : List Val} {n : Nat}, deps xs = some n → (toDs xs).any (fun z => PyData.eqv z (toD d)) = isIn d xs
  | [], _, _ => rfl
  | x :: xs, n, h => by
    simp only [deps] at h
    cases e1 : dep x with
    | none => rw [e1] at h; cases h
    | some a =>
      cases e2 : deps xs with
      | none => rw [e1, e2] at h; cases h
      | some b =>
        obtain ⟨m, hm⟩ := shp_dep hd
        have := any_eqv hd e2
        unfold isIn at this ⊢
        simp only [toDs, List.any_cons, this, eqv_veq x d a m e1 hm]
theorem deps_shaped {xs : List Val} {n : Nat} (h : deps xs = some n) (hn : n ≤ 59) : SeqAt.shaped (.list (toDs xs)) = true ∧ SeqAt.shaped (.tuple (toDs xs)) = true := by
  have := deps_lay xs n h
  unfold SeqAt.shaped
  simp only [PyData.canLay0, PyData.depth, this.1, Bool.true_and]
  exact ⟨decide_eq_true (by omega), decide_eq_true (by omega)⟩
section
variable {c : Ct} {X : Cx}
theorem room_sh {A : Around} {d : PyData} {n : Nat} (hd : SeqAt.shaped d = true) (hu : A.units + 65 < cLine) : A.units + 1 + min n d.depth < cLine := by
  unfold SeqAt.shaped at hd
  have h := of_decide_eq_true (Bool.and_eq_true_iff.mp hd).2
  have : min n d.depth ≤ d.depth := Nat.min_le_right _ _
  omega
theorem in_run (hK : X.K = c.K) (hu : X.A.units + 65 < cLine) {op : CmpOp} {neg : Bool} (hop : op = if neg then .NotIn else .In) {pins : List (Addr × Obj)} {s : Shared} {σ : St} {w : Wd} {x y : V} {v u : Value} {a b : Val} {Q : VK} {k : Bool} (I : Inv X pins σ w.H s) (rx : RelV x v) (ry : RelV y u) (sm : Sim c w) (r1 : RV c w a x) (r2 : RV c w b y) (e : inB a b w.μ = some k)
    (q : Q (.bl (if neg then !k else k)) w.H) : wpAny (model X.prog X.w) X.A (compareOp op v u) (EP X pins σ Q) X.xe s := by
  unfold inB at e
  split at e
  · rename_i xs e1
    split at e
    · rename_i hs
      cases e
      obtain ⟨h1, h2⟩ := Bool.and_eq_true_iff.mp hs
      unfold shps at h2
      cases hd : deps xs with
      | none => rw [hd] at h2; cases h2
      | some n =>
        rw [hd] at h2
        have hn := of_decide_eq_true h2
        have D1 : Dp X.K w.H x (toD (look w.μ a)) := by rw [hK]; exact look_dp sm r1 h1
        obtain ⟨p, ys, f1, f2, f3⟩ := look_lst sm r2 e1
        have D2 : Dp X.K w.H y (.list (toDs xs)) := by rw [hK, f1]; exact .lst f2 (RVs.dp xs ys n f3 hd)
        obtain ⟨as, R1⟩ := Dp.reads I _ x v D1 rx
        obtain ⟨bs, R2⟩ := Dp.reads I _ y u D2 ry
        have se := (deps_shaped hd hn).1
        have sd := shp_shaped h1
        have ce : PyData.canLayAll0 (toDs xs) = true := SeqAt.canLay_of_shaped se
        rw [← any_eqv h1 hd] at q
        cases neg with
        | false => subst hop; exact SeqAt.in_list_reads R2 R1 ce (SeqAt.canLay_of_shaped sd) (room_sh sd hu) ⟨.bl _, w.H, I, rfl, q⟩
        | true => subst hop; exact SeqAt.notIn_list_reads R2 R1 ce (SeqAt.canLay_of_shaped sd) (room_sh sd hu) ⟨.bl _, w.H, I, rfl, q⟩
    · cases e
  · rename_i xs e1
    split at e
    · rename_i hs
      cases e
      obtain ⟨h1, h2⟩ := Bool.and_eq_true_iff.mp hs
      unfold shps at h2
      cases hd : deps xs with
      | none => rw [hd] at h2; cases h2
      | some n =>
        rw [hd] at h2
        have hn := of_decide_eq_true h2
        have D1 : Dp X.K w.H x (toD (look w.μ a)) := by rw [hK]; exact look_dp sm r1 h1
        obtain ⟨p, ys, f1, f2, f3⟩ := look_tup sm r2 e1
        have D2 : Dp X.K w.H y (.tuple (toDs xs)) := by rw [hK, f1]; exact .tup f2 (RVs.dp xs ys n f3 hd)
        obtain ⟨as, R1⟩ := Dp.reads I _ x v D1 rx
        obtain ⟨bs, R2⟩ := Dp.reads I _ y u D2 ry
        have se := (deps_shaped hd hn).2
        have sd := shp_shaped h1
        have ce : PyData.canLayAll0 (toDs xs) = true := SeqAt.canLay_of_shaped se
        rw [← any_eqv h1 hd] at q
        cases neg with
        | false => subst hop; exact SeqAt.in_tuple_reads R2 R1 ce (SeqAt.canLay_of_shaped sd) (room_sh sd hu) ⟨.bl _, w.H, I, rfl, q⟩
        | true => subst hop; exact SeqAt.notIn_tuple_reads R2 R1 ce (SeqAt.canLay_of_shaped sd) (room_sh sd hu) ⟨.bl _, w.H, I, rfl, q⟩
    · cases e
  · rename_i t e1
    split at e
    · rename_i z e2
      cases e
      have h1 := look_str r1 e2
      have h2 := look_str r2 e1
      cases neg with
      | false => subst hop; exact op_in_str pins s σ w.H x y v u Q I rx ry ⟨z, t, h1, h2, q⟩
      | true => subst hop; exact op_notIn_str pins s σ w.H x y v u Q I rx ry ⟨z, t, h1, h2, q⟩
    · cases e
  · cases e
theorem og_In (hK : X.K = c.K) (hu : X.A.units + 65 < cLine) : OpG c X (compareOp .In) vIn := by
  intro pins s σ H x y v u Q I rx ry ⟨w, a, b, e, sm, r1, r2, h⟩
  subst e
  unfold vIn at h
  split at h
  · rename_i k e
    exact in_run (neg := false) hK hu rfl I rx ry sm r1 r2 e (h.here sm rfl)
  · exact h.elim
theorem og_NotIn (hK : X.K = c.K) (hu : X.A.units + 65 < cLine) : OpG c X (compareOp .NotIn) vNotIn := by
  intro pins s σ H x y v u Q I rx ry ⟨w, a, b, e, sm, r1, r2, h⟩
  subst e
  unfold vNotIn at h
  split at h
  · rename_i k e
    exact in_run (neg := true) hK hu rfl I rx ry sm r1 r2 e (h.here sm rfl)
  · exact h.elim
end

/-! ### is None -/
def isNonB : Val → Bool
  | .non => true
  | _ => false
def vIsN (x y : Val) (μ : Mu) : Res Val := match y with
  | .non => .ok (.bl (isNonB x)) μ
  | _ => .stuck
def vNotN (x y : Val) (μ : Mu) : Res Val := match y with
  | .non => .ok (.bl (!isNonB x)) μ
  | _ => .stuck
theorem nx_IsN : NoExc2 vIsN := fun a b μ e μ' h => by unfold vIsN at h; split at h <;> cases h
theorem nx_NotN : NoExc2 vNotN := fun a b μ e μ' h => by unfold vNotN at h; split at h <;> cases h
theorem isNon_rv {c : Ct} {w : Wd} {a : Val} {x : V} (r : RV c w a x) : decide (x = .non) = isNonB a := by
  cases a with
  | non => rw [show x = V.non from r]; rfl
  | bl b => rw [show x = V.bl b from r]; rfl
  | int b => rw [show x = V.int b from r]; rfl
  | str b => rw [show x = V.str b from r]; rfl
  | tup xs => obtain ⟨a, ys, e, _⟩ := r; rw [e]; rfl
  | lst xs => obtain ⟨a, ys, e, _⟩ := r; rw [e]; rfl
  | rol xs => obtain ⟨a, ys, e, _⟩ := r; rw [e]; rfl
  | ref n => obtain ⟨a, e, _⟩ := r; rw [e]; rfl
  | fn k => obtain ⟨a, e, _⟩ := r; rw [e]; rfl
  | ty n => rw [show x = V.ty n from r]; rfl
  | dct ks vs => obtain ⟨a, ys, e, _⟩ := r; rw [e]; rfl
section
variable {c : Ct} {X : Cx}
theorem og_IsN : OpG c X (compareOp .Is) vIsN := by
  intro pins s σ H x y v u Q I rx ry ⟨w, a, b, e, sm, r1, r2, h⟩
  subst e
  unfold vIsN at h
  split at h
  · exact op_isN pins s σ w.H x y v u Q I rx ry ⟨r2, by rw [isNon_rv r1]; exact h.here sm rfl⟩
  · exact h.elim
theorem og_NotN : OpG c X (compareOp .IsNot) vNotN := by
  intro pins s σ H x y v u Q I rx ry ⟨w, a, b, e, sm, r1, r2, h⟩
  subst e
  unfold vNotN at h
  split at h
  · exact op_notN pins s σ w.H x y v u Q I rx ry ⟨r2, by rw [isNon_rv r1]; exact h.here sm rfl⟩
  · exact h.elim
end

/-! ### <, <=, >, >=: of two ints, of two texts -/
def sLt (s t : Str) : Bool := decide (s.cps.toList < t.cps.toList)
def vLt (x y : Val) (μ : Mu) : Res Val := match x, y with
  | .int i, .int j => .ok (.bl (decide (i < j))) μ
  | .str s, .str t => .ok (.bl (sLt s t)) μ
  | _, _ => .stuck
def vGt (x y : Val) (μ : Mu) : Res Val := match x, y with
  | .int i, .int j => .ok (.bl (decide (j < i))) μ
  | .str s, .str t => .ok (.bl (sLt t s)) μ
  | _, _ => .stuck
def vLe (x y : Val) (μ : Mu) : Res Val := match x, y with
  | .int i, .int j => .ok (.bl (decide (i ≤ j))) μ
  | .str s, .str t => .ok (.bl (!sLt t s)) μ
  | _, _ => .stuck
def vGe (x y : Val) (μ : Mu) : Res Val := match x, y with
  | .int i, .int j => .ok (.bl (decide (j ≤ i))) μ
  | .str s, .str t => .ok (.bl (!sLt s t)) μ
  | _, _ => .stuck
theorem nx_Lt : NoExc2 vLt := fun a b μ e μ' h => by unfold vLt at h; split at h <;> cases h
theorem nx_Gt : NoExc2 vGt := fun a b μ e μ' h => by unfold vGt at h; split at h <;> cases h
theorem nx_Le : NoExc2 vLe := fun a b μ e μ' h => by unfold vLe at h; split at h <;> cases h
theorem nx_Ge : NoExc2 vGe := fun a b μ e μ' h => by unfold vGe at h; split at h <;> cases h
section
variable {c : Ct} {X : Cx}
theorem og_Lt : OpG c X (compareOp .Lt) vLt := by
  intro pins s σ H x y v u Q I rx ry ⟨w, a, b, e, sm, r1, r2, h⟩
  subst e
  unfold vLt at h
  split at h
  · exact op_lt pins s σ w.H x y v u Q I rx ry ⟨_, _, r1, r2, h.here sm rfl⟩
  · exact op_lt_str pins s σ w.H x y v u Q I rx ry ⟨_, _, r1, r2, h.here sm rfl⟩
  · exact h.elim
theorem og_Gt : OpG c X (compareOp .Gt) vGt := by
  intro pins s σ H x y v u Q I rx ry ⟨w, a, b, e, sm, r1, r2, h⟩
  subst e
  unfold vGt at h
  split at h
  · exact op_gt pins s σ w.H x y v u Q I rx ry ⟨_, _, r1, r2, h.here sm rfl⟩
  · exact op_gt_str pins s σ w.H x y v u Q I rx ry ⟨_, _, r1, r2, h.here sm rfl⟩
  · exact h.elim
theorem og_Le : OpG c X (compareOp .LtE) vLe := by
  intro pins s σ H x y v u Q I rx ry ⟨w, a, b, e, sm, r1, r2, h⟩
  subst e
  unfold vLe at h
  split at h
  · exact op_le pins s σ w.H x y v u Q I rx ry ⟨_, _, r1, r2, h.here sm rfl⟩
  · exact op_le_str pins s σ w.H x y v u Q I rx ry ⟨_, _, r1, r2, h.here sm rfl⟩
  · exact h.elim
theorem og_Ge : OpG c X (compareOp .GtE) vGe := by
  intro pins s σ H x y v u Q I rx ry ⟨w, a, b, e, sm, r1, r2, h⟩
  subst e
  unfold vGe at h
  split at h
  · exact op_ge pins s σ w.H x y v u Q I rx ry ⟨_, _, r1, r2, h.here sm rfl⟩
  · exact op_ge_str pins s σ w.H x y v u Q I rx ry ⟨_, _, r1, r2, h.here sm rfl⟩
  · exact h.elim

/-! ### a < b < c -/
def mchain (g g' : Val → Val → Mu → Res Val) (a b d : M Val) : M Val := andThen a fun x => andThen b fun y => andThen (fun _ μ => g x y μ) fun z => match z with
  | .bl true => andThen d fun z => fun _ μ => g' y z μ
  | .bl false => fun _ μ => .ok (.bl false) μ
  | _ => fun _ _ => .stuck
variable {W : WX} {a b d : Expr} {ma mb md : M Val} {pos : Pos}
theorem tr_then {β : Type} {w : Wd} {f : Val → M β} {R : Wd → Res β → Prop} {m : M Val} {sl : Sl} (hexc : ∀ e μ', m sl w.μ ≠ .exc e μ') (hstuck : ¬ R w .stuck)
    (h : R w (andThen m f sl w.μ)) {K : VK}
    (k : ∀ v w', Ext w w' → Sim c w' → R w (f v sl w'.μ) → ∀ x, RV c w' v x → K x w'.H) : Post c w (m sl w.μ) K fun _ _ _ => False := by
  unfold andThen at h
  cases q : m sl w.μ with
  | ok v μ' => rw [q] at h; intro w' hμ e s x rx; subst hμ; exact k v w' e s h x rx
  | exc e μ' => exact absurd q (hexc e μ')
  | stuck => rw [q] at h; exact absurd h hstuck
theorem ge_chain {op op' : CmpOp} {g g' : Val → Val → Mu → Res Val} (ho : OpG c X (compareOp op) g) (n : NoExc2 g) (ho' : OpG c X (compareOp op') g') (n' : NoExc2 g') (ha : PE X a (TE' c W ma)) (hb : PE X b (TE' c W mb)) (hd : PE X d (TE' c W md))
    (hm : lastMarks [op, op'] [b, d] = false := by with_unfolding_all rfl) : PE X (.Compare a [op, op'] [b, d] pos) (TE' c W (mchain g g' ma mb md)) := by
  refine (pe_chain ho ho' ha hb hd hm).imp fun σ H Q ⟨w, sl, e, s, rs, h⟩ => ?_
  subst e
  refine te_then (R := fun w r => Post c w r Q fun cls d H' => W cls d σ H') s rs exc_post (fun z => z) h fun v w1 e1 s1 rs1 h1 x rx => ?_
  refine te_then (R := fun w r => Post c w r Q fun cls d H' => W cls d σ H') s1 rs1 exc_post (fun z => z) (h1.ext e1) fun u w2 e2 s2 rs2 h2 y ry => ?_
  refine ⟨w2, v, u, rfl, s2, RV.ext s1 e2 _ _ rx, ry, ?_⟩
  refine tr_then (m := fun _ μ => g v u μ) (R := fun w r => Post c w r Q fun cls d H' => W cls d σ H') (n _ _ _) (fun z => z) (h2.ext e2) fun z w3 e3 s3 h3 p rp => ?_
  have h3 := h3.ext e3
  have rs3 := rs2.ext s2 e3
  cases z with
  | bl k =>
    refine ⟨k, rp, ?_⟩
    cases k with
    | true =>
      refine iteT ?_
      refine te_then (R := fun w r => Post c w r Q fun cls d H' => W cls d σ H') s3 rs3 exc_post (fun z => z) h3 fun q w4 e4 s4 rs4 h4 y' ry' => ?_
      exact ⟨w4, u, q, rfl, s4, RV.ext s2 (e3.trans e4) _ _ ry, ry', (h4.ext e4).noexc (n' _ _ _)⟩
    | false => exact iteF (h3.here s3 rfl)
  | _ => exact h3.elim
end
end G

/-! G10: exceptions, lists that change. -/
namespace G
open PySem PySem.Spec PyProof.Rows L2

/-! ### raise, try -/
/-- an own exception class without __init__, by its number -/
structure ExcT (c : Ct) (mg : Str → Option Value) (x : Str) (i : Nat) : Prop where
  ex : ∃ C, c.ca i = some C ∧ mg x = some (.ref C) ∧ PySem.W.excIn c.K C [.type "ValueError", .type "Exception", .type "BaseException", .type "object"] "ValueError.__new__" = true ∧ PySem.W.keepIn c.K (.ref C) = true ∧
    PySem.W.subIn c.K (.ref C) (.type "BaseException") = some true ∧ PySem.W.typeIn c.K (.ref C) = some (.type "type")
/-- what 'except x' takes: mt by numbers -/
structure HdlT (c : Ct) (mg : Str → Option Value) (x : Str) (mt : Nat → Option Bool) : Prop where
  ex : ∃ H, mg x = some (.ref H) ∧ ∀ i C b, c.ca i = some C → mt i = some b → PySem.W.exmOne c.K (.ref C) (.ref H) = some b
def sraise (i : Nat) : B := fun sl μ => .exc ⟨i, []⟩ sl μ
/-- try: body except one: suite -/
def stry (mt : Nat → Option Bool) (body suite : B) : B := fun sl μ => match body sl μ with
  | .exc e sl' μ' => (match mt e.c with
    | some true => (match suite sl' μ' with
      | .exc _ _ _ => .stuck
      | r => r)
    | some false => .exc e sl' μ'
    | none => .stuck)
  | r => r
section
variable {c : Ct} {W : WX} {X : Cx} {x m : Str} {i : Nat} {pos p p2 p3 : Pos} {j : Nat}
theorem gs_raise (F : ExcT c X.mg x i) (tk : Takes X W) (hK : X.K = c.K := by rfl) (hc : X.calm = true := by rfl) (hg : Gl X x := by rfl) (hdb : (x == ("__debug__" : Str)) = false := by decide) :
    PS X (.Raise (some (.Call (.Name x p) [.Constant (.str m) j p2] [] p3)) none pos) (TS' c W (sraise i)) := by
  obtain ⟨C, h1, h2, h3, h4, h5, h6⟩ := F.ex
  rw [← hK] at h3 h4 h5 h6
  refine (ps_raise hc tk (pmk_own PySem.F.excBase_ValueError h3 h2 h4 (raises_own h5 h6) hg hdb)).imp fun D σ H ⟨w, sl, e, s, rs, h⟩ => ?_
  subst e
  exact h w rfl (Ext.refl w) s σ _ none rs ⟨C, h1, rfl, .inl ⟨rfl, rfl⟩⟩
theorem gs_try {mt : Nat → Option Bool} {body suite : List Stmt} {b₀ : Stmt} {bb bs : B} (F : HdlT c X.mg x mt) (tk : Takes X W) (hs : X.stack = X.env :: X.outer) (hf : X.env.frame = some X.env.locals)
    (hb : ∀ (W : WX) (pn : List (Addr × Obj)) (xe : Value → Shared → Prop), Takes (X.tr pn xe) W → PassesOwn (model X.prog X.w) X.A X.env xe → PSs (X.tr pn xe) body (TS' c W bb))
    (hsu : ∀ (a : Addr) (pn : List (Addr × Obj)), PSs (X.suite a pn) (b₀ :: suite) (TS' c W0 bs)) (hK : X.K = c.K := by rfl) (hg : Gl X x := by rfl) (hdb : (x == ("__debug__" : Str)) = false := by decide) :
    PS X (.Try body [.ExceptHandler (some (.Name x p)) none (b₀ :: suite) p2] [] [] pos) (TS' c W (stry mt bb bs)) := by
  obtain ⟨Hd, h1, h2⟩ := F.ex
  rw [← hK] at h2
  refine (ps_try_only (c := .ref Hd) hs hf ⟨hg, hdb, .inl h1⟩ tk hb (ts := fun _ _ _ => TS' c W0 bs) (fun a oe cls d pn _ _ => hsu a _)).imp fun D σ H ⟨w, sl, e, s, rs, h⟩ => ⟨w, sl, e, s, rs, ?_⟩
  unfold stry at h
  cases q : bb sl w.μ with
  | exc e sl' μ' =>
    rw [q] at h
    dsimp only at h
    intro w' hμ ext sim σ' cls d rs' rx
    subst hμ
    obtain ⟨C, r1, r2, _⟩ := id rx
    subst r2
    cases qm : mt e.c with
    | none => rw [qm] at h; exact h.elim
    | some b =>
      rw [qm] at h
      refine ⟨b, h2 _ _ _ r1 qm, fun hb a ha => ?_, fun hb => ?_⟩
      · subst hb
        dsimp only at h
        refine ⟨w', sl', rfl, sim, rs', ?_⟩
        have h := PostS.ext h ext
        cases qs : bs sl' w'.μ with
        | exc _ _ _ => rw [qs] at h; exact h.elim
        | nx _ _ => rw [qs] at h; exact h
        | rt _ _ => rw [qs] at h; exact h
        | bk _ _ => rw [qs] at h; exact h
        | ct _ _ => rw [qs] at h; exact h
        | stuck => rw [qs] at h; exact h
      · subst hb
        exact h w' rfl ext sim σ' _ d rs' rx
  | nx _ _ => rw [q] at h; exact h
  | rt _ _ => rw [q] at h; exact h
  | bk _ _ => rw [q] at h; exact h
  | ct _ _ => rw [q] at h; exact h
  | stuck => rw [q] at h; exact h
end

/-! ### methods -/
def MtG (c : Ct) (X : Cx) (id : String) (g : Val → List Val → Mu → Res Val) : Prop :=
  MtR X id fun x xs H Q => ∃ w a vs, w.H = H ∧ Sim c w ∧ RV c w a x ∧ RVs c w vs xs ∧ Post c w (g a vs w.μ) Q fun _ _ _ => False
def MtF (c : Ct) (X : Cx) (id : String) (g : Val → List Val → Mu → Res (List Val)) : Prop :=
  MtR X id fun x xs H Q => ∃ w a vs, w.H = H ∧ Sim c w ∧ RV c w a x ∧ RVs c w vs xs ∧ PostF c w (g a vs w.μ) Q fun _ _ _ => False
def NoExcM {α : Type} (g : Val → List Val → Mu → Res α) : Prop := ∀ a vs μ e μ', g a vs μ ≠ .exc e μ'
/-- which built-in type's methods it has -/
def isTy (T : String) (v : Val) (μ : Mu) : Bool := match look μ v with
  | .lst _ => T == "list"
  | .str _ => T == "str"
  | _ => false
def mmeth {α : Type} (T : String) (g : Val → List Val → Mu → Res α) (o : M Val) (as : M (List Val)) : M α := andThen o fun v => fun sl μ => if isTy T v μ then andThen as (fun vs => fun _ μ => g v vs μ) sl μ else .stuck
section
variable {c : Ct} {W : WX} {X : Cx} {o e : Expr} {es : List Expr} {mo : M Val} {ma : M (List Val)} {name : Str} {apos cpos : Pos} {T id : String}
theorem isTy_tyV {w : Wd} {a : Val} {x : V} (s : Sim c w) (r : RV c w a x) (h : isTy T a w.μ = true) : tyV c.K T x w.H := by
  unfold isTy at h
  split at h
  · rename_i xs e
    obtain ⟨p, ys, rfl, h2, _⟩ := look_lst s r e
    exact .inl ⟨by simpa using h, ys, h2⟩
  · rename_i xs e
    rw [look_str r e]
    exact (show T = "str" from by simpa using h)
  · cases h
theorem liftMt {g : Val → List Val → Mu → Res Val} (n : NoExcM g) {σ : St} {H : Hp} {Q : VK} (h : TE' c W (mmeth T g mo ma) σ H Q) :
    TE' c W mo σ H fun x H1 => tyV c.K T x H1 ∧ TA' c W ma σ H1 fun xs H2 => ∃ w a vs, w.H = H2 ∧ Sim c w ∧ RV c w a x ∧ RVs c w vs xs ∧ Post c w (g a vs w.μ) Q fun _ _ _ => False := by
  obtain ⟨w, sl, e, s, rs, h⟩ := h
  subst e
  refine te_then (R := fun w r => Post c w r Q fun cls d H' => W cls d σ H') s rs exc_post (fun z => z) h fun v w1 e1 s1 rs1 h1 x rx => ?_
  split at h1
  · rename_i ht
    refine ⟨isTy_tyV s1 rx ht, ?_⟩
    refine ta_then (R := fun w r => Post c w r Q fun cls d H' => W cls d σ H') s1 rs1 exc_post (fun z => z) (h1.ext e1) fun vs w2 e2 s2 rs2 h2 xs rxs => ?_
    exact ⟨w2, v, vs, rfl, s2, RV.ext s1 e2 _ _ rx, rxs, (h2.ext e2).noexc (n _ _ _)⟩
  · exact h1.elim
theorem liftMtF {g : Val → List Val → Mu → Res (List Val)} (n : NoExcM g) {σ : St} {H : Hp} {Q : VK} (h : TF' c W (mmeth T g mo ma) σ H Q) :
    TE' c W mo σ H fun x H1 => tyV c.K T x H1 ∧ TA' c W ma σ H1 fun xs H2 => ∃ w a vs, w.H = H2 ∧ Sim c w ∧ RV c w a x ∧ RVs c w vs xs ∧ PostF c w (g a vs w.μ) Q fun _ _ _ => False := by
  obtain ⟨w, sl, e, s, rs, h⟩ := h
  subst e
  refine te_then (R := fun w r => PostF c w r Q fun cls d H' => W cls d σ H') s rs excF_post (fun z => z) h fun v w1 e1 s1 rs1 h1 x rx => ?_
  split at h1
  · rename_i ht
    refine ⟨isTy_tyV s1 rx ht, ?_⟩
    refine ta_then (R := fun w r => PostF c w r Q fun cls d H' => W cls d σ H') s1 rs1 excF_post (fun z => z) (h1.ext e1) fun vs w2 e2 s2 rs2 h2 xs rxs => ?_
    exact ⟨w2, v, vs, rfl, s2, RV.ext s1 e2 _ _ rx, rxs, (h2.ext e2).noexc (n _ _ _)⟩
  · exact h1.elim
theorem ge_bm {g : Val → List Val → Mu → Res Val} (pa : PlainAttrs T) (slot : Slot T name id) (hty : typeOf (.builtin id) = pure (.type "method_descriptor")) (hm : MtG c X id g) (n : NoExcM g) (ho : PE X o (TE' c W mo)) (ha : PA X (e :: es) (TA' c W ma)) (hK : X.K = c.K := by rfl)
    (hbase : attributeBase o name X.env (eval o X.env) = eval o X.env := by rfl)
    (hfew : ((backTo cpos (starEach (e :: es) X.env)).all (fun x => !x.1) && (backToKw cpos (keywordEach [] X.env)).all (fun x => x.1.isSome)
      && decide ((e :: es).length + ([] : List Keyword).length + (if ([] : List Keyword).isEmpty then 0 else 1) < 30)) = true := by rfl)
    (hline : (apos.endLine == cpos.line) = true := by rfl) (hs : starEach (e :: es) X.env = (false, eval e X.env) :: starEach es X.env := by rfl) (hplain : (backTo cpos (starEach es X.env)).any (·.1) = false := by rfl) :
    PE X (.Call (.Attribute o name apos) (e :: es) [] cpos) (TE' c W (mmeth T g mo ma)) := by
  refine (pe_bm pa slot hty hm ho ha hbase hfew hline hs hplain).imp fun σ H Q h => ?_
  have h := liftMt n h
  rw [← hK] at h
  exact h
theorem gf_bm {g : Val → List Val → Mu → Res (List Val)} (pa : PlainAttrs T) (slot : Slot T name id) (hty : typeOf (.builtin id) = pure (.type "method_descriptor")) (hm : MtF c X id g) (n : NoExcM g) (ho : PE X o (TE' c W mo)) (ha : PA X (e :: es) (TA' c W ma)) (hK : X.K = c.K := by rfl)
    (hbase : attributeBase o name X.env (eval o X.env) = eval o X.env := by rfl)
    (hfew : ((backTo cpos (starEach (e :: es) X.env)).all (fun x => !x.1) && (backToKw cpos (keywordEach [] X.env)).all (fun x => x.1.isSome)
      && decide ((e :: es).length + ([] : List Keyword).length + (if ([] : List Keyword).isEmpty then 0 else 1) < 30)) = true := by rfl)
    (hline : (apos.endLine == cpos.line) = true := by rfl) (hs : starEach (e :: es) X.env = (false, eval e X.env) :: starEach es X.env := by rfl) (hplain : (backTo cpos (starEach es X.env)).any (·.1) = false := by rfl) :
    PE X (.Call (.Attribute o name apos) (e :: es) [] cpos) (TF' c W (mmeth T g mo ma)) := by
  refine (pe_bm pa slot hty hm ho ha hbase hfew hline hs hplain).imp fun σ H Q h => ?_
  have h := liftMtF n h
  rw [← hK] at h
  exact h
theorem ge_bm0 {g : Val → List Val → Mu → Res Val} (pa : PlainAttrs T) (slot : Slot T name id) (hty : typeOf (.builtin id) = pure (.type "method_descriptor")) (hm : MtG c X id g) (n : NoExcM g) (ho : PE X o (TE' c W mo)) (hK : X.K = c.K := by rfl)
    (hbase : attributeBase o name X.env (eval o X.env) = eval o X.env := by rfl) (hline : (apos.endLine == cpos.line) = true := by rfl) :
    PE X (.Call (.Attribute o name apos) [] [] cpos) (TE' c W (mmeth T g mo anil)) := by
  refine (pe_bm0 pa slot hty hm ho hbase hline).imp fun σ H Q h => ?_
  have h := liftMt n h
  rw [← hK] at h
  obtain ⟨w, sl, e, s, rs, h'⟩ := h
  subst e
  refine ⟨w, sl, rfl, s, rs, ?_⟩
  cases q : mo sl w.μ with
  | stuck => rw [q] at h'; exact h'
  | exc e μ' => rw [q] at h'; exact h'
  | ok v μ' =>
    rw [q] at h'
    intro w1 hμ e1 s1 x rx
    obtain ⟨h1, w2, sl2, e2, s2, rs2, h2⟩ := h' w1 hμ e1 s1 x rx
    refine ⟨h1, ?_⟩
    rw [← e2]
    exact h2 w2 rfl (Ext.refl w2) s2 [] rfl
theorem gf_bm0 {g : Val → List Val → Mu → Res (List Val)} (pa : PlainAttrs T) (slot : Slot T name id) (hty : typeOf (.builtin id) = pure (.type "method_descriptor")) (hm : MtF c X id g) (n : NoExcM g) (ho : PE X o (TE' c W mo)) (hK : X.K = c.K := by rfl)
    (hbase : attributeBase o name X.env (eval o X.env) = eval o X.env := by rfl) (hline : (apos.endLine == cpos.line) = true := by rfl) :
    PE X (.Call (.Attribute o name apos) [] [] cpos) (TF' c W (mmeth T g mo anil)) := by
  refine (pe_bm0 pa slot hty hm ho hbase hline).imp fun σ H Q h => ?_
  have h := liftMtF n h
  rw [← hK] at h
  obtain ⟨w, sl, e, s, rs, h'⟩ := h
  subst e
  refine ⟨w, sl, rfl, s, rs, ?_⟩
  cases q : mo sl w.μ with
  | stuck => rw [q] at h'; exact h'
  | exc e μ' => rw [q] at h'; exact h'
  | ok v μ' =>
    rw [q] at h'
    intro w1 hμ e1 s1 x rx
    obtain ⟨h1, w2, sl2, e2, s2, rs2, h2⟩ := h' w1 hμ e1 s1 x rx
    refine ⟨h1, ?_⟩
    rw [← e2]
    exact h2 w2 rfl (Ext.refl w2) s2 [] rfl
end

/-! ### lists that change -/
/-- the items of a list that stands in the heap -/
def itemsH (a : Val) (μ : Mu) : Option (List Val) := match a with
  | .ref n => (match μ[n]? with | some (.lst ys) => some ys | _ => none)
  | .lst ys => some ys
  | _ => none
section
variable {c : Ct} {w : Wd} {Q : VK} {E : XK}
/-- the list at n becomes xs' -/
theorem Post.setL {n : Nat} {p : Addr} {xs' : List Val} {ys' : List V} {v : Val} {x : V} (h : Post c w (.ok v (w.μ.set n (.lst xs'))) Q E) (s : Sim c w) (hp : w.ρ[n]? = some p) (r : RVs c w xs' ys') (rv : RV c w v x) : Q x (upd w.H p (.lst ys')) := by
  have e : Ext w { w with μ := w.μ.set n (.lst xs'), H := upd w.H p (.lst ys') } := set_ext hp
  exact h { w with μ := w.μ.set n (.lst xs'), H := upd w.H p (.lst ys') } rfl e (set_sim s hp ⟨ys', upd_same, RVs.ext s e _ _ r⟩) x (RV.ext s e _ _ rv)
theorem ref_lst (s : Sim c w) {n : Nat} {x : V} {xs : List Val} (r : RV c w (.ref n) x) (h : w.μ[n]? = some (.lst xs)) : ∃ p ys, x = .ref p ∧ w.ρ[n]? = some p ∧ w.H p = some (.lst ys) ∧ RVs c w xs ys := by
  obtain ⟨p, e, hp⟩ := r
  obtain ⟨ys, h1, h2⟩ := s.ob n p _ hp h
  exact ⟨p, ys, e, hp, h1, h2⟩
end
def vAppend (a : Val) (vs : List Val) (μ : Mu) : Res Val := match a, vs with
  | .ref n, [y] => (match μ[n]? with
    | some (.lst xs) => if xs.length < LIM then .ok .non (μ.set n (.lst (xs ++ [y]))) else .stuck
    | _ => .stuck)
  | _, _ => .stuck
def vExtend (a : Val) (vs : List Val) (μ : Mu) : Res Val := match a, vs with
  | .ref n, [y] => (match μ[n]?, itemsH y μ with
    | some (.lst xs), some zs => if xs.length + zs.length ≤ LIM then .ok .non (μ.set n (.lst (xs ++ zs))) else .stuck
    | _, _ => .stuck)
  | _, _ => .stuck
def vPop (a : Val) (vs : List Val) (μ : Mu) : Res Val := match a, vs with
  | .ref n, [] => (match μ[n]? with
    | some (.lst xs) => (match xs[xs.length - 1]? with
      | some y => .ok y (μ.set n (.lst xs.dropLast))
      | none => .stuck)
    | _ => .stuck)
  | _, _ => .stuck
def vPopAt (a : Val) (vs : List Val) (μ : Mu) : Res Val := match a, vs with
  | .ref n, [.int i] => (match μ[n]? with
    | some (.lst xs) => if small62 i then (match seqIndex? i xs.length with
      | some k => (match xs[k]? with
        | some y => .ok y (μ.set n (.lst (xs.eraseIdx k)))
        | none => .stuck)
      | none => .stuck) else .stuck
    | _ => .stuck)
  | _, _ => .stuck
def vReverse (a : Val) (vs : List Val) (μ : Mu) : Res Val := match a, vs with
  | .ref n, [] => (match μ[n]? with
    | some (.lst xs) => .ok .non (μ.set n (.lst xs.reverse))
    | _ => .stuck)
  | _, _ => .stuck
def vInsert (a : Val) (vs : List Val) (μ : Mu) : Res Val := match a, vs with
  | .ref n, [.int i, y] => (match μ[n]? with
    | some (.lst xs) => if 0 ≤ i ∧ small62 i ∧ xs.length < LIM then .ok .non (μ.set n (.lst (xs.take i.toNat ++ [y] ++ xs.drop i.toNat))) else .stuck
    | _ => .stuck)
  | _, _ => .stuck
theorem nx_Append : NoExcM vAppend := fun a vs μ e μ' h => by
  unfold vAppend at h
  split at h
  · split at h
    · split at h <;> cases h
    · cases h
  · cases h
theorem nx_Extend : NoExcM vExtend := fun a vs μ e μ' h => by
  unfold vExtend at h
  split at h
  · split at h
    · split at h <;> cases h
    · cases h
  · cases h
theorem nx_Pop : NoExcM vPop := fun a vs μ e μ' h => by
  unfold vPop at h
  split at h
  · split at h
    · split at h <;> cases h
    · cases h
  · cases h
theorem nx_PopAt : NoExcM vPopAt := fun a vs μ e μ' h => by
  unfold vPopAt at h
  split at h
  · split at h
    · split at h
      · split at h
        · split at h <;> cases h
        · cases h
      · cases h
    · cases h
  · cases h
theorem nx_Reverse : NoExcM vReverse := fun a vs μ e μ' h => by
  unfold vReverse at h
  split at h
  · split at h <;> cases h
  · cases h
theorem nx_Insert : NoExcM vInsert := fun a vs μ e μ' h => by
  unfold vInsert at h
  split at h
  · split at h
    · split at h <;> cases h
    · cases h
  · cases h
section
variable {c : Ct} {X : Cx}
theorem itemsH_H {w : Wd} (s : Sim c w) {a : Val} {x : V} {xs : List Val} (r : RV c w a x) (h : itemsH a w.μ = some xs) : ∃ p ys, x = .ref p ∧ w.H p = some (.lst ys) ∧ RVs c w xs ys := by
  unfold itemsH at h
  split at h
  · rename_i n
    split at h
    · rename_i ys q
      cases h
      obtain ⟨p, zs, e, _, h1, h2⟩ := ref_lst s r q
      exact ⟨p, zs, e, h1, h2⟩
    · cases h
  · rename_i ys
    cases h
    obtain ⟨p, zs, e, h1, h2⟩ := r
    exact ⟨p, zs, e, h1.1, h2⟩
  · cases h
theorem mg_Append : MtG c X "list.append" vAppend := by
  intro pins s σ H x xs v us Q I rx rv ⟨w, a, vs, e, sm, r1, r2, h⟩
  subst e
  unfold vAppend at h
  split at h
  · rename_i n y
    split at h
    · rename_i zs q
      split at h
      · rename_i hl
        obtain ⟨p, ys, rfl, hp, h1, h2⟩ := ref_lst sm r1 q
        obtain ⟨z, rfl, rz⟩ := r2.one
        exact mt_append pins s σ w.H _ _ v us Q I rx rv ⟨p, ys, z, rfl, rfl, h1, by rw [← h2.length, ← LIM_eq]; exact hl, h.setL sm hp (h2.append ⟨z, [], rfl, rz, rfl⟩) rfl⟩
      · exact h.elim
    · exact h.elim
  · exact h.elim
theorem mg_Extend : MtG c X "list.extend" vExtend := by
  intro pins s σ H x xs v us Q I rx rv ⟨w, a, vs, e, sm, r1, r2, h⟩
  subst e
  unfold vExtend at h
  split at h
  · rename_i n y
    split at h
    · rename_i zs ws q q2
      split at h
      · rename_i hl
        obtain ⟨p, ys, rfl, hp, h1, h2⟩ := ref_lst sm r1 q
        obtain ⟨z, rfl, rz⟩ := r2.one
        obtain ⟨b, ks, rfl, h3, h4⟩ := itemsH_H sm rz q2
        exact mt_extend pins s σ w.H _ _ v us Q I rx rv ⟨p, b, ys, ks, rfl, rfl, h1, h3, by rw [← h2.length, ← h4.length, ← LIM_eq]; exact hl, h.setL sm hp (h2.append h4) rfl⟩
      · exact h.elim
    · exact h.elim
  · exact h.elim
theorem mg_Pop : MtG c X "list.pop" vPop := by
  intro pins s σ H x xs v us Q I rx rv ⟨w, a, vs, e, sm, r1, r2, h⟩
  subst e
  unfold vPop at h
  split at h
  · rename_i n
    split at h
    · rename_i zs q
      split at h
      · rename_i y hy
        obtain ⟨p, ys, rfl, hp, h1, h2⟩ := ref_lst sm r1 q
        obtain ⟨z, hz, rz⟩ := h2.get hy
        rw [h2.length] at hz
        exact mt_pop pins s σ w.H _ _ v us Q I rx rv ⟨p, ys, z, rfl, r2, h1, hz, h.setL sm hp h2.dropLast rz⟩
      · exact h.elim
    · exact h.elim
  · exact h.elim
theorem mg_PopAt : MtG c X "list.pop" vPopAt := by
  intro pins s σ H x xs v us Q I rx rv ⟨w, a, vs, e, sm, r1, r2, h⟩
  subst e
  unfold vPopAt at h
  split at h
  · rename_i n i
    split at h
    · rename_i zs q
      split at h
      · rename_i hi
        split at h
        · rename_i k hk
          split at h
          · rename_i y hy
            obtain ⟨p, ys, rfl, hp, h1, h2⟩ := ref_lst sm r1 q
            obtain ⟨z, hz, rz⟩ := h2.get hy
            obtain ⟨z', rfl, rz'⟩ := r2.one
            obtain ⟨i1, i2⟩ := small62_iff hi
            have rz' : z' = V.int i := rz'
            subst rz'
            exact mt_popAt pins s σ w.H _ _ v us Q I rx rv ⟨p, ys, i, k, z, rfl, rfl, h1, by omega, by omega, by rw [← h2.length]; exact hk, hz, h.setL sm hp (h2.eraseIdx k) rz⟩
          · exact h.elim
        · exact h.elim
      · exact h.elim
    · exact h.elim
  · exact h.elim
theorem mg_Reverse : MtG c X "list.reverse" vReverse := by
  intro pins s σ H x xs v us Q I rx rv ⟨w, a, vs, e, sm, r1, r2, h⟩
  subst e
  unfold vReverse at h
  split at h
  · rename_i n
    split at h
    · rename_i zs q
      obtain ⟨p, ys, rfl, hp, h1, h2⟩ := ref_lst sm r1 q
      exact mt_reverse pins s σ w.H _ _ v us Q I rx rv ⟨p, ys, rfl, r2, h1, h.setL sm hp h2.reverse rfl⟩
    · exact h.elim
  · exact h.elim
theorem mg_Insert : MtG c X "list.insert" vInsert := by
  intro pins s σ H x xs v us Q I rx rv ⟨w, a, vs, e, sm, r1, r2, h⟩
  subst e
  unfold vInsert at h
  split at h
  · rename_i n i y
    split at h
    · rename_i zs q
      split at h
      · rename_i hl
        obtain ⟨p, ys, rfl, hp, h1, h2⟩ := ref_lst sm r1 q
        obtain ⟨z1, z, rfl, r3, rz⟩ := r2.two
        have r3 : z1 = V.int i := r3
        subst r3
        obtain ⟨i1, i2⟩ := small62_iff hl.2.1
        exact mt_insert pins s σ w.H _ _ v us Q I rx rv ⟨p, ys, i, z, rfl, rfl, h1, by rw [← h2.length, ← LIM_eq]; exact hl.2.2, hl.1, by omega, h.setL sm hp (((h2.take _).append (show RVs c w [y] [z] from ⟨z, [], rfl, rz, rfl⟩)).append (h2.drop _)) rfl⟩
      · exact h.elim
    · exact h.elim
  · exact h.elim

/-! ### list + list, list * int: new lists -/
def OpF (c : Ct) (X : Cx) (f : Value → Value → PySem.Sem Value) (g : Val → Val → Mu → Res (List Val)) : Prop :=
  OpR X f fun x y H Q => ∃ w a b, w.H = H ∧ Sim c w ∧ RV c w a x ∧ RV c w b y ∧ PostF c w (g a b w.μ) Q fun _ _ _ => False
def NoExc2F (g : Val → Val → Mu → Res (List Val)) : Prop := ∀ a b μ e μ', g a b μ ≠ .exc e μ'
def mop2F (g : Val → Val → Mu → Res (List Val)) (a b : M Val) : M (List Val) := andThen a fun x => andThen b fun y => fun _ μ => g x y μ
def vCat (x y : Val) (μ : Mu) : Res (List Val) := match itemsH x μ, itemsH y μ with
  | some xs, some ys => if xs.length + ys.length ≤ LIM then .ok (xs ++ ys) μ else .stuck
  | _, _ => .stuck
def vRep (x y : Val) (μ : Mu) : Res (List Val) := match itemsH x μ, y with
  | some xs, .int k => if small62 k ∧ xs.length * k.toNat ≤ LIM then .ok (List.replicate k.toNat xs).flatten μ else .stuck
  | _, _ => .stuck
theorem nx_Cat : NoExc2F vCat := fun a b μ e μ' h => by
  unfold vCat at h
  split at h
  · split at h <;> cases h
  · cases h
theorem nx_Rep : NoExc2F vRep := fun a b μ e μ' h => by
  unfold vRep at h
  split at h
  · split at h <;> cases h
  · cases h
theorem of_Cat : OpF c X (binaryOp .Add) vCat := by
  intro pins s σ H x y v u Q I rx ry ⟨w, a, b, e, sm, r1, r2, h⟩
  subst e
  unfold vCat at h
  split at h
  · rename_i xs ys q1 q2
    split at h
    · rename_i hl
      obtain ⟨p, zs, rfl, h1, h2⟩ := itemsH_H sm r1 q1
      obtain ⟨p2, zs2, rfl, h3, h4⟩ := itemsH_H sm r2 q2
      exact op_cat pins s σ w.H _ _ v u Q I rx ry ⟨p, p2, zs, zs2, rfl, rfl, h1, h3, by rw [← h2.length, ← h4.length, ← LIM_eq]; exact hl, fun D hD => h.new sm (h2.append h4) hD⟩
    · exact h.elim
  · exact h.elim
theorem RVs.rep {w : Wd} {xs : List Val} {ys : List V} (r : RVs c w xs ys) : ∀ n : Nat, RVs c w (List.replicate n xs).flatten (List.replicate n ys).flatten
  | 0 => (rfl : ([] : List V) = [])
  | n + 1 => by
    rw [List.replicate_succ, List.replicate_succ, List.flatten_cons, List.flatten_cons]
    exact r.append (RVs.rep r n)
theorem of_Rep : OpF c X (binaryOp .Mult) vRep := by
  intro pins s σ H x y v u Q I rx ry ⟨w, a, b, e, sm, r1, r2, h⟩
  subst e
  unfold vRep at h
  split at h
  · rename_i xs k q1
    split at h
    · rename_i hl
      obtain ⟨p, zs, rfl, h1, h2⟩ := itemsH_H sm r1 q1
      have r2 : y = V.int k := r2
      subst r2
      obtain ⟨i1, i2⟩ := small62_iff hl.1
      exact op_rep pins s σ w.H _ _ v u Q I rx ry ⟨p, k, zs, rfl, rfl, h1, by omega, by omega, by rw [← h2.length, ← LIM_eq]; exact hl.2, fun D hD => h.new sm (h2.rep _) hD⟩
    · exact h.elim
  · exact h.elim
variable {W : WX} {a b : Expr} {ma mb : M Val} {pos : Pos}
theorem gf_op {op : Operator} {g : Val → Val → Mu → Res (List Val)} (ho : OpF c X (binaryOp op) g) (n : NoExc2F g) (ha : PE X a (TE' c W ma)) (hb : PE X b (TE' c W mb)) : PE X (.BinOp a op b pos) (TF' c W (mop2F g ma mb)) := by
  refine (pe_op ho ha hb).imp fun σ H Q ⟨w, sl, e, s, rs, h⟩ => ?_
  subst e
  refine te_then (R := fun w r => PostF c w r Q fun cls d H' => W cls d σ H') s rs excF_post (fun z => z) h fun v w1 e1 s1 rs1 h1 x rx => ?_
  refine te_then (R := fun w r => PostF c w r Q fun cls d H' => W cls d σ H') s1 rs1 excF_post (fun z => z) (h1.ext e1) fun u w2 e2 s2 rs2 h2 y ry => ?_
  exact ⟨w2, v, u, rfl, s2, RV.ext s1 e2 _ _ rx, ry, (h2.ext e2).noexc (n _ _ _)⟩
end
end G

/-! G11: sorted, min, max of data. -/
namespace G.Raw
open PySem PySem.W PySem.Calls PyProof.Rows
section
variable {prog : Program} {w : World} {A : Around} {E : Value → Shared → Prop} {s : Shared}
theorem collect_tupleG {l : Addr} {vs : List Value} {Q : List Value → Shared → Prop} (hl : s.heap.IsTuple l vs.toArray)
    (h : Q vs { s with heap := (s.heap.push (seqObj "list" #[] 0)).update s.heap.objs.size (Obj.mapSeq (· ++ vs.toArray)) }) (hsz : vs.length ≤ sizeLine) :
    wpAny (model prog w) A (collect (.ref l)) Q E s := by
  obtain ⟨o, ho, hc, n, hd⟩ := id hl
  unfold collect
  refine wpAny_bind (wpAny_runValue (codeAny_builtin entry_proto_collect' ?_))
  show wpAny _ _ (do again (.builtin "list.__iadd__" ⟨[← newList [], .ref l], []⟩)) _ _ s
  refine wpAny_bind (wpAny_newList (wpAny_pure ⟨Code.quiet_builtin _ (by decide +kernel), codeAny_builtin entry_list_iadd' ?_⟩))
  show wpAny _ _ (Builtin.List.listExtendWith (.ref s.heap.objs.size) (.ref l) (.ref s.heap.objs.size)) _ _ { s with heap := s.heap.push (seqObj "list" #[] 0) }
  unfold Builtin.List.listExtendWith
  have ho' : (s.heap.push (seqObj "list" #[] 0)).get? l = some o := Heap.get?_push_of_some _ ho
  refine wpAny_bind (wpAny_typeOf (T := "tuple") ⟨o, ho', hc⟩ ?_)
  have ht : (Value.type "tuple" == Value.type "tuple") = true := by rfl
  rw [if_pos (by rw [ht]; simp)]
  refine wpAny_bind (listItems_at ho' hd ?_)
  refine wpAny_bind (listItems_at (xs := #[]) (n := 0) (Heap.get?_push_size _ rfl) rfl ?_)
  rw [if_neg (by simp)]
  refine wpAny_bind (listUpdate_at (xs := #[]) (n := 0) (Heap.get?_push_size _ rfl) rfl ?_ (Nat.zero_le _) (by show (#[] ++ vs.toArray).size ≤ sizeLine + 1; simp only [Array.size_append, List.size_toArray, List.length_nil]; omega))
  refine wpAny_pure ?_
  show wpAny (model prog w) A (do
      let o ← load s.heap.objs.size
      match o.data with
      | .seq xs _ => pure xs.toList
      | _ => unsupported "internal:collect") Q E { s with heap := (s.heap.push (seqObj "list" #[] 0)).update s.heap.objs.size (Obj.mapSeq (· ++ vs.toArray)) }
  refine wpAny_bind (wpAny_load (get?_update_seq (Heap.get?_push_size _ rfl) _) ?_)
  show wpAny _ _ (pure ((#[] : Array Value) ++ vs.toArray).toList) Q E _
  rw [show ((#[] : Array Value) ++ vs.toArray).toList = vs by simp]
  exact wpAny_pure h
theorem sorted_of_sortT {l : Addr} {vs : List Value} {kw : List (Str × Value)} {Q : Value → Shared → Prop} (hl : s.heap.IsTuple l vs.toArray) (hL : vs.length ≤ sizeLine) (ha1 : argsOk "sorted" ⟨[.ref l], kw⟩) (ha2 : ∀ x, argsOk "list.sort" ⟨[.ref x], kw⟩)
    (body : ∀ E' : Value → Shared → Prop, wpAny (model prog w) A.in1.in1 (Builtin.«list.sort» ⟨[.ref (s.heap.objs.size + 1)], kw⟩) (fun f s' => f = .done (.ret .none) ∧ Q (.ref (s.heap.objs.size + 1)) s') E' { s with heap := copyHeap s.heap vs }) :
    wpAny (model prog w) A (call (.builtin "sorted") [.ref l] kw) Q E s := by
  refine call_function_entry_kw kind_sorted plain_sorted entry_sorted ha1 ?_
  unfold Builtin.«sorted»
  refine wpAny_bind (m := checkCount "sorted" 1 1 _) (wpAny_pure ?_)
  refine wpAny_bind (collect_tupleG hl ?_ hL)
  refine wpAny_bind (wpAny_newList ?_ hL)
  have hsz : ((s.heap.push (seqObj "list" #[] 0)).update s.heap.objs.size (Obj.mapSeq (· ++ vs.toArray))).objs.size = s.heap.objs.size + 1 := by
    rw [Heap.size_update, size_push']
  show wpAny _ _ _ _ _ { s with heap := copyHeap s.heap vs }
  rw [hsz]
  refine wpAny_bind (wpAny_holding (wpAny_call_entry_kw slot_list_sort ⟨_, copyHeap_at s.heap vs, rfl⟩ entry_list_sort ?body (ha2 _)))
  case body =>
    show wpAny (model prog w) A.in1.in1 (Builtin.«list.sort» ⟨[.ref (s.heap.objs.size + 1)], kw⟩) _ _ _
    refine wpAny_mono (body _) (fun f s' hf => ?_) fun _ _ e => e
    obtain ⟨rfl, hq⟩ := hf
    exact ⟨_, rfl, wpAny_pure ⟨_, rfl, hq⟩⟩
theorem sorted_dataT {β : Type} {vs : List Value} {bs : List β} {enc : β → PyData} {R : Value → β → Prop} {l : Addr} {Q : Value → Shared → Prop} (hl : s.heap.IsTuple l vs.toArray) (e : EachIs R vs bs) (er : EachIs (fun v b => ∃ as, Reads s.heap v (enc b) as) vs bs) (hal : AllAlike (bs.map enc)) (hk : Sortable (bs.map enc)) (hL : bs.length ≤ sizeLine)
    (hu : ∀ b, b ∈ bs → A.units + 2 + (enc b).depth < cLine) (h : ∀ out, out.length = bs.length → EachIs R out (bs.mergeSort (dataLe false enc)) → Q (.ref (s.heap.objs.size + 1)) { s with heap := sortedAll s.heap vs (List.toArray out) }) :
    wpAny (model prog w) A (call (.builtin "sorted") [.ref l]) Q E s := by
  have er' : EachIs (fun v b => ∃ as, Reads (sortingHeap (copyHeap s.heap vs) (s.heap.objs.size + 1) vs) v (enc b) as) vs bs := er.mono fun _ _ ⟨as, r⟩ => ⟨as, PyProof.Rows.Reads.keeps (fun _ _ => sorting_copy_old) r⟩
  have hL' : vs.length ≤ sizeLine := by rw [e.length]; exact hL
  have S := SortsAt.data (prog := prog) (w := w) (A := A.in1.in1) (s := { s with heap := sortingHeap (copyHeap s.heap vs) (s.heap.objs.size + 1) vs }) (each_map (R := fun v d => ∃ as, Reads (sortingHeap (copyHeap s.heap vs) (s.heap.objs.size + 1) vs) v d as) enc er') hal hk (bound_map hu)
  exact sorted_of_sortT hl hL' (args_sorted1 _) (fun _ => args_list_sort _) fun _ => list_sort_vals (s := { s with heap := copyHeap s.heap vs }) (copyHeap_at s.heap vs) S hL' ⟨rfl, h _ (by rw [sortVals_length false rfl]; exact e.length) (sortVals_data false e er' hal)⟩
end
end G.Raw
namespace G
open PySem PySem.Spec PyProof.Rows L2
open PySem.W (alike alikeAll dataLt dataLe keyToks AllAlike AlikeAll EachIs)

def vltD (x y : Val) : Bool := dataLt (toD x) (toD y)
def alikeVs (xs : List Val) : Bool := xs.all fun x => xs.all fun y => alike (toD x) (toD y)
def isTupC : Val → Bool
  | .tup (_ :: _) => true
  | _ => false
def notTup : Val → Bool
  | .tup _ => false
  | .non => false
  | _ => true
def notNon : Val → Bool
  | .non => false
  | _ => true
def sortOk (xs : List Val) : Bool := shps xs && decide (xs.length ≤ LIM) && alikeVs xs && (xs.all isTupC || xs.all notTup)
def cmpOk (xs : List Val) : Bool := shps xs && alikeVs xs && xs.all notNon
def insV (x : Val) : List Val → List Val
  | [] => [x]
  | y :: ys => if vltD y x then y :: insV x ys else x :: y :: ys
/-- sorted -/
def srt : List Val → List Val
  | [] => []
  | x :: xs => insV x (srt xs)
def minV (x : Val) (xs : List Val) : Val := xs.foldl (fun a y => if vltD y a then y else a) x
def maxV (x : Val) (xs : List Val) : Val := xs.foldl (fun a y => if vltD a y then y else a) x

/-! ### the insertion sort is the stable sort -/
abbrev leD : Val → Val → Bool := dataLe false toD
theorem leD_eq (a b : Val) : leD a b = !vltD b a := rfl
theorem leD_tot : PySem.W.TotalLe leD := PySem.W.sortLe_total _ _ _
theorem insV_perm (x : Val) : ∀ l : List Val, (insV x l).Perm (x :: l)
  | [] => List.Perm.refl _
  | y :: ys => by
    unfold insV
    split
    · exact ((insV_perm x ys).cons y).trans (List.Perm.swap x y ys)
    · exact List.Perm.refl _
theorem insV_sorted (x : Val) : ∀ l : List Val, l.Pairwise (fun a b => leD a b = true) → (insV x l).Pairwise (fun a b => leD a b = true)
  | [], _ => List.pairwise_singleton _ _
  | y :: ys, h => by
    obtain ⟨h1, h2⟩ := List.pairwise_cons.mp h
    unfold insV
    split
    · rename_i hl
      refine List.pairwise_cons.mpr ⟨fun z hz => ?_, insV_sorted x ys h2⟩
      rcases List.mem_cons.mp ((insV_perm x ys).mem_iff.mp hz) with e | e
      · rw [e]
        rcases leD_tot.total y x with q | q
        · exact q
        · rw [leD_eq, hl] at q; cases q
      · exact h1 z e
    · rename_i hl
      have hl : vltD y x = false := by simpa using hl
      have hxy : leD x y = true := by rw [leD_eq, hl]; rfl
      exact List.pairwise_cons.mpr ⟨fun z hz => (List.mem_cons.mp hz).elim (fun e => by rw [e]; exact hxy) fun e => leD_tot.trans _ _ _ hxy (h1 z e), h⟩
theorem insV_stable (c x : Val) : ∀ l : List Val, (insV x l).filter (PySem.W.sameRank leD c) = (x :: l).filter (PySem.W.sameRank leD c)
  | [] => rfl
  | y :: ys => by
    unfold insV
    split
    · rename_i hl
      rw [List.filter_cons, insV_stable c x ys]
      by_cases hy : PySem.W.sameRank leD c y = true
      · rw [if_pos hy]
        have hx : ¬ PySem.W.sameRank leD c x = true := fun hx => by
          unfold PySem.W.sameRank at hx hy
          rw [Bool.and_eq_true] at hx hy
          have := leD_tot.trans _ _ _ hx.2 hy.1
          rw [leD_eq, hl] at this
          cases this
        rw [List.filter_cons_of_neg hx, List.filter_cons_of_neg hx, List.filter_cons_of_pos hy]
      · rw [if_neg hy, List.filter_cons, List.filter_cons, List.filter_cons_of_neg hy]
    · rfl
theorem srt_sorted : ∀ l : List Val, (srt l).Pairwise (fun a b => leD a b = true)
  | [] => List.Pairwise.nil
  | x :: xs => insV_sorted x _ (srt_sorted xs)
theorem srt_perm : ∀ l : List Val, (srt l).Perm l
  | [] => List.Perm.refl _
  | x :: xs => (insV_perm x _).trans ((srt_perm xs).cons x)
theorem srt_stable (c : Val) : ∀ l : List Val, (srt l).filter (PySem.W.sameRank leD c) = l.filter (PySem.W.sameRank leD c)
  | [] => rfl
  | x :: xs => by
    show (insV x (srt xs)).filter _ = _
    rw [insV_stable, List.filter_cons, List.filter_cons, srt_stable c xs]
theorem srt_eq (l : List Val) : srt l = l.mergeSort leD := PySem.W.sort_unique leD_tot (srt_sorted l) (fun c => srt_stable c l)

/-! ### values with what they stand for -/
theorem toDs_map : ∀ xs : List Val, toDs xs = xs.map toD
  | [] => rfl
  | x :: xs => by simp only [toDs, List.map_cons, toDs_map xs]
section
variable {c : Ct} {w : Wd}
/-- an item: as a value here, as HandS has it -/
def Item (c : Ct) (w : Wd) (u : Value) (p : Val × V) : Prop := RelV p.2 u ∧ RV c w p.1 p.2
theorem each_items : ∀ {xs : List Val} {ys : List V} {us : List Value}, RVs c w xs ys → Vals ys us → EachIs (Item c w) us (xs.zip ys)
  | [], _, _, h, r => by
    have h : _ = [] := h
    subst h
    cases r
    exact .nil
  | x :: xs, _, _, ⟨y, ys, e, h1, h2⟩, r => by
    subst e
    cases r with
    | cons r1 r2 => exact .cons ⟨r1, h1⟩ (each_items h2 r2)
theorem items_out : ∀ {us : List Value} {ps : List (Val × V)}, EachIs (Item c w) us ps → Vals (ps.map (·.2)) us ∧ RVs c w (ps.map (·.1)) (ps.map (·.2))
  | _, _, .nil => ⟨.nil, rfl⟩
  | _, _, .cons (a := u) (b := p) h t => by
    obtain ⟨h1, h2⟩ := items_out t
    exact ⟨.cons h.1 h1, ⟨_, _, rfl, h.2, h2⟩⟩
theorem zip_one {xs : List Val} {ys : List V} (h : RVs c w xs ys) : (xs.zip ys).map (·.1) = xs := zip_fst h.length
theorem deps_mem : ∀ {xs : List Val} {n : Nat}, deps xs = some n → ∀ x ∈ xs, ∃ m, dep x = some m ∧ m ≤ n
  | [], _, _, x, hx => absurd hx (by simp)
  | y :: xs, n, h, x, hx => by
    simp only [deps] at h
    cases e1 : dep y with
    | none => rw [e1] at h; cases h
    | some a =>
      cases e2 : deps xs with
      | none => rw [e1, e2] at h; cases h
      | some b =>
        rw [e1, e2] at h
        cases h
        rcases List.mem_cons.mp hx with e | e
        · rw [e]; exact ⟨a, e1, Nat.le_max_left _ _⟩
        · obtain ⟨m, h1, h2⟩ := deps_mem e2 x e
          exact ⟨m, h1, Nat.le_trans h2 (Nat.le_max_right _ _)⟩
theorem shps_deps {xs : List Val} (h : shps xs = true) : ∃ n, deps xs = some n ∧ n ≤ 59 := by
  unfold shps at h
  cases e : deps xs with
  | none => rw [e] at h; cases h
  | some n => rw [e] at h; exact ⟨n, rfl, of_decide_eq_true h⟩
theorem alikeVs_mem {xs : List Val} (h : alikeVs xs = true) : AllAlike (xs.map toD) := by
  intro d hd d' hd'
  obtain ⟨x, hx, rfl⟩ := List.mem_map.mp hd
  obtain ⟨y, hy, rfl⟩ := List.mem_map.mp hd'
  exact List.all_eq_true.mp (List.all_eq_true.mp h x hx) y hy
end

def vSorted (vs : List Val) (μ : Mu) : Res (List Val) := match vs with
  | [v] => (match seqOf μ v with
    | some xs => if sortOk xs then .ok (srt xs) μ else .stuck
    | none => .stuck)
  | _ => .stuck
theorem nx_Sorted : NoExc vSorted := fun a μ e μ' h => by
  unfold vSorted at h
  split at h
  · split at h
    · split at h <;> cases h
    · cases h
  · cases h
def vMin (vs : List Val) (μ : Mu) : Res Val := match vs with
  | [v] => (match seqOf μ v with
    | some (x :: xs) => if cmpOk (x :: xs) then .ok (minV x xs) μ else .stuck
    | _ => .stuck)
  | _ => .stuck
def vMax (vs : List Val) (μ : Mu) : Res Val := match vs with
  | [v] => (match seqOf μ v with
    | some (x :: xs) => if cmpOk (x :: xs) then .ok (maxV x xs) μ else .stuck
    | _ => .stuck)
  | _ => .stuck
theorem nx_Min : NoExc vMin := fun a μ e μ' h => by
  unfold vMin at h
  split at h
  · split at h
    · split at h <;> cases h
    · cases h
  · cases h
theorem nx_Max : NoExc vMax := fun a μ e μ' h => by
  unfold vMax at h
  split at h
  · split at h
    · split at h <;> cases h
    · cases h
  · cases h
section
variable {c : Ct} {X : Cx}
theorem cf_Sorted (hK : X.K = c.K) (hu : X.A.units + 64 < cLine) : CaF c X (.builtin "sorted") vSorted := by
  intro pins s σ H xs us Q I r ⟨w, vs, e, sm, rv, h⟩
  subst e
  unfold vSorted at h
  split at h
  · rename_i v
    obtain ⟨x, ex, rx⟩ := rv.one
    subst ex
    split at h
    · rename_i zs e1
      split at h
      · rename_i hs
        unfold sortOk at hs
        simp only [Bool.and_eq_true, decide_eq_true_eq] at hs
        obtain ⟨⟨⟨hs, hl⟩, ha⟩, hk⟩ := hs
        obtain ⟨n, hd, hn⟩ := shps_deps hs
        obtain ⟨a, ys, f1, f2, f3⟩ := seqOf_sq sm rx e1
        subst f1
        rw [← hK] at f2
        have hIT : ∃ its : List Value, Vals ys its ∧ (s.heap.IsList a its.toArray ∨ s.heap.IsTuple a its.toArray) := by
          rcases f2 with f2 | f2
          · obtain ⟨its, rvs, pl, hz⟩ := I.list f2
            exact ⟨its, rvs, .inl pl.isList⟩
          · obtain ⟨its, rvs, pl, hz⟩ := I.tuple f2
            exact ⟨its, rvs, .inr pl⟩
        obtain ⟨its, rvs, pl⟩ := hIT
        rw [Vals.ref1 r]
        have e := each_items f3 rvs
        have hD : DpAll X.K w.H ys (toDs zs) := by rw [hK]; exact RVs.dp zs ys n f3 hd
        obtain ⟨as, R⟩ := Dp.readsAll I (toDs zs) ys its hD rvs
        have ez : (zs.zip ys).map (fun p : Val × V => toD p.1) = zs.map toD := by
          have q : (zs.zip ys).map (fun p : Val × V => toD p.1) = ((zs.zip ys).map (fun p : Val × V => p.1)).map toD := by rw [List.map_map]; rfl
          rw [q, zip_one f3]
        have er : EachIs (fun u (p : Val × V) => ∃ as, Reads s.heap u (toD p.1) as) its (zs.zip ys) := by
          refine PySem.W.readsAll_each (fun p : Val × V => toD p.1) (as := as) ?_
          rw [ez, ← toDs_map]; exact R
        have k1 : AllAlike ((zs.zip ys).map fun p : Val × V => toD p.1) := by
          rw [ez]; exact alikeVs_mem ha
        have k2 : PySem.W.Sortable ((zs.zip ys).map fun p : Val × V => toD p.1) := by
          rw [ez]
          rcases Bool.or_eq_true_iff.mp hk with hk | hk
          · refine .inl fun d hd => ?_
            obtain ⟨z, hz, rfl⟩ := List.mem_map.mp hd
            have := List.all_eq_true.mp hk z hz
            cases z with
            | tup l => cases l with
              | nil => cases this
              | cons p q => exact ⟨toD p, toDs q, rfl⟩
            | _ => cases this
          · refine .inr fun d hd => ?_
            obtain ⟨z, hz, rfl⟩ := List.mem_map.mp hd
            have := List.all_eq_true.mp hk z hz
            obtain ⟨m, hm, _⟩ := deps_mem ‹deps zs = some n› z hz
            cases z with
            | tup l => cases this
            | non => cases this
            | bl _ => exact ⟨(fun z => nomatch z), (fun _ z => nomatch z)⟩
            | int _ => exact ⟨(fun z => nomatch z), (fun _ z => nomatch z)⟩
            | str _ => exact ⟨(fun z => nomatch z), (fun _ z => nomatch z)⟩
            | lst _ => exact ⟨(fun z => nomatch z), (fun _ z => nomatch z)⟩
            | rol _ => cases hm
            | ref _ => cases hm
            | fn _ => cases hm
            | ty _ => cases hm
            | dct _ _ => cases hm
        have k3 : (zs.zip ys).length ≤ sizeLine := by
          rw [List.length_zip, ← f3.length, Nat.min_self, ← LIM_eq]; exact hl
        have k4 : ∀ p, p ∈ zs.zip ys → X.A.units + 2 + (toD p.1).depth < cLine := by
          intro p hp
          have hz : p.1 ∈ zs := by
            have := List.mem_map_of_mem (f := fun p : Val × V => p.1) hp
            rwa [zip_one f3] at this
          obtain ⟨m, hm, hmn⟩ := deps_mem hd p.1 hz
          have := (dep_lay p.1 m hm).2
          omega
        have k5 : ∀ out, out.length = (zs.zip ys).length → EachIs (Item c w) out ((zs.zip ys).mergeSort (dataLe false fun p : Val × V => toD p.1)) → EP X pins σ Q (.ref (s.heap.objs.size + 1)) { s with heap := PyProof.Rows.sortedAll s.heap its (List.toArray out) } := by
          intro out ho eo
          obtain ⟨k1, k2⟩ := items_out eo
          have em : ((zs.zip ys).mergeSort (dataLe false fun p : Val × V => toD p.1)).map (·.1) = srt zs := by
            have q := PySem.W.sort_maps (r := dataLe false fun p : Val × V => toD p.1) (s := leD) (fun p : Val × V => p.1) (l := zs.zip ys) (fun _ _ _ _ => rfl)
            rw [zip_one f3] at q
            rw [srt_eq]
            exact q
          rw [em] at k2
          obtain ⟨ep, he'⟩ := PyProof.Rows.sortedAll_at s.heap its out.toArray
          refine ⟨.ref _, upd w.H (s.heap.objs.size + 1) (.lst (((zs.zip ys).mergeSort (dataLe false fun p : Val × V => toD p.1)).map (·.2))), I.laid (t' := s.toks) (fun _ _ => PyProof.Rows.sortedAll_old) (Nat.le_succ _) ⟨?_, out, ep, k1, he'⟩, rfl, h.new sm k2 (I.hok.fresh (Nat.le_succ _))⟩
          rw [← k2.length, (srt_perm zs).length_eq, ← LIM_eq]; exact hl
        rcases pl with pl | pl
        · exact PySem.W.sorted_data (enc := fun p : Val × V => toD p.1) (R := Item c w) pl e er k1 k2 k3 k4 k5
        · exact Raw.sorted_dataT (enc := fun p : Val × V => toD p.1) (R := Item c w) pl e er k1 k2 k3 k4 k5
      · exact h.elim
    · exact h.elim
  · exact h.elim
theorem argBest_getD {f : Val → Val → Bool} (x : Val) (xs : List Val) : argBest (fun i j => f ((x :: xs).getD i .non) ((x :: xs).getD j .non)) xs.length ≤ xs.length ∧ (x :: xs).getD (argBest (fun i j => f ((x :: xs).getD i .non) ((x :: xs).getD j .non)) xs.length) .non = xs.foldl (fun a y => if f y a then y else a) x := by
  have := PySem.W.argBest_fold f Val.non x xs xs.length (Nat.le_refl _)
  rw [List.take_length] at this
  exact this
theorem getD_toDs : ∀ (xs : List Val) (i : Nat), (toDs xs).getD i PyData.none = toD (xs.getD i .non)
  | [], _ => rfl
  | x :: xs, 0 => rfl
  | x :: xs, i + 1 => by
    have := getD_toDs xs i
    simpa [toDs] using this
theorem getD_of {xs : List Val} {i : Nat} (h : i < xs.length) : xs[i]? = some (xs.getD i .non) := by
  rw [List.getElem?_eq_getElem h, List.getD_eq_getElem?_getD, List.getElem?_eq_getElem h]
  rfl
theorem cmpOk_alike {xs : List Val} (h : alikeVs xs = true) (hn : xs.all notNon = true) {n : Nat} (hd : deps xs = some n) : AlikeAll (toDs xs) := by
  rw [toDs_map]
  refine ⟨fun x hx y hy => alikeVs_mem h x hx y hy, fun d hd' => ?_⟩
  obtain ⟨x, hx, rfl⟩ := List.mem_map.mp hd'
  have q := List.all_eq_true.mp hn x hx
  obtain ⟨m, hm, _⟩ := deps_mem hd x hx
  cases x with
  | non => cases q
  | rol _ => cases hm
  | ref _ => cases hm
  | fn _ => cases hm
  | ty _ => cases hm
  | dct _ _ => cases hm
  | _ => exact fun z => nomatch z
theorem mm_run (hK : X.K = c.K) (hc : X.calm = true) (hu : X.A.units + 64 < cLine) {mx : Bool} {pins : List (Addr × Obj)} {s : Shared} {σ : St} {w : Wd} {Q : VK} {v : Val} {x : V} {u : Value} {z : Val} {zs : List Val} (I : Inv X pins σ w.H s) (sm : Sim c w) (rx : RV c w v x) (r : RelV x u) (e : seqOf w.μ v = some (z :: zs)) (hs : cmpOk (z :: zs) = true)
    (q : ∀ y, RV c w (if mx then maxV z zs else minV z zs) y → Q y w.H) : wpAny (model X.prog X.w) X.A (call (.builtin (if mx then "max" else "min")) [u]) (EP X pins σ Q) X.xe s := by
  unfold cmpOk at hs
  simp only [Bool.and_eq_true] at hs
  obtain ⟨⟨hs, ha⟩, hnn⟩ := hs
  obtain ⟨n, hd, hn⟩ := shps_deps hs
  obtain ⟨a, ys, rfl, f2, f3⟩ := seqOf_sq sm rx e
  cases r
  rw [← hK] at f2
  have hh := I.ok.hd hc
  have AA := cmpOk_alike ha hnn hd
  have dA : X.A.units + 1 + PyData.depthAll (toDs (z :: zs)) < cLine := by
    have := (deps_lay (z :: zs) n hd).2
    omega
  have hD : DpAll X.K w.H ys (toDs (z :: zs)) := by rw [hK]; exact RVs.dp _ ys n f3 hd
  have fin : ∀ (its : List Value), Vals ys its → ∀ (i : Nat) (s' : Shared) (k : (∃ h' tk, s' = { s with heap := h', toks := tk } ∧ ∀ b o, s.heap.get? b = some o → h'.get? b = some o)) (u' : Value), its.toArray[i]? = some u' → i < (z :: zs).length → (z :: zs).getD i .non = (if mx then maxV z zs else minV z zs) → EP X pins σ Q u' s' := by
    rintro its rvs i s' ⟨h', tk, rfl, hk⟩ u' hi hlt hv
    obtain ⟨y, hy, ry⟩ := f3.get (getD_of hlt)
    rw [hv] at ry
    rw [List.getElem?_toArray] at hi
    obtain ⟨u2, hu2, r2⟩ := rvs.get hy
    rw [hi] at hu2
    cases hu2
    exact ⟨y, w.H, I.kept hk, r2, q y ry⟩
  have bt1 : (fun i j => dataLt ((toDs (z :: zs)).getD i .none) ((toDs (z :: zs)).getD j .none)) = fun i j => vltD ((z :: zs).getD i .non) ((z :: zs).getD j .non) := by
    funext i j; rw [getD_toDs, getD_toDs]; rfl
  have bt2 : (fun i j => dataLt ((toDs (z :: zs)).getD j .none) ((toDs (z :: zs)).getD i .none)) = fun i j => (fun a b => vltD b a) ((z :: zs).getD i .non) ((z :: zs).getD j .non) := by
    funext i j; rw [getD_toDs, getD_toDs]; rfl
  have len : ∀ its : List Value, Vals ys its → its.toArray.size = zs.length + 1 := fun its rvs => by
    rw [List.size_toArray, ← rvs.length, ← f3.length]; rfl
  rcases f2 with f2 | f2
  · obtain ⟨its, rvs, pl, _⟩ := I.list f2
    obtain ⟨as, R⟩ := Dp.readsAll I _ ys its hD rvs
    have hsz := len its rvs
    have e1 : its.toArray.size - 1 = zs.length := by omega
    cases mx with
    | false =>
      refine PySem.call_min_walkH (PySem.W.iter_listW (A := X.A.in1) hh pl.isList fun s₂ e W st hfp hw hk => ?_)
      refine ⟨_, _, _, _, _, _, _, s.heap, _, rfl, W, st, hfp, by omega, hw, hk, PySem.W.cmpIn_lt (A := X.A.in1) (by simpa using R) AA dA, fun v s' hP m => ?_⟩
      rw [e1, bt1] at hP
      obtain ⟨b1, b2⟩ := argBest_getD (f := vltD) z zs
      exact fin its rvs _ s' (PySem.W.moved_old e rfl m) v hP (Nat.lt_succ_of_le b1) b2
    | true =>
      refine PySem.call_max_walkH (PySem.W.iter_listW (A := X.A.in1) hh pl.isList fun s₂ e W st hfp hw hk => ?_)
      refine ⟨_, _, _, _, _, _, _, s.heap, _, rfl, W, st, hfp, by omega, hw, hk, PySem.W.cmpIn_gt (A := X.A.in1) (by simpa using R) AA dA, fun v s' hP m => ?_⟩
      rw [e1, bt2] at hP
      obtain ⟨b1, b2⟩ := argBest_getD (f := fun a b => vltD b a) z zs
      exact fin its rvs _ s' (PySem.W.moved_old e rfl m) v hP (Nat.lt_succ_of_le b1) b2
  · obtain ⟨its, rvs, pl, _⟩ := I.tuple f2
    obtain ⟨as, R⟩ := Dp.readsAll I _ ys its hD rvs
    have hsz := len its rvs
    have e1 : its.toArray.size - 1 = zs.length := by omega
    cases mx with
    | false =>
      refine PySem.call_min_walkH (PySem.W.iter_tupleW (A := X.A.in1) hh pl fun s₂ e W st hfp hw hk => ?_)
      refine ⟨_, _, _, _, _, _, _, s.heap, _, rfl, W, st, hfp, by omega, hw, hk, PySem.W.cmpIn_lt (A := X.A.in1) (by simpa using R) AA dA, fun v s' hP m => ?_⟩
      rw [e1, bt1] at hP
      obtain ⟨b1, b2⟩ := argBest_getD (f := vltD) z zs
      exact fin its rvs _ s' (PySem.W.moved_old e rfl m) v hP (Nat.lt_succ_of_le b1) b2
    | true =>
      refine PySem.call_max_walkH (PySem.W.iter_tupleW (A := X.A.in1) hh pl fun s₂ e W st hfp hw hk => ?_)
      refine ⟨_, _, _, _, _, _, _, s.heap, _, rfl, W, st, hfp, by omega, hw, hk, PySem.W.cmpIn_gt (A := X.A.in1) (by simpa using R) AA dA, fun v s' hP m => ?_⟩
      rw [e1, bt2] at hP
      obtain ⟨b1, b2⟩ := argBest_getD (f := fun a b => vltD b a) z zs
      exact fin its rvs _ s' (PySem.W.moved_old e rfl m) v hP (Nat.lt_succ_of_le b1) b2
theorem Vals.inv1 {x : V} {us : List Value} (r : Vals [x] us) : ∃ u, us = [u] ∧ RelV x u := by
  cases r with
  | cons r t => cases t; exact ⟨_, rfl, r⟩
theorem cg_Min (hK : X.K = c.K) (hc : X.calm = true) (hu : X.A.units + 64 < cLine) : CaG c X (.builtin "min") vMin := by
  intro pins s σ H xs us Q I r ⟨w, vs, e, sm, rv, h⟩
  subst e
  unfold vMin at h
  split at h
  · rename_i v
    obtain ⟨x, ex, rx⟩ := rv.one
    subst ex
    obtain ⟨u, rfl, r1⟩ := Vals.inv1 r
    split at h
    · rename_i z zs e1
      split at h
      · rename_i hs
        exact mm_run (mx := false) hK hc hu I sm rx r1 e1 hs fun y ry => h.here sm ry
      · exact h.elim
    · exact h.elim
  · exact h.elim
theorem cg_Max (hK : X.K = c.K) (hc : X.calm = true) (hu : X.A.units + 64 < cLine) : CaG c X (.builtin "max") vMax := by
  intro pins s σ H xs us Q I r ⟨w, vs, e, sm, rv, h⟩
  subst e
  unfold vMax at h
  split at h
  · rename_i v
    obtain ⟨x, ex, rx⟩ := rv.one
    subst ex
    obtain ⟨u, rfl, r1⟩ := Vals.inv1 r
    split at h
    · rename_i z zs e1
      split at h
      · rename_i hs
        exact mm_run (mx := true) hK hc hu I sm rx r1 e1 hs fun y ry => h.here sm ry
      · exact h.elim
    · exact h.elim
  · exact h.elim
end
end G

/-! G12: y = [..], tests of a comprehension, -x, o[i] = e, dicts. -/
namespace G
open PySem PySem.Spec PyProof.Rows L2

section
variable {c : Ct} {W : WX} {X : Cx} {pos p p2 : Pos}
theorem imm_reads {m : M (List Val)} {σ : St} {H : Hp} {Q : VK} (h : TE' c W (mimm m) σ H Q) : TF' c W m σ H Q := by
  obtain ⟨w, sl, e, s, rs, h⟩ := h
  refine ⟨w, sl, e, s, rs, ?_⟩
  unfold mimm andThen at h
  cases q : m sl w.μ with
  | ok vs μ' =>
    rw [q] at h
    intro w' hμ ext sim D ys n r
    subst hμ
    exact Post.lst (h.ext ext) sim r n
  | exc x μ' => rw [q] at h; exact h
  | stuck => rw [q] at h; exact h
theorem mut_reads {m : M (List Val)} {σ : St} {H : Hp} {Q : VK} (h : TE' c W (mmut m) σ H Q) : TF' c W m σ H Q := by
  obtain ⟨w, sl, e, s, rs, h⟩ := h
  refine ⟨w, sl, e, s, rs, ?_⟩
  unfold mmut andThen at h
  cases q : m sl w.μ with
  | ok vs μ' =>
    rw [q] at h
    intro w' hμ ext sim D ys n r
    subst hμ
    have e1 : Ext w' { w' with ρ := w'.ρ ++ [D], μ := w'.μ ++ [.lst vs], H := upd w'.H D (.lst ys) } := alloc_ext n
    refine h _ rfl (ext.trans e1) (alloc_sim sim n ⟨ys, upd_same, RVs.ext sim e1 _ _ r⟩ (sim.rs_new n)) _ ⟨D, rfl, ?_⟩
    show (w'.ρ ++ [D])[w'.μ.length]? = some D
    rw [← sim.len]
    simp
  | exc x μ' => rw [q] at h; exact h
  | stuck => rw [q] at h; exact h
theorem set_reads {m : M Val} {i : Nat} {D : Ends} {σ : St} {H : Hp} (h : TS' c W (sasg m (.nm i)) D σ H) : TE' c W m σ H fun x H1 => gName i x σ H1 D.nx := by
  obtain ⟨w, sl, e, s, rs, h⟩ := h
  subst e
  exact ts_then s rs h fun v w1 e1 s1 rs1 h1 x rx => h1 w1 rfl e1 s1 _ (rs1.set rx i)
section
variable {elt tg iter : Expr} {ifs : List Expr} {scope : Scope} {own : List (Str × Nat)} {src : M Src} {t : Tgt} {mc : M Bool} {me : M Val} {i : Nat} {y : Str} {py spos : Pos}
theorem gs_setLc (mu : Bool) (hc : X.calm = true) (hN : X.N.Nodup) (hy : X.N[i]? = some y) (hyl : X.env.scope.names.lookup y = some .local)
    (hsw : swapsWith (.ListComp elt [⟨tg, iter, ifs, 0⟩] scope pos) (some (.Name y py)) spos.line X.env = pure true) (hi : PI X tg iter (TI' c W src)) (ok : BlkOk X.N X.env.scope scope own)
    (hg : ∀ (s : Shared) (H : Hp) (C : Addr) (cl : List (Str × Addr)) (fp : List Addr), PG (X.blk s H scope (compEnvC scope cl C X.env) fp) tg (TG' c t)) (ht : ∀ (s : Shared) (H : Hp) (C : Addr) (cl : List (Str × Addr)) (fp : List Addr), PTs (X.blk s H scope (compEnvC scope cl C X.env) fp) ifs (TT' c W0 mc))
    (he : ∀ (s : Shared) (H : Hp) (C : Addr) (cl : List (Str × Addr)) (fp : List Addr), PE (X.blk s H scope (compEnvC scope cl C X.env) fp) elt (TE' c W0 me)) (hsl : ∀ i ∈ t.slots, i ∈ own.map (·.2)) (hs : ∀ x, foldedSetIterable iter X.env x = pure x := by intro _; rfl) :
    PS X (.Assign [.Name y py] (.ListComp elt [⟨tg, iter, ifs, 0⟩] scope pos) spos) (TS' c W (sasg ((if mu then mmut else mimm) (mlc src (own.map (·.2)) t mc me)) (.nm i))) := by
  refine (ps_setLc hc hN hy hyl hsw hi ok hg ht he hs).imp fun D σ H h => ?_
  cases mu with
  | true => exact lc_reads (mut_reads (set_reads h)) hsl
  | false => exact lc_reads (imm_reads (set_reads h)) hsl
end
theorem gts_nil : PTs X [] (TT' c W tyes) := ⟨fun pins s σ H Q I ⟨w, sl, e, sm, rs, h⟩ => by
  subst e
  exact pts_nil.run pins s σ w.H Q I (h w rfl (Ext.refl w) sm)⟩
theorem gts_one {a : Expr} {m : M Bool} (h : PT X a (TT' c W m)) : PTs X [a] (TT' c W m) := pts_one h

/-! ### -x -/
def vNeg (x : Val) (μ : Mu) : Res Val := match x with
  | .int i => .ok (.int (-i)) μ
  | _ => .stuck
theorem ge_neg {a : Expr} {ma : M Val} (ha : PE X a (TE' c W ma)) : PE X (.UnaryOp .USub a pos) (TE' c W (mop1 vNeg ma)) := by
  refine (pe_un un_neg ha).imp fun σ H Q ⟨w, sl, e, s, rs, h⟩ => ?_
  subst e
  refine te_then (R := fun w r => Post c w r Q fun cls d H' => W cls d σ H') s rs exc_post (fun z => z) h fun v w1 e1 s1 rs1 h1 x rx => ?_
  cases v with
  | int i => exact ⟨i, rx, (h1.ext e1).here s1 rfl⟩
  | _ => exact h1.elim
end

/-! ### dicts with keys that are numbers and texts -/
def kOf : Val → Option Key
  | .int i => some (.inl i)
  | .str s => some (.inr s)
  | _ => none
def dFind (k : DKey) : List DKey → List Val → Option Val
  | j :: ks, v :: vs => if j = k then some v else dFind k ks vs
  | _, _ => none
def dRepl (k : DKey) (x : Val) : List DKey → List Val → List Val
  | j :: ks, v :: vs => (if j = k then x else v) :: dRepl k x ks vs
  | _, vs => vs
def dPut (k : DKey) (x : Val) (ks : List DKey) (vs : List Val) : List DKey × List Val := if ks.any (fun j => decide (j = k)) then (ks, dRepl k x ks vs) else (ks ++ [k], vs ++ [x])
section
variable {c : Ct} {w : Wd}
theorem kOf_rv {a : Val} {x : V} {k : Key} (h : kOf a = some k) (r : RV c w a x) : x = kV k := by
  cases a with
  | int i => cases h; exact r
  | str i => cases h; exact r
  | _ => cases h
theorem dFind_val {k : Key} : ∀ {kk : List Key} {vs : List Val} {ys : List V}, kk.length = ys.length → RVs c w vs ys →
    (∀ v, dFind (.k k) (kk.map .k) vs = some v → ∃ y, valV (kk.zip ys) k = some y ∧ RV c w v y) ∧ (dFind (.k k) (kk.map .k) vs = none → valV (kk.zip ys) k = none)
  | [], vs, ys, hl, r => ⟨fun v h => by simp [dFind] at h, fun _ => by simp [valV]⟩
  | j :: kk, [], ys, hl, r => by
    have r : ys = [] := r
    subst r
    simp at hl
  | j :: kk, v :: vs, ys, hl, ⟨y, yr, e, r1, r2⟩ => by
    subst e
    have ih := dFind_val (k := k) (kk := kk) (by simpa using hl) r2
    by_cases hj : j = k
    · subst hj
      refine ⟨fun z h => ?_, fun h => ?_⟩
      · simp only [List.map_cons, dFind, if_true] at h
        cases h
        exact ⟨y, valV_pos rfl, r1⟩
      · simp only [List.map_cons, dFind, if_true] at h
        cases h
    · have hj' : ¬ DKey.k j = DKey.k k := fun z => hj (by cases z; rfl)
      have e1 : dFind (.k k) ((j :: kk).map .k) (v :: vs) = dFind (.k k) (kk.map .k) vs := by simp only [List.map_cons, dFind, if_neg hj']
      have e2 : valV ((j :: kk).zip (y :: yr)) k = valV (kk.zip yr) k := valV_neg (p := (j, y)) hj
      rw [e1, e2]
      exact ih
theorem any_key {k : Key} : ∀ {kk : List Key} {ys : List V}, kk.length = ys.length → ((kk.zip ys).any fun kv => decide (kv.1 = k)) = (kk.map DKey.k).any (fun j => decide (j = .k k))
  | [], _, _ => rfl
  | j :: kk, [], h => by simp at h
  | j :: kk, y :: ys, h => by
    have ih := any_key (k := k) (kk := kk) (ys := ys) (by simpa using h)
    simp only [List.zip_cons_cons, List.any_cons, List.map_cons, ih]
    congr 1
    by_cases hj : j = k
    · subst hj; simp
    · have hj' : ¬ DKey.k j = DKey.k k := fun z => hj (by cases z; rfl)
      simp [hj, hj']
theorem dRepl_zip {k : Key} {x : Val} {z : V} (rx : RV c w x z) : ∀ {kk : List Key} {vs : List Val} {ys : List V}, kk.length = ys.length → RVs c w vs ys →
    ∃ ys', kk.length = ys'.length ∧ (kk.zip ys).map (fun kv => if kv.1 = k then (kv.1, z) else kv) = kk.zip ys' ∧ RVs c w (dRepl (.k k) x (kk.map .k) vs) ys'
  | [], vs, ys, hl, r => ⟨[], rfl, rfl, by
    have : ys = [] := List.eq_nil_of_length_eq_zero hl.symm
    subst this
    exact r⟩
  | j :: kk, [], ys, hl, r => by
    have r : ys = [] := r
    subst r
    simp at hl
  | j :: kk, v :: vs, ys, hl, ⟨y, yr, e, r1, r2⟩ => by
    subst e
    obtain ⟨ys', h1, h2, h3⟩ := dRepl_zip rx (k := k) (kk := kk) (by simpa using hl) r2
    by_cases hj : j = k
    · subst hj
      refine ⟨z :: ys', by simp [h1], by simp [h2], z, ys', rfl, ?_, h3⟩
      simp only [if_true]
      exact rx
    · have hj' : ¬ DKey.k j = DKey.k k := fun z => hj (by cases z; rfl)
      refine ⟨y :: ys', by simp [h1], by simp [h2, hj], y, ys', rfl, ?_, h3⟩
      simp only [if_neg hj']
      exact r1
theorem dPut_zip {k : Key} {x : Val} {z : V} (rx : RV c w x z) {kk : List Key} {vs : List Val} {ys : List V} (hl : kk.length = ys.length) (r : RVs c w vs ys) :
    ∃ (kk' : List Key) (ys' : List V), (dPut (.k k) x (kk.map .k) vs).1 = kk'.map .k ∧ kk'.length = ys'.length ∧ putK (kk.zip ys) k z = kk'.zip ys' ∧ RVs c w (dPut (.k k) x (kk.map .k) vs).2 ys' := by
  unfold dPut putK
  rw [any_key hl]
  split
  · obtain ⟨ys', h1, h2, h3⟩ := dRepl_zip rx (k := k) hl r
    exact ⟨kk, ys', rfl, h1, h2, h3⟩
  · refine ⟨kk ++ [k], ys ++ [z], by simp, by simp [hl], ?_, r.append ⟨z, [], rfl, rx, rfl⟩⟩
    rw [List.zip_append hl]
    rfl
end
def isKs : List DKey → Bool
  | [] => true
  | .k _ :: ks => isKs ks
  | .t _ :: _ => false
theorem isKs_map : ∀ {ks : List DKey}, isKs ks = true → ∃ kk : List Key, ks = kk.map .k
  | [], _ => ⟨[], rfl⟩
  | .k a :: ks, h => by
    obtain ⟨kk, e⟩ := isKs_map (ks := ks) h
    exact ⟨a :: kk, by rw [e]; rfl⟩
theorem ks_inj : ∀ {a b : List Key}, a.map DKey.k = b.map DKey.k → a = b
  | [], [], _ => rfl
  | [], _ :: _, h => by simp at h
  | _ :: _, [], h => by simp at h
  | x :: a, y :: b, h => by
    simp only [List.map_cons, List.cons.injEq, DKey.k.injEq] at h
    rw [h.1, ks_inj h.2]
theorem kt_ne {a : List Key} {b : List (List Key)} (h : a.map DKey.k = b.map DKey.t) (n : a ≠ []) : False := by
  cases a with
  | nil => exact n rfl
  | cons x a => cases b with
    | nil => simp at h
    | cons y b => simp at h
/-- subscripts of dicts, lists, tuples, texts -/
def vSub2 (x y : Val) (μ : Mu) : Res Val := match look μ x with
  | .dct ks vs => (match kOf y with
    | some k => if isKs ks then (match dFind (.k k) ks vs with
      | some v => .ok v μ
      | none => .stuck) else .stuck
    | none => .stuck)
  | _ => vIdx x y μ
theorem nx_Sub2 : NoExc2 vSub2 := fun a b μ e μ' h => by
  unfold vSub2 at h
  split at h
  · split at h
    · split at h
      · split at h <;> cases h
      · cases h
    · cases h
  · exact nx_Idx _ _ _ _ _ h
section
variable {c : Ct} {X : Cx}
theorem dk_at {w : Wd} {v : Val} {x : V} {ks : List DKey} {vs : List Val} (s : Sim c w) (r : RV c w v x) (h : look w.μ v = .dct ks vs) (hk : isKs ks = true) : ∃ (a : Addr) (kk : List Key) (ys : List V), x = .ref a ∧ ks = kk.map .k ∧ kk.length = ys.length ∧ w.H a = some (.dK (kk.zip ys)) ∧ RVs c w vs ys := by
  obtain ⟨a, ys, e, h1, h2⟩ := look_dct s r h
  rcases h1 with ⟨kk, e1, e2, e3⟩ | ⟨kt, e1, e2, e3⟩
  · exact ⟨a, kk, ys, e, e1, e2, e3, h2⟩
  · obtain ⟨kk, q⟩ := isKs_map hk
    rw [q] at e1
    refine (kt_ne e1 fun z => ?_).elim
    subst z
    cases kt with
    | nil => exact e2.2 rfl
    | cons _ _ => simp at e1
theorem ig_Sub2 (hK : X.K = c.K) (hu : X.A.units + 64 < cLine) : IxG c X vSub2 := by
  intro ev es pins s σ H x y v u Q I rx ry ⟨w, a, b, e, sm, r1, r2, h⟩ hs
  subst e
  unfold vSub2 at h
  split at h
  · rename_i ks vs e1
    split at h
    · rename_i k hk
      split at h
      · rename_i hi
        split at h
        · rename_i z hz
          obtain ⟨p, kk, ys, rfl, e2, e3, e4, e5⟩ := dk_at sm r1 e1 hi
          obtain rfl : v = Value.ref p := rx
          rw [e2] at hz
          obtain ⟨q, q1, q2⟩ := (dFind_val (k := k) e3 e5).1 z hz
          have g : DGet w.H p y (some q) := by rw [kOf_rv hk r2, ← q1]; exact DGet.k e4
          exact tail_any (dict_typeIs I g) slot_dict_getitem.lookup (d_getItem (by omega) I g ry fun w' s3 I3 rw' => ⟨q, w.H, I3, rw', h.here sm q2⟩) hs
        · exact h.elim
      · exact h.elim
    · exact h.elim
  · exact ig_Idx hK ev es pins s σ w.H x y v u Q I rx ry ⟨w, a, b, rfl, sm, r1, r2, h⟩ hs
/-- a table of the module's top, its keys texts -/
structure KTab (c : Ct) (w : World) (mg : Str → Option Value) (D : Str) (tbl : List (Str × Val)) : Prop where
  ex : ∃ a, mg D = some (.ref a) ∧ ∀ z v, tbl.lookup z = some v → ∃ y, KDct c.K w a z y ∧ ∀ wd, RV c wd v y
def vTab (tbl : List (Str × Val)) (k : Val) (μ : Mu) : Res Val := match k with
  | .str z => (match tbl.lookup z with
    | some v => .ok v μ
    | none => .stuck)
  | _ => .stuck
variable {W : WX} {b : Expr} {mb : M Val} {p pos : Pos} {D : Str} {tbl : List (Str × Val)}
theorem ge_tab (T : KTab c X.w X.mg D tbl) (hb : PE X b (TE' c W mb)) (hs : PlainIx b) (hK : X.K = c.K := by rfl) (hg : Gl X D := by rfl) (hdb : (D == ("__debug__" : Str)) = false := by decide) : PE X (.Subscript (.Name D p) b pos) (TE' c W (mop1 (vTab tbl) mb)) := by
  obtain ⟨a, hm, T⟩ := T.ex
  refine (pe_ix ix_kdict (pe_glob hg hm (v := .ref a) rfl hdb) hb hs).imp fun σ H Q ⟨w, sl, e, s, rs, h⟩ => ?_
  subst e
  refine te_then (R := fun w r => Post c w r Q fun cls d H' => W cls d σ H') s rs exc_post (fun z => z) h fun v w1 e1 s1 rs1 h1 x rx => ?_
  cases v with
  | str z =>
    simp only [vTab] at h1
    cases q : tbl.lookup z with
    | none => rw [q] at h1; exact h1.elim
    | some v =>
      rw [q] at h1
      obtain ⟨y, k1, k2⟩ := T z v q
      rw [← hK] at k1
      exact ⟨a, z, y, rfl, rx, k1, (h1.ext e1).here s1 (k2 w1)⟩
  | _ => exact h1.elim

/-! ### in, not in of a dict, of others -/
def vIn2 (x y : Val) (μ : Mu) : Res Val := match look μ y with
  | .dct ks vs => (match kOf x with
    | some k => if isKs ks then .ok (.bl (dFind (.k k) ks vs).isSome) μ else .stuck
    | none => .stuck)
  | _ => vIn x y μ
def vNotIn2 (x y : Val) (μ : Mu) : Res Val := match look μ y with
  | .dct ks vs => (match kOf x with
    | some k => if isKs ks then .ok (.bl (!(dFind (.k k) ks vs).isSome)) μ else .stuck
    | none => .stuck)
  | _ => vNotIn x y μ
theorem nx_In2 : NoExc2 vIn2 := fun a b μ e μ' h => by
  unfold vIn2 at h
  split at h
  · split at h
    · split at h <;> cases h
    · cases h
  · exact nx_In _ _ _ _ _ h
theorem nx_NotIn2 : NoExc2 vNotIn2 := fun a b μ e μ' h => by
  unfold vNotIn2 at h
  split at h
  · split at h
    · split at h <;> cases h
    · cases h
  · exact nx_NotIn _ _ _ _ _ h
theorem dget_some {w : Wd} {a : Addr} {kk : List Key} {ys : List V} {vs : List Val} {k : Key} (e3 : kk.length = ys.length) (e4 : w.H a = some (.dK (kk.zip ys))) (e5 : RVs c w vs ys) : ∃ o, DGet w.H a (kV k) o ∧ o.isSome = (dFind (.k k) (kk.map .k) vs).isSome := by
  refine ⟨_, DGet.k e4, ?_⟩
  cases q : dFind (.k k) (kk.map .k) vs with
  | none => rw [(dFind_val (k := k) e3 e5).2 q]; rfl
  | some z =>
    obtain ⟨y, h1, _⟩ := (dFind_val (k := k) e3 e5).1 z q
    rw [h1]; rfl
theorem og_In2 (hK : X.K = c.K) (hu : X.A.units + 65 < cLine) : OpG c X (compareOp .In) vIn2 := by
  intro pins s σ H x y v u Q I rx ry ⟨w, a, b, e, sm, r1, r2, h⟩
  subst e
  unfold vIn2 at h
  split at h
  · rename_i ks vs e1
    split at h
    · rename_i k hk
      split at h
      · rename_i hi
        obtain ⟨p, kk, ys, rfl, e2, e3, e4, e5⟩ := dk_at sm r2 e1 hi
        obtain rfl : u = Value.ref p := ry
        obtain ⟨o, g, go⟩ := dget_some (k := k) e3 e4 e5
        rw [← kOf_rv hk r1] at g
        refine d_in (by omega) I g rx fun s3 I3 => ⟨.bl _, w.H, I3, rfl, ?_⟩
        rw [go, ← e2]
        exact h.here sm rfl
      · exact h.elim
    · exact h.elim
  · exact og_In hK hu pins s σ w.H x y v u Q I rx ry ⟨w, a, b, rfl, sm, r1, r2, h⟩
theorem og_NotIn2 (hK : X.K = c.K) (hu : X.A.units + 65 < cLine) : OpG c X (compareOp .NotIn) vNotIn2 := by
  intro pins s σ H x y v u Q I rx ry ⟨w, a, b, e, sm, r1, r2, h⟩
  subst e
  unfold vNotIn2 at h
  split at h
  · rename_i ks vs e1
    split at h
    · rename_i k hk
      split at h
      · rename_i hi
        obtain ⟨p, kk, ys, rfl, e2, e3, e4, e5⟩ := dk_at sm r2 e1 hi
        obtain rfl : u = Value.ref p := ry
        obtain ⟨o, g, go⟩ := dget_some (k := k) e3 e4 e5
        rw [← kOf_rv hk r1] at g
        refine d_notIn (by omega) I g rx fun s3 I3 => ⟨.bl _, w.H, I3, rfl, ?_⟩
        rw [go, ← e2]
        exact h.here sm rfl
      · exact h.elim
    · exact h.elim
  · exact og_NotIn hK hu pins s σ w.H x y v u Q I rx ry ⟨w, a, b, rfl, sm, r1, r2, h⟩
end
end G

/-! G13: written dicts, o[i] = e. -/
namespace G
open PySem PySem.Spec PyProof.Rows L2

/-! ### {k: v, ..} -/
def mpairs : List (M Val × M Val) → M (List (Val × Val))
  | [] => fun _ μ => .ok [] μ
  | (mk, mv) :: r => andThen mk fun k => andThen mv fun v => andThen (mpairs r) fun ps => fun _ μ => .ok ((k, v) :: ps) μ
def dMerge : List DKey → List Val → List (Key × Val) → List DKey × List Val
  | ks, vs, [] => (ks, vs)
  | ks, vs, (k, v) :: r => dMerge (dPut (.k k) v ks vs).1 (dPut (.k k) v ks vs).2 r
/-- the keys of pairs -/
def kPairs : List (Val × Val) → Option (List (Key × Val))
  | [] => some []
  | (k, v) :: r => match kOf k, kPairs r with
    | some k, some r => some ((k, v) :: r)
    | _, _ => none
/-- a written dict, as one that nobody changes -/
def mdisp (ms : List (M Val × M Val)) : M Val := andThen (mpairs ms) fun ps => fun _ μ => match kPairs ps with
  | some kv => if kv.length ≤ 15 then .ok (.dct (dMerge [] [] kv).1 (dMerge [] [] kv).2) μ else .stuck
  | none => .stuck
/-- .. as one that is changed -/
def mdispM (ms : List (M Val × M Val)) : M Val := andThen (mpairs ms) fun ps => fun _ μ => match kPairs ps with
  | some kv => if kv.length ≤ 15 then .ok (.ref μ.length) (μ ++ [.dct (dMerge [] [] kv).1 (dMerge [] [] kv).2]) else .stuck
  | none => .stuck
def RPs (c : Ct) (w : Wd) : List (Val × Val) → List (V × V) → Prop
  | [], xs => xs = []
  | p :: ps, xs => ∃ q r, xs = q :: r ∧ RV c w p.1 q.1 ∧ RV c w p.2 q.2 ∧ RPs c w ps r
section
variable {c : Ct} {W : WX} {X : Cx} {pos : Pos}
theorem RPs.ext {w w' : Wd} (s : Sim c w) (e : Ext w w') : ∀ {ps : List (Val × Val)} {xs : List (V × V)}, RPs c w ps xs → RPs c w' ps xs
  | [], _, h => h
  | _ :: _, _, ⟨q, r, e1, h1, h2, h3⟩ => ⟨q, r, e1, RV.ext s e _ _ h1, RV.ext s e _ _ h2, RPs.ext s e h3⟩
abbrev trsOf (c : Ct) (W : WX) (ms : List (M Val × M Val)) : List (TE × TE) := ms.map fun m => (TE' c W m.1, TE' c W m.2)
theorem pairs_reads : ∀ (ms : List (M Val × M Val)) {w : Wd} {sl : Sl} {σ : St} {K : List (V × V) → Hp → Prop}, Sim c w → RSl c w sl σ →
    (match mpairs ms sl w.μ with
      | .ok ps μ' => ∀ w', w'.μ = μ' → Ext w w' → Sim c w' → ∀ xs, RPs c w' ps xs → K xs w'.H
      | .exc e μ' => ∀ w', w'.μ = μ' → Ext w w' → Sim c w' → ∀ cls d, RX c w' e cls d → W cls d σ w'.H
      | .stuck => False) → tPairs (trsOf c W ms) σ w.H K
  | [], w, sl, σ, K, s, rs, h => h w rfl (Ext.refl w) s [] rfl
  | (mk, mv) :: r, w, sl, σ, K, s, rs, h => by
    refine ⟨w, sl, rfl, s, rs, ?_⟩
    show Post c w (mk sl w.μ) _ _
    unfold mpairs andThen at h
    cases q : mk sl w.μ with
    | stuck => rw [q] at h; exact h
    | exc e μ' => rw [q] at h; exact h
    | ok k μ1 =>
      rw [q] at h
      intro w1 hμ1 e1 s1 x rx
      subst hμ1
      have rs1 := rs.ext s e1
      refine ⟨w1, sl, rfl, s1, rs1, ?_⟩
      show Post c w1 (mv sl w1.μ) _ _
      dsimp only [andThen] at h
      cases q2 : mv sl w1.μ with
      | stuck => rw [q2] at h; exact h
      | exc e μ' => rw [q2] at h; exact fun w2 hμ e2 s2 cls d r => h w2 hμ (e1.trans e2) s2 cls d r
      | ok v μ2 =>
        rw [q2] at h
        intro w2 hμ2 e2 s2 y ry
        subst hμ2
        have rs2 := rs1.ext s1 e2
        refine pairs_reads r s2 rs2 ?_
        dsimp only [andThen] at h
        cases q3 : mpairs r sl w2.μ with
        | stuck => rw [q3] at h; exact h
        | exc e μ' => rw [q3] at h; exact fun w3 hμ e3 s3 cls d r => h w3 hμ (e1.trans (e2.trans e3)) s3 cls d r
        | ok ps μ3 =>
          rw [q3] at h
          intro w3 hμ3 e3 s3 xs rxs
          exact h w3 hμ3 (e1.trans (e2.trans e3)) s3 _ ⟨(x, y), xs, rfl, RV.ext s1 (e2.trans e3) _ _ rx, RV.ext s2 e3 _ _ ry, rxs⟩
theorem kPairs_rv {w : Wd} : ∀ {ps : List (Val × Val)} {kv : List (Key × Val)} {xs : List (V × V)}, kPairs ps = some kv → RPs c w ps xs →
    ∃ kvs : List (Key × V), xs = kvs.map (fun p => (kV p.1, p.2)) ∧ kvs.map (·.1) = kv.map (·.1) ∧ RVs c w (kv.map (·.2)) (kvs.map (·.2))
  | [], kv, xs, h, r => by
    cases h
    have r : xs = [] := r
    subst r
    exact ⟨[], rfl, rfl, rfl⟩
  | (k, v) :: ps, kv, _, h, ⟨q, r, e, h1, h2, h3⟩ => by
    subst e
    simp only [kPairs] at h
    cases q1 : kOf k with
    | none => rw [q1] at h; cases h
    | some k' =>
      cases q2 : kPairs ps with
      | none => rw [q1, q2] at h; cases h
      | some kr =>
        rw [q1, q2] at h
        cases h
        obtain ⟨kvs, e1, e2, e3⟩ := kPairs_rv q2 h3
        refine ⟨(k', q.2) :: kvs, ?_, by simp [e2], q.2, _, rfl, h2, e3⟩
        rw [e1, List.map_cons, ← kOf_rv q1 h1]
theorem dMerge_zip {w : Wd} : ∀ {kv : List (Key × Val)} {kvs : List (Key × V)} {kk : List Key} {vs : List Val} {ys : List V}, kvs.map (·.1) = kv.map (·.1) → RVs c w (kv.map (·.2)) (kvs.map (·.2)) → kk.length = ys.length → RVs c w vs ys →
    ∃ (kk' : List Key) (ys' : List V), (dMerge (kk.map .k) vs kv).1 = kk'.map .k ∧ kk'.length = ys'.length ∧ mergeK (kk.zip ys) kvs = kk'.zip ys' ∧ RVs c w (dMerge (kk.map .k) vs kv).2 ys'
  | [], [], kk, vs, ys, _, _, hl, r => ⟨kk, ys, rfl, hl, rfl, r⟩
  | [], _ :: _, _, _, _, h, _, _, _ => by simp at h
  | _ :: _, [], _, _, _, h, _, _, _ => by simp at h
  | (k, v) :: kv, (k', z) :: kvs, kk, vs, ys, h, ⟨y, yr, e, r1, r2⟩, hl, r => by
    simp only [List.map_cons, List.cons.injEq] at h e
    obtain ⟨h1, h2⟩ := h
    obtain ⟨rfl, rfl⟩ := e
    subst h1
    obtain ⟨kk', ys', a1, a2, a3, a4⟩ := dPut_zip (k := k') r1 hl r
    obtain ⟨kk2, ys2, b1, b2, b3, b4⟩ := dMerge_zip h2 r2 a2 a4
    refine ⟨kk2, ys2, ?_, b2, ?_, ?_⟩
    · show (dMerge (dPut (.k k') v (kk.map .k) vs).1 (dPut (.k k') v (kk.map .k) vs).2 kv).1 = _
      rw [a1]; exact b1
    · show mergeK (putK (kk.zip ys) k' z) kvs = _
      rw [a3]; exact b3
    · show RVs c w (dMerge (dPut (.k k') v (kk.map .k) vs).1 (dPut (.k k') v (kk.map .k) vs).2 kv).2 ys2
      rw [a1]; exact b4
mutual
theorem RV.lessRs {w1 : Wd} {rs : List Addr} (hr : ∀ a, a ∈ rs → a ∈ w1.rs) : ∀ (x : Val) (v : V), RV c w1 x v → RV c { w1 with rs := rs } x v
  | .non, _, h => h
  | .bl _, _, h => h
  | .int _, _, h => h
  | .str _, _, h => h
  | .tup xs, _, ⟨a, ys, e1, e2, e3⟩ => ⟨a, ys, e1, e2, RVs.lessRs hr xs ys e3⟩
  | .lst xs, _, ⟨a, ys, e1, e2, e3⟩ => ⟨a, ys, e1, ⟨e2.1, e2.2.1, fun z => e2.2.2 (hr a z)⟩, RVs.lessRs hr xs ys e3⟩
  | .rol xs, _, ⟨a, ys, e1, e2, e3⟩ => ⟨a, ys, e1, e2, RVs.lessRs hr xs ys e3⟩
  | .ref n, _, h => h
  | .fn _, _, h => h
  | .ty _, _, h => h
  | .dct ks vs, _, ⟨a, ys, e1, e2, e3⟩ => ⟨a, ys, e1, ⟨e2.1, e2.2.1, fun z => e2.2.2 (hr a z)⟩, RVs.lessRs hr vs ys e3⟩
theorem RVs.lessRs {w1 : Wd} {rs : List Addr} (hr : ∀ a, a ∈ rs → a ∈ w1.rs) : ∀ (xs : List Val) (ys : List V), RVs c w1 xs ys → RVs c { w1 with rs := rs } xs ys
  | [], _, h => h
  | x :: xs, _, ⟨y, r, e1, e2, e3⟩ => ⟨y, r, e1, RV.lessRs hr x y e2, RVs.lessRs hr xs r e3⟩
end
/-- the world in which a written dict's pairs are made -/
def Wd.resD (w : Wd) (p : Addr) : Wd := { w with H := upd w.H p (.dK []), rs := p :: w.rs }
theorem resD_off {w : Wd} {p : Addr} (n : w.H p = none) : Off w (w.resD p) p := ⟨fun a h => upd_ne h, rfl, fun a h => (List.mem_cons.mp h).elim .inr .inl, .inr n⟩
theorem disp_core {w w1 : Wd} {p : Addr} (s : Sim c w) (n : w.H p = none) (e : Ext (w.resD p) w1) (s1 : Sim c w1) : w1.H p = some (.dK []) ∧ p ∉ w1.ρ ∧ w1.rs = p :: w.rs ∧ p ∉ w.rs ∧
    Ext w (w1.but p w.rs) ∧ Off w1 (w1.but p w.rs) p ∧ Sim c (w1.but p w.rs) := by
  have hp : p ∉ w.ρ := fun h => s.ne_new n h rfl
  have h1 : w1.H p = some (.dK []) := e.keep p _ (show upd w.H p (.dK []) p = _ from upd_same) hp
  have h2 : p ∉ w1.ρ := e.notin (show upd w.H p (.dK []) p = _ from upd_same) hp
  have h3 : w1.rs = p :: w.rs := e.rs
  have h4 := s.rs_new n
  have f : Off w1 (w1.but p w.rs) p := ⟨fun a h => if_neg h, rfl, fun a h => .inl (by rw [h3]; exact List.mem_cons_of_mem _ h), .inl ⟨by rw [h3]; exact List.mem_cons_self, _, h1, .inr (.inl ⟨_, rfl⟩)⟩⟩
  have eb : (w.resD p).but p w.rs = w := by
    show ({ ρ := w.ρ, μ := w.μ, H := fun a => if a = p then none else upd w.H p (.dK []) a, rs := w.rs } : Wd) = w
    have : (fun a => if a = p then none else upd w.H p (.dK []) a) = w.H := by
      funext a
      by_cases h : a = p
      · rw [if_pos h, h, n]
      · rw [if_neg h, upd_ne h]
    rw [this]
  refine ⟨h1, h2, h3, h4, ?_, f, s1.off f rfl h2 fun hm => absurd hm h4⟩
  have := but_ext (rs := w.rs) e (show upd w.H p (.dK []) p ≠ none by rw [upd_same]; exact fun z => nomatch z) hp
  rw [eb] at this
  exact this
theorem disp_exc {w w1 : Wd} {p : Addr} (n : w.H p = none) (e : Ext (w.resD p) w1) (s1 : Sim c w1) : Ext w { w1 with rs := w.rs } ∧ Sim c { w1 with rs := w.rs } := by
  obtain ⟨δ, d1, d2⟩ := e.pre
  have old : ∀ a o, w.H a = some o → (w.resD p).H a = some o := fun a o h => by
    show upd w.H p (.dK []) a = _
    rw [upd_ne (ne_of_none h n)]; exact h
  refine ⟨⟨⟨δ, d1, fun a h => ?_⟩, rfl, fun a o h1 h2 => e.keep a o (old a o h1) h2, fun a h => ?_⟩, s1.len, s1.nd, fun i a o h1 h2 => ?_, fun a ha => ?_⟩
  · cases q : w.H a with
    | none => rfl
    | some o =>
      have := d2 a h
      rw [old a o q] at this; cases this
  · cases q : w.H a with
    | none => exact absurd q h
    | some o => exact e.there a (by rw [old a o q]; exact fun z => nomatch z)
  · have f : ∀ {xs : List Val} {ys : List V}, RVs c w1 xs ys → RVs c { w1 with rs := w.rs } xs ys := fun r => RVs.lessRs (by rw [e.rs]; exact fun a h => List.mem_cons_of_mem _ h) _ _ r
    have ro := s1.ob i a o h1 h2
    cases o with
    | lst xs => obtain ⟨ys, q1, q2⟩ := ro; exact ⟨ys, q1, f q2⟩
    | dct ks vs => obtain ⟨ys, q1, q2⟩ := ro; exact ⟨ys, q1, f q2⟩
  · exact s1.rs a (by rw [e.rs]; exact List.mem_cons_of_mem _ ha)
theorem RX.less {w1 : Wd} {rs : List Addr} (hr : ∀ a, a ∈ rs → a ∈ w1.rs) {e : Exn} {C : Value} {d : Option Addr} (r : RX c w1 e C d) : RX c { w1 with rs := rs } e C d := by
  obtain ⟨A, h1, h2, h3⟩ := r
  refine ⟨A, h1, h2, h3.imp id fun ⟨dx, ys, a1, a2, a3, a4, a5⟩ => ⟨dx, ys, a1, a2, a3, a4, RVs.lessRs hr _ _ a5⟩⟩
theorem but_upd {w1 : Wd} {p : Addr} {rs : List Addr} {o : HO} : upd (w1.but p rs).H p o = upd w1.H p o := by
  funext a
  by_cases h : a = p
  · rw [h, upd_same, upd_same]
  · rw [upd_ne h, upd_ne h]; exact if_neg h
theorem disp_reads (mu : Bool) {ms : List (M Val × M Val)} {σ : St} {H : Hp} {Q : VK} (h : TE' c W ((if mu then mdispM else mdisp) ms) σ H Q) : tDisp (trsOf c W ms) σ H Q := by
  obtain ⟨w, sl, e, s, rs, h⟩ := h
  subst e
  intro p n
  have hp : p ∉ w.ρ := fun h => s.ne_new n h rfl
  have s0 : Sim c (w.resD p) := s.off (resD_off n) rfl hp fun _ => ⟨_, upd_same⟩
  refine pairs_reads ms (w := w.resD p) s0 (rs.off (resD_off n)) ?_
  show match mpairs ms sl w.μ with
      | .ok ps μ' => ∀ w', w'.μ = μ' → Ext (w.resD p) w' → Sim c w' → ∀ xs, RPs c w' ps xs → _
      | .exc e μ' => ∀ w', w'.μ = μ' → Ext (w.resD p) w' → Sim c w' → ∀ cls d, RX c w' e cls d → W cls d σ w'.H
      | .stuck => False
  have h : Post c w (andThen (mpairs ms) (fun ps => fun _ μ => match kPairs ps with
    | some kv => if kv.length ≤ 15 then (if mu then .ok (.ref μ.length) (μ ++ [.dct (dMerge [] [] kv).1 (dMerge [] [] kv).2]) else .ok (.dct (dMerge [] [] kv).1 (dMerge [] [] kv).2) μ) else .stuck
    | none => .stuck) sl w.μ) Q fun cls d H' => W cls d σ H' := by
    cases mu <;> exact h
  unfold andThen at h
  cases q : mpairs ms sl w.μ with
  | stuck => rw [q] at h; exact h
  | exc e μ' =>
    rw [q] at h
    intro w1 hμ e1 s1 cls d r
    subst hμ
    obtain ⟨k1, k2⟩ := disp_exc n e1 s1
    exact h { w1 with rs := w.rs } rfl k1 k2 cls d (r.less fun a ha => by rw [e1.rs]; exact List.mem_cons_of_mem _ ha)
  | ok ps μ' =>
    rw [q] at h
    intro w1 hμ e1 s1 xs rxs
    subst hμ
    obtain ⟨h1, h2, h3, h4, h5, h6, h7⟩ := disp_core s n e1 s1
    dsimp only at h
    cases qk : kPairs ps with
    | none => rw [qk] at h; exact h.elim
    | some kv =>
      rw [qk] at h
      dsimp only at h
      split at h
      · rename_i hl
        obtain ⟨kvs, a1, a2, a3⟩ := kPairs_rv qk rxs
        refine ⟨h1, kvs, a1, ?_, ?_⟩
        · have := congrArg List.length a2
          rw [List.length_map, List.length_map] at this
          omega
        · obtain ⟨kk', ys', b1, b2, b3, b4⟩ := dMerge_zip (kk := []) (vs := []) (ys := []) a2 a3 rfl rfl
          have b3 : mergeK [] kvs = kk'.zip ys' := b3
          rw [b3]
          have r5 : RVs c (w1.but p w.rs) (dMerge [] [] kv).2 ys' := RVs.off h6 _ _ b4
          have n5 : (w1.but p w.rs).H p = none := if_pos rfl
          rw [← but_upd (rs := w.rs)]
          cases mu with
          | false =>
            simp only [Bool.false_eq_true, if_false] at h
            exact h { w1.but p w.rs with H := upd (w1.but p w.rs).H p (.dK (kk'.zip ys')) } rfl (h5.trans (fresh_ext n5)) (fresh_sim h7 n5) _ ⟨p, ys', rfl, ⟨.inl ⟨kk', b1, b2, upd_same⟩, h2, h4⟩, RVs.ext h7 (fresh_ext n5) _ _ r5⟩
          | true =>
            simp only [if_true] at h
            have e6 : Ext (w1.but p w.rs) { w1.but p w.rs with ρ := (w1.but p w.rs).ρ ++ [p], μ := (w1.but p w.rs).μ ++ [.dct (dMerge [] [] kv).1 (dMerge [] [] kv).2], H := upd (w1.but p w.rs).H p (.dK (kk'.zip ys')) } := alloc_ext n5
            refine h _ rfl (h5.trans e6) (alloc_sim h7 n5 ⟨ys', .inl ⟨kk', b1, b2, upd_same⟩, RVs.ext h7 e6 _ _ r5⟩ h4) _ ⟨p, rfl, ?_⟩
            show (w1.ρ ++ [p])[w1.μ.length]? = some p
            rw [← s1.len]
            simp
      · exact h.elim
theorem ge_disp (mu : Bool) {ms : List (M Val × M Val)} {keys : List (Option Expr)} {values : List Expr} (h : PPs X pos keys values (trsOf c W ms)) (hall : keys.all (·.isSome) = true := by rfl) (hl : keys.length = values.length := by rfl) (h0 : keys ≠ [] := by exact fun z => nomatch z)
    (h15 : keys.length ≤ 15 := by decide) : PE X (.Dict keys values pos) (TE' c W ((if mu then mdispM else mdisp) ms)) := (pe_disp h hall hl h0 h15).imp fun _ _ _ h => disp_reads mu h
end

/-! ### {} -/
section
variable {c : Ct} {W : WX} {X : Cx} {pos : Pos}
def mdnew : M Val := fun _ μ => .ok (.ref μ.length) (μ ++ [.dct [] []])
theorem ge_dnew : PE X (.Dict [] [] pos) (TE' c W mdnew) := by
  refine pe_dnewK.imp fun σ H Q ⟨w, sl, e, s, rs, h⟩ => ?_
  subst e
  intro p n
  have e1 : Ext w { w with ρ := w.ρ ++ [p], μ := w.μ ++ [.dct [] []], H := upd w.H p (.dK []) } := alloc_ext n
  refine h _ rfl e1 (alloc_sim s n ⟨[], .inl ⟨[], rfl, rfl, upd_same⟩, rfl⟩ (s.rs_new n)) _ ⟨p, rfl, ?_⟩
  show (w.ρ ++ [p])[w.μ.length]? = some p
  rw [← s.len]
  simp
def mdnewI : M Val := fun _ μ => .ok (.dct [] []) μ
theorem ge_dnewI : PE X (.Dict [] [] pos) (TE' c W mdnewI) := by
  refine pe_dnewK.imp fun σ H Q ⟨w, sl, e, s, rs, h⟩ => ?_
  subst e
  intro p n
  refine h { w with H := upd w.H p (.dK []) } rfl (fresh_ext n) (fresh_sim s n) _ ⟨p, [], rfl, ⟨.inl ⟨[], rfl, rfl, upd_same⟩, fun hm => s.ne_new n hm rfl, s.rs_new n⟩, rfl⟩

/-! ### o[i] = e -/
def vPut (o i v : Val) (μ : Mu) : Option Mu := match o with
  | .ref n => (match μ[n]? with
    | some (.lst xs) => (match i with
      | .int k => (match ixN xs.length k with
        | some j => some (μ.set n (.lst (xs.set j v)))
        | none => none)
      | _ => none)
    | some (.dct ks vs) => (match kOf i with
      | some k => if isKs ks && decide (ks.length < LIM) then some (μ.set n (.dct (dPut (.k k) v ks vs).1 (dPut (.k k) v ks vs).2)) else none
      | none => none)
    | none => none)
  | _ => none
def ssetI (mv mo mi : M Val) : B := sthen mv fun v => sthen mo fun o => sthen mi fun i => fun sl μ => match vPut o i v μ with
  | some μ' => .nx sl μ'
  | none => .stuck
theorem RVs.set' {w : Wd} {xs : List Val} {ys : List V} {x : Val} {v : V} (r : RVs c w xs ys) (rv : RV c w x v) (i : Nat) : RVs c w (xs.set i x) (ys.set i v) := RVs.set rv i r
theorem pset (hu : X.A.units + 64 < cLine) : PSet X fun o i v H Q => ∃ w a b z μ', w.H = H ∧ Sim c w ∧ RV c w a o ∧ RV c w b i ∧ RV c w z v ∧ vPut a b z w.μ = some μ' ∧ ∀ w', w'.μ = μ' → Ext w w' → Sim c w' → Q w'.H := by
  intro pins s σ H o i v ov iv u Q I ro ri rv ⟨w, a, b, z, μ', e, sm, r1, r2, r3, h, hq⟩
  subst e
  unfold vPut at h
  split at h
  · rename_i n
    split at h
    · rename_i xs q
      split at h
      · rename_i k
        split at h
        · rename_i j hj
          cases h
          obtain ⟨p, ys, rfl, hp, h1, h2⟩ := ref_lst sm r1 q
          have r2 : i = V.int k := r2
          subst r2
          refine set_list pins s σ w.H _ _ v ov iv u Q I ro ri rv ⟨p, ys, k, j, rfl, rfl, h1, by rw [← h2.length]; exact hj, ?_⟩
          have e : Ext w { w with μ := w.μ.set n (.lst (xs.set j z)), H := upd w.H p (.lst (ys.set j v)) } := set_ext hp
          exact hq { w with μ := w.μ.set n (.lst (xs.set j z)), H := upd w.H p (.lst (ys.set j v)) } rfl e (set_sim sm hp ⟨_, upd_same, RVs.ext sm e _ _ (h2.set' r3 j)⟩)
        · cases h
      · cases h
    · rename_i ks vs q
      split at h
      · rename_i k hk
        split at h
        · rename_i hi
          cases h
          obtain ⟨hi, hl⟩ := Bool.and_eq_true_iff.mp hi
          have hl := of_decide_eq_true hl
          have q2 : look w.μ (.ref n) = .dct ks vs := by simp only [look, q]
          obtain ⟨p, kk, ys, rfl, e2, e3, e4, e5⟩ := dk_at sm r1 q2 hi
          obtain ⟨p', ep, hp⟩ := r1
          cases ep
          obtain rfl : ov = Value.ref p := ro
          subst e2
          obtain ⟨kk', ys', b1, b2, b3, b4⟩ := dPut_zip (k := k) r3 e3 e5
          have hlen : (kk.zip ys).length < sizeLine := by
            rw [List.length_zip, ← e3, Nat.min_self, ← LIM_eq]
            rwa [List.length_map] at hl
          have g : DPut w.H p i v (upd w.H p (.dK (kk'.zip ys'))) := by
            rw [kOf_rv hk r2, ← b3]; exact DPut.k e4 hlen
          refine d_setItem (by omega) I g ri rv fun s' I' => ⟨_, I', ?_⟩
          have e : Ext w { w with μ := w.μ.set n (.dct (dPut (.k k) z (kk.map .k) vs).1 (dPut (.k k) z (kk.map .k) vs).2), H := upd w.H p (.dK (kk'.zip ys')) } := set_ext hp
          exact hq { w with μ := w.μ.set n (.dct (dPut (.k k) z (kk.map .k) vs).1 (dPut (.k k) z (kk.map .k) vs).2), H := upd w.H p (.dK (kk'.zip ys')) } rfl e (set_sim sm hp ⟨ys', .inl ⟨kk', b1, b2, upd_same⟩, RVs.ext sm e _ _ b4⟩)
        · cases h
      · cases h
    · cases h
  · cases h
theorem gs_setI {o i v : Expr} {mo mi mv : M Val} {p2 : Pos} (hu : X.A.units + 64 < cLine) (hv : PE X v (TE' c W mv)) (ho : PE X o (TE' c W mo)) (hi : PE X i (TE' c W mi))
    (hs : swapsWithSole [.Subscript o i p2] v pos.line X.env = pure false := by rfl) (hw : swappedStores [.Subscript o i p2] v X.env = pure none := by rfl)
    (h1 : (assignEach [.Subscript o i p2] X.env).map (·.2) = [assign (.Subscript o i p2) X.env] := by rfl)
    (ha : ∀ v, assign (.Subscript o i p2) X.env v = (do
      let ov ← holding [v] (eval o X.env)
      let iv ← holding [v, ov] (eval i X.env)
      standAt p2
      holding [v, ov, iv] (setItem ov iv v)
      release [v, ov, iv] []) := by intro _; rfl) :
    PS X (.Assign [.Subscript o i p2] v pos) (TS' c W (ssetI mv mo mi)) := by
  refine (ps_asg hv (pg_sub ho hi (pset (c := c) hu) ha) hs hw h1).imp fun D σ H ⟨w, sl, e, s, rs, h⟩ => ?_
  subst e
  refine ts_then s rs h fun v w1 e1 s1 rs1 h1 x rx => ?_
  refine ts_then s1 rs1 (PostS.ext h1 e1) fun o w2 e2 s2 rs2 h2 y ry => ?_
  refine ts_then s2 rs2 (PostS.ext h2 e2) fun i w3 e3 s3 rs3 h3 z rz => ?_
  have h3 := PostS.ext h3 e3
  cases q : vPut o i v w3.μ with
  | none => rw [q] at h3; exact h3.elim
  | some μ' =>
    rw [q] at h3
    exact ⟨w3, o, i, v, μ', rfl, s3, RV.ext s2 e3 _ _ ry, rz, RV.ext s1 (e2.trans e3) _ _ rx, q, fun w4 hμ e4 s4 => h3 w4 hμ e4 s4 σ (rs3.ext s3 e4)⟩
end

/-! ### + and * of anything -/
def vAdd2 (x y : Val) (μ : Mu) : Res Val := match itemsH x μ, itemsH y μ with
  | some xs, some ys => if xs.length + ys.length ≤ LIM then .ok (.lst (xs ++ ys)) μ else .stuck
  | _, _ => vAdd x y μ
def vMul2 (x y : Val) (μ : Mu) : Res Val := match itemsH x μ with
  | some xs => (match y with
    | .int k => if small62 k ∧ xs.length * k.toNat ≤ LIM then .ok (.lst (List.replicate k.toNat xs).flatten) μ else .stuck
    | _ => .stuck)
  | none => (match x, y with
    | .tup xs, .int k => if small62 k ∧ k ≤ 1000 ∧ xs.length ≤ 1000 then .ok (.tup (List.replicate k.toNat xs).flatten) μ else .stuck
    | _, _ => vMul x y μ)
theorem nx_Add2 : NoExc2 vAdd2 := fun a b μ e μ' h => by
  unfold vAdd2 at h
  split at h
  · split at h <;> cases h
  · exact nx_Add _ _ _ _ _ h
theorem nx_Mul2 : NoExc2 vMul2 := fun a b μ e μ' h => by
  unfold vMul2 at h
  split at h
  · split at h
    · split at h <;> cases h
    · cases h
  · split at h
    · split at h <;> cases h
    · exact nx_Mul _ _ _ _ _ h
section
variable {c : Ct} {X : Cx}
theorem og_Add2 (hK : X.K = c.K) : OpG c X (binaryOp .Add) vAdd2 := by
  intro pins s σ H x y v u Q I rx ry ⟨w, a, b, e, sm, r1, r2, h⟩
  subst e
  unfold vAdd2 at h
  split at h
  · rename_i xs ys q1 q2
    split at h
    · rename_i hl
      obtain ⟨p, zs, rfl, h1, h2⟩ := itemsH_H sm r1 q1
      obtain ⟨p2, zs2, rfl, h3, h4⟩ := itemsH_H sm r2 q2
      exact op_cat pins s σ w.H _ _ v u Q I rx ry ⟨p, p2, zs, zs2, rfl, rfl, h1, h3, by rw [← h2.length, ← h4.length, ← LIM_eq]; exact hl, fun D hD => h.lst sm (h2.append h4) hD⟩
    · exact h.elim
  · exact og_Add hK pins s σ w.H x y v u Q I rx ry ⟨w, a, b, rfl, sm, r1, r2, h⟩
theorem og_Mul2 (hK : X.K = c.K) : OpG c X (binaryOp .Mult) vMul2 := by
  intro pins s σ H x y v u Q I rx ry ⟨w, a, b, e, sm, r1, r2, h⟩
  subst e
  unfold vMul2 at h
  split at h
  · rename_i xs q1
    split at h
    · rename_i k
      split at h
      · rename_i hl
        obtain ⟨p, zs, rfl, h1, h2⟩ := itemsH_H sm r1 q1
        have r2 : y = V.int k := r2
        subst r2
        obtain ⟨i1, i2⟩ := small62_iff hl.1
        exact op_rep pins s σ w.H _ _ v u Q I rx ry ⟨p, k, zs, rfl, rfl, h1, by omega, by omega, by rw [← h2.length, ← LIM_eq]; exact hl.2, fun D hD => h.lst sm (h2.rep _) hD⟩
      · exact h.elim
    · exact h.elim
  · split at h
    · rename_i xs k _
      split at h
      · rename_i hl
        obtain ⟨p, ys, rfl, g1, g2⟩ := r1
        have r2 : y = V.int k := r2
        subst r2
        obtain ⟨i1, i2⟩ := small62_iff hl.1
        refine op_repA pins s σ w.H _ _ v u Q I rx ry ⟨p, k, ys, rfl, rfl, by rw [hK]; exact g1, by omega, hl.2.1, by rw [← g2.length]; exact hl.2.2, fun z => ?_, fun _ p hp => h.tup sm (g2.rep _) hp⟩
        refine h.here sm ?_
        rcases z with rfl | rfl
        · refine ⟨p, ys, rfl, g1, ?_⟩
          have e : (List.replicate (1 : Int).toNat xs).flatten = xs := by simp
          rw [e]; exact g2
        · have : xs = [] := List.eq_nil_of_length_eq_zero g2.length
          subst this
          have e : (List.replicate k.toNat ([] : List Val)).flatten = [] := by simp
          rw [e]
          exact ⟨p, [], rfl, g1, rfl⟩
      · exact h.elim
    · exact og_Mul pins s σ w.H x y v u Q I rx ry ⟨w, a, b, rfl, sm, r1, r2, h⟩
end
end G

/-! G14: the rules as a program prints them. -/
namespace G
open PySem PySem.Spec PyProof.Rows L2

theorem u65 {k : Nat} {A : Around} (r : Room k A) : A.units + 65 < cLine := by have := r.un; omega
section
variable {c : Ct} {W : WX} {X : Cx} {pos p p2 : Pos} {a b d : Expr} {ma mb md : M Val} {x : Str}
theorem v_ (i : Nat) (hN : X.N[i]? = some x := by rfl) (hv : Vis X.env.scope x := by first | exact Or.inl rfl | exact Or.inr (Or.inl rfl) | exact Or.inr (Or.inr rfl)) (hd : (x == ("__debug__" : Str)) = false := by decide) (hcd : (x == ("__classdict__" : Str)) = false := by decide) : PE X (.Name x pos) (TE' c W (mvar i)) := ge_var hN hv hd hcd
/-- a constant of the module -/
structure GlobT (c : Ct) (mg : Str → Option Value) (x : Str) (v : Val) : Prop where
  ex : ∃ u y, mg x = some u ∧ RelV y u ∧ ∀ w, RV c w v y
theorem k_ {v : Val} (T : GlobT c X.mg x v) (hg : Gl X x := by rfl) (hdb : (x == ("__debug__" : Str)) = false := by decide) : PE X (.Name x pos) (TE' c W (mcst v)) := by
  obtain ⟨u, y, h1, h2, h3⟩ := T.ex
  exact ge_glob h1 h2 h3 hg hdb
theorem not_ (ha : PE X a (TE' c W ma)) (hK : X.K = c.K := by rfl) : PE X (.UnaryOp .Not a pos) (TE' c W (mnot ma)) := ge_not hK ha
theorem and_ {rest : List Expr} (ha : PE X a (TE' c W ma)) (hb : PE X (.BoolOp .And (b :: rest) pos) (TE' c W mb)) (hK : X.K = c.K := by rfl) : PE X (.BoolOp .And (a :: b :: rest) pos) (TE' c W (mand ma mb)) := ge_and hK ha hb
theorem or_ {rest : List Expr} (ha : PE X a (TE' c W ma)) (hb : PE X (.BoolOp .Or (b :: rest) pos) (TE' c W mb)) (hK : X.K = c.K := by rfl) : PE X (.BoolOp .Or (a :: b :: rest) pos) (TE' c W (mor ma mb)) := ge_or hK ha hb
theorem tr_ (ha : PE X a (TE' c W ma)) (hK : X.K = c.K := by rfl) (he : ∀ whole, isTrue a X.env whole = (do let v ← whole; standAt a.pos; holding [v] (truthy v)) := by intro _; rfl) : PT X a (TT' c W (mtruth ma)) := gt_truth hK ha he
theorem ix_ (hu : X.A.units + 65 < cLine) (ha : PE X a (TE' c W ma)) (hb : PE X b (TE' c W mb)) (hs : PlainIx b := by intro _ _; rfl) (hK : X.K = c.K := by rfl) : PE X (.Subscript a b pos) (TE' c W (mop2 vSub2 ma mb)) := ge_ix (ig_Sub2 hK (by omega)) nx_Sub2 ha hb hs
theorem tab_ {D : Str} {tbl : List (Str × Val)} (T : KTab c X.w X.mg D tbl) (hb : PE X b (TE' c W mb)) (hs : PlainIx b := by intro _ _; rfl) (hK : X.K = c.K := by rfl) (hg : Gl X D := by rfl) (hdb : (D == ("__debug__" : Str)) = false := by decide) : PE X (.Subscript (.Name D p) b pos) (TE' c W (mop1 (vTab tbl) mb)) := ge_tab T hb hs hK hg hdb
theorem sl_ {lo hi : Option Expr} {ml mh : M (Option Int)} (ha : PE X a (TE' c W ma)) (hl : PO X lo (TO' c W ml)) (hh : PO X hi (TO' c W mh)) (hK : X.K = c.K := by rfl) :
    PE X (.Subscript a (.Slice lo hi none p2) pos) (TE' c W (mslice vSlice ma ml mh)) := ge_slice (sg_Slice hK) nx_Slice ha hl hh

/-! operators -/
section
variable {op : Operator} {g : Val → Val → Mu → Res Val}
/-- an operator's rule, whatever the context -/
structure BinT (c : Ct) (op : Operator) (g : Val → Val → Mu → Res Val) : Prop where
  o : ∀ X : Cx, X.K = c.K → OpG c X (binaryOp op) g
  n : NoExc2 g
theorem b_Add : BinT c .Add vAdd2 := ⟨fun _ h => og_Add2 h, nx_Add2⟩
theorem b_Sub : BinT c .Sub vSub := ⟨fun _ _ => og_Sub, nx_Sub⟩
theorem b_Mult : BinT c .Mult vMul2 := ⟨fun _ hK => og_Mul2 hK, nx_Mul2⟩
theorem b_FloorDiv : BinT c .FloorDiv vFdiv := ⟨fun _ _ => og_Fdiv, nx_Fdiv⟩
theorem b_Mod : BinT c .Mod vMod := ⟨fun _ _ => og_Mod, nx_Mod⟩
theorem bin_ (T : BinT c op g) (ha : PE X a (TE' c W ma)) (hb : PE X b (TE' c W mb)) (hK : X.K = c.K := by rfl) : PE X (.BinOp a op b pos) (TE' c W (mop2 g ma mb)) := ge_op (T.o X hK) T.n ha hb
end
section
variable {op op' : CmpOp} {g g' : Val → Val → Mu → Res Val}
structure CmpT (c : Ct) (op : CmpOp) (g : Val → Val → Mu → Res Val) : Prop where
  o : ∀ X : Cx, X.K = c.K → X.A.units + 65 < cLine → OpG c X (compareOp op) g
  n : NoExc2 g
theorem c_Eq : CmpT c .Eq vEq := ⟨fun _ h hu => og_Eq h (by omega), nx_Eq⟩
theorem c_NotEq : CmpT c .NotEq vNe := ⟨fun _ h hu => og_Ne h (by omega), nx_Ne⟩
theorem c_Lt : CmpT c .Lt vLt := ⟨fun _ h hu => og_Lt, nx_Lt⟩
theorem c_LtE : CmpT c .LtE vLe := ⟨fun _ h hu => og_Le, nx_Le⟩
theorem c_Gt : CmpT c .Gt vGt := ⟨fun _ h hu => og_Gt, nx_Gt⟩
theorem c_GtE : CmpT c .GtE vGe := ⟨fun _ h hu => og_Ge, nx_Ge⟩
theorem c_In : CmpT c .In vIn2 := ⟨fun _ h hu => og_In2 h hu, nx_In2⟩
theorem c_NotIn : CmpT c .NotIn vNotIn2 := ⟨fun _ h hu => og_NotIn2 h hu, nx_NotIn2⟩
theorem c_Is : CmpT c .Is vIsN := ⟨fun _ h hu => og_IsN, nx_IsN⟩
theorem c_IsNot : CmpT c .IsNot vNotN := ⟨fun _ h hu => og_NotN, nx_NotN⟩
theorem cmp_ (T : CmpT c op g) (hu : X.A.units + 65 < cLine) (ha : PE X a (TE' c W ma)) (hb : PE X b (TE' c W mb)) (hm : behindInMarks op b = false := by rfl) (hK : X.K = c.K := by rfl) : PE X (.Compare a [op] [b] pos) (TE' c W (mop2 g ma mb)) := ge_cmp (T.o X hK hu) T.n ha hb hm
theorem tcmp_ (T : CmpT c op g) (hu : X.A.units + 65 < cLine) (ha : PE X a (TE' c W ma)) (hb : PE X b (TE' c W mb)) (hm : behindInMarks op b = false := by rfl) (hK : X.K = c.K := by rfl) : PT X (.Compare a [op] [b] pos) (TT' c W (mbool (mop2 g ma mb))) := gt_cmp (T.o X hK hu) T.n ha hb hm
theorem chain_ (T : CmpT c op g) (T' : CmpT c op' g') (hu : X.A.units + 65 < cLine) (ha : PE X a (TE' c W ma)) (hb : PE X b (TE' c W mb)) (hd : PE X d (TE' c W md)) (hm : lastMarks [op, op'] [b, d] = false := by with_unfolding_all rfl) (hK : X.K = c.K := by rfl) : PE X (.Compare a [op, op'] [b, d] pos) (TE' c W (mchain g g' ma mb md)) := ge_chain (T.o X hK hu) T.n (T'.o X hK hu) T'.n ha hb hd hm
theorem tchain_ (T : CmpT c op g) (T' : CmpT c op' g') (hu : X.A.units + 65 < cLine) (ha : PE X a (TE' c W ma)) (hb : PE X b (TE' c W mb)) (hd : PE X d (TE' c W md)) (hm : lastMarks [op, op'] [b, d] = false := by with_unfolding_all rfl) (hK : X.K = c.K := by rfl) : PT X (.Compare a [op, op'] [b, d] pos) (TT' c W (mbool (mchain g g' ma mb md))) := by
  refine gt_bool' (pt_chain (T.o X hK hu) (T'.o X hK hu) ha hb hd hm) fun σ H Q ⟨w, sl, e, s, rs, h⟩ => ?_
  subst e
  refine te_then (R := fun w r => Post c w r Q fun cls d H' => W cls d σ H') s rs exc_post (fun z => z) h fun v w1 e1 s1 rs1 h1 x rx => ?_
  refine te_then (R := fun w r => Post c w r Q fun cls d H' => W cls d σ H') s1 rs1 exc_post (fun z => z) (h1.ext e1) fun u w2 e2 s2 rs2 h2 y ry => ?_
  refine ⟨w2, v, u, rfl, s2, RV.ext s1 e2 _ _ rx, ry, ?_⟩
  refine tr_then (m := fun _ μ => g v u μ) (R := fun w r => Post c w r Q fun cls d H' => W cls d σ H') (T.n _ _ _) (fun z => z) (h2.ext e2) fun z w3 e3 s3 h3 p rp => ?_
  have h3 := h3.ext e3
  have rs3 := rs2.ext s2 e3
  cases z with
  | bl k =>
    refine ⟨k, rp, ?_⟩
    cases k with
    | true =>
      refine iteT ?_
      refine te_then (R := fun w r => Post c w r Q fun cls d H' => W cls d σ H') s3 rs3 exc_post (fun z => z) h3 fun q w4 e4 s4 rs4 h4 y' ry' => ?_
      exact ⟨w4, u, q, rfl, s4, RV.ext s2 (e3.trans e4) _ _ ry, ry', (h4.ext e4).noexc (T'.n _ _ _)⟩
    | false => exact iteF (h3.here s3 rfl)
  | _ => exact h3.elim
end

/-! built-in functions -/
section
variable {e : Expr} {es : List Expr} {mr : M (List Val)} {id : String} {g : List Val → Mu → Res Val} {gF : List Val → Mu → Res (List Val)}
structure FunT (c : Ct) (f : Value) (g : List Val → Mu → Res Val) : Prop where
  o : ∀ X : Cx, X.K = c.K → X.calm = true → X.A.units + 65 < cLine → CaG c X f g
  n : NoExc g
structure FunF (c : Ct) (f : Value) (g : List Val → Mu → Res (List Val)) : Prop where
  o : ∀ X : Cx, X.K = c.K → X.calm = true → X.A.units + 65 < cLine → CaF c X f g
  n : NoExc g
theorem f_len : FunT c (.builtin "len") vLen := ⟨fun _ h _ _ => cg_Len h, nx_Len⟩
theorem f_abs : FunT c (.builtin "abs") vAbs := ⟨fun _ _ _ _ => cg_Abs, nx_Abs⟩
theorem f_int : FunT c (.type "int") vInt := ⟨fun _ _ _ _ => cg_Int, nx_Int⟩
theorem f_max2 : FunT c (.builtin "max") vMax2 := ⟨fun _ _ h _ => cg_Max2 h, nx_Max2⟩
theorem f_min2 : FunT c (.builtin "min") vMin2 := ⟨fun _ _ h _ => cg_Min2 h, nx_Min2⟩
theorem f_max : FunT c (.builtin "max") vMax := ⟨fun _ h1 h2 hu => cg_Max h1 h2 (by omega), nx_Max⟩
theorem f_min : FunT c (.builtin "min") vMin := ⟨fun _ h1 h2 hu => cg_Min h1 h2 (by omega), nx_Min⟩
theorem f_tuple : FunT c (.type "tuple") vTuple := ⟨fun _ h _ _ => cg_Tuple h, nx_Tuple⟩
theorem f_any : FunT c (.builtin "any") vAny := ⟨fun _ h h2 _ => cg_Any h h2, nx_Any⟩
theorem f_all : FunT c (.builtin "all") vAll := ⟨fun _ h h2 _ => cg_All h h2, nx_All⟩
theorem f_sum : FunT c (.builtin "sum") vSum := ⟨fun _ h h2 _ => cg_Sum h h2, nx_Sum⟩
theorem f_isinstance : FunT c (.builtin "isinstance") vIsi := ⟨fun _ h _ _ => cg_Isi h, nx_Isi⟩
theorem f_list : FunF c (.type "list") vList := ⟨fun _ h _ _ => cf_List h, nx_List⟩
theorem f_sorted : FunF c (.builtin "sorted") vSorted := ⟨fun _ h _ hu => cf_Sorted h (by omega), nx_Sorted⟩
theorem cb_ (F : FunT c (.builtin id) g) (hm : X.mg x = none) (hu : X.A.units + 65 < cLine) (ha : PA X (e :: es) (TA' c W mr)) (hK : X.K = c.K := by rfl) (hc : X.calm = true := by rfl) (hg : Gl X x := by rfl) (hv : bootBuiltins x = some (.builtin id) := by decide +kernel) (hn : x ≠ "__name__" := by decide) (hdb : (x == ("__debug__" : Str)) = false := by decide)
    (he : starEach (e :: es) X.env = (false, eval e X.env) :: starEach es X.env := by rfl) (hpl : (backTo pos (starEach es X.env)).any (·.1) = false := by rfl) : PE X (.Call (.Name x p) (e :: es) [] pos) (TE' c W (mcall g mr)) := ge_callB (F.o X hK hc hu) F.n hm ha hg hv hn hdb he hpl
theorem ct_ (F : FunT c (.type id) g) (hm : X.mg x = none) (hu : X.A.units + 65 < cLine) (ha : PA X (e :: es) (TA' c W mr)) (hK : X.K = c.K := by rfl) (hc : X.calm = true := by rfl) (hg : Gl X x := by rfl) (hv : bootBuiltins x = some (.type id) := by decide +kernel) (hn : x ≠ "__name__" := by decide) (hdb : (x == ("__debug__" : Str)) = false := by decide)
    (he : starEach (e :: es) X.env = (false, eval e X.env) :: starEach es X.env := by rfl) (hpl : (backTo pos (starEach es X.env)).any (·.1) = false := by rfl) : PE X (.Call (.Name x p) (e :: es) [] pos) (TE' c W (mcall g mr)) := ge_callT (F.o X hK hc hu) F.n hm ha hg hv hn hdb he hpl
theorem fb_ (F : FunF c (.builtin id) gF) (hm : X.mg x = none) (hu : X.A.units + 65 < cLine) (ha : PA X (e :: es) (TA' c W mr)) (hK : X.K = c.K := by rfl) (hc : X.calm = true := by rfl) (hg : Gl X x := by rfl) (hv : bootBuiltins x = some (.builtin id) := by decide +kernel) (hn : x ≠ "__name__" := by decide) (hdb : (x == ("__debug__" : Str)) = false := by decide)
    (he : starEach (e :: es) X.env = (false, eval e X.env) :: starEach es X.env := by rfl) (hpl : (backTo pos (starEach es X.env)).any (·.1) = false := by rfl) : PE X (.Call (.Name x p) (e :: es) [] pos) (TF' c W (mcall gF mr)) := gf_callB (F.o X hK hc hu) F.n hm ha hg hv hn hdb he hpl
theorem ft_ (F : FunF c (.type id) gF) (hm : X.mg x = none) (hu : X.A.units + 65 < cLine) (ha : PA X (e :: es) (TA' c W mr)) (hK : X.K = c.K := by rfl) (hc : X.calm = true := by rfl) (hg : Gl X x := by rfl) (hv : bootBuiltins x = some (.type id) := by decide +kernel) (hn : x ≠ "__name__" := by decide) (hdb : (x == ("__debug__" : Str)) = false := by decide)
    (he : starEach (e :: es) X.env = (false, eval e X.env) :: starEach es X.env := by rfl) (hpl : (backTo pos (starEach es X.env)).any (·.1) = false := by rfl) : PE X (.Call (.Name x p) (e :: es) [] pos) (TF' c W (mcall gF mr)) := gf_callT (F.o X hK hc hu) F.n hm ha hg hv hn hdb he hpl
end

/-! targets, walks, statements -/
theorem n_ (i : Nat) (hN : X.N.Nodup) (hi : X.N[i]? = some x := by rfl) (hx : Loc X.env.scope x := by first | exact Or.inl rfl | exact Or.inr rfl) (hf : X.fn x = true ∨ X.env.scope.names.lookup x = some .local := by first | exact .inl rfl | exact .inr rfl) : PG X (.Name x pos) (TG' c (.nm i)) := gg_nm hN hi hx hf
theorem in_ {tg l : Expr} {ml : M Val} (hl : PE X l (TE' c W ml)) (hK : X.K = c.K := by rfl) : PI X tg l (TI' c W (iseq ml)) := gi_seq hK hl
theorem set_ (i : Nat) {m : M Val} {e : Expr} (hN : X.N.Nodup) (he : PE X e (TE' c W m)) (hi : X.N[i]? = some x := by rfl) (hx : Loc X.env.scope x := by first | exact Or.inl rfl | exact Or.inr rfl) (hs : swapsWith e (some (.Name x p2)) pos.line X.env = pure false := by rfl) (hf : X.fn x = true ∨ X.env.scope.names.lookup x = some .local := by first | exact .inl rfl | exact .inr rfl) :
    PS X (.Assign [.Name x p2] e pos) (TS' c W (sasg m (.nm i))) := gs_set hN hi hx he hs hf
theorem for_ {tg iter : Expr} {body : List Stmt} {src : M Src} {t : Tgt} {b : B} (hp : PassesOwn (model X.prog X.w) X.A X.env X.xe) (hi : PI X tg iter (TI' c W src)) (hg : PG X tg (TG' c t)) (hb : PSs X body (TS' c W b)) (hc : X.calm = true := by rfl)
    (hs : ∀ x, foldedSetIterable iter X.env x = pure x := by intro _; rfl) : PS X (.For tg iter body [] pos) (TS' c W (sfor src t b)) := gs_for hp hc hi hg hb hs
theorem tp_ {es : List Expr} {k : Nat} {ts : List Tgt} {n : Nat} (h : PGs X es (TGs' c ts)) (hts : ts.length = n := by rfl) (hn : (assignEach es X.env).length = n := by rfl) (hst : (assignEach es X.env).findIdx? (·.1) = none := by rfl) (hK : X.K = c.K := by rfl) (hc : X.calm = true := by rfl) : PG X (.Tuple es k pos) (TG' c (.tp ts)) := gg_tp hK hc h hts hn hst
section
variable {elt tg iter : Expr} {ifs : List Expr} {scope : Scope} {src : M Src} {t : Tgt} {mc : M Bool} {me : M Val} {y : Str} {py spos : Pos}
theorem lc_ (own : List (Str × Nat)) (hN : X.N.Nodup) (hi : PI X tg iter (TI' c W src))
    (hg : ∀ (s : Shared) (H : Hp) (C : Addr) (cl : List (Str × Addr)) (fp : List Addr), PG (X.blk s H scope (compEnvC scope cl C X.env) fp) tg (TG' c t)) (ht : ∀ (s : Shared) (H : Hp) (C : Addr) (cl : List (Str × Addr)) (fp : List Addr), PTs (X.blk s H scope (compEnvC scope cl C X.env) fp) ifs (TT' c W0 mc))
    (he : ∀ (s : Shared) (H : Hp) (C : Addr) (cl : List (Str × Addr)) (fp : List Addr), PE (X.blk s H scope (compEnvC scope cl C X.env) fp) elt (TE' c W0 me)) (ok : blkC X.N X.env.scope scope own = true := by kernel_rfl) (hsl : ∀ i ∈ t.slots, i ∈ own.map (·.2) := by decide) (hc : X.calm = true := by rfl) (hs : ∀ x, foldedSetIterable iter X.env x = pure x := by intro _; rfl) :
    PE X (.ListComp elt [⟨tg, iter, ifs, 0⟩] scope pos) (TF' c W (mlc src (own.map (·.2)) t mc me)) := gf_lc hc hN hi (blkOk_by ok) hg ht he hsl hs
theorem setlc_ (mu : Bool) (i : Nat) (own : List (Str × Nat)) (hN : X.N.Nodup) (hi : PI X tg iter (TI' c W src))
    (hg : ∀ (s : Shared) (H : Hp) (C : Addr) (cl : List (Str × Addr)) (fp : List Addr), PG (X.blk s H scope (compEnvC scope cl C X.env) fp) tg (TG' c t)) (ht : ∀ (s : Shared) (H : Hp) (C : Addr) (cl : List (Str × Addr)) (fp : List Addr), PTs (X.blk s H scope (compEnvC scope cl C X.env) fp) ifs (TT' c W0 mc))
    (he : ∀ (s : Shared) (H : Hp) (C : Addr) (cl : List (Str × Addr)) (fp : List Addr), PE (X.blk s H scope (compEnvC scope cl C X.env) fp) elt (TE' c W0 me)) (hsw : swapsWith (.ListComp elt [⟨tg, iter, ifs, 0⟩] scope pos) (some (.Name y py)) spos.line X.env = pure true := by exact sw_true rfl rfl rfl (by kernel_rfl)) (ok : blkC X.N X.env.scope scope own = true := by kernel_rfl) (hy : X.N[i]? = some y := by rfl) (hyl : X.env.scope.names.lookup y = some .local := by rfl) (hsl : ∀ i ∈ t.slots, i ∈ own.map (·.2) := by decide) (hc : X.calm = true := by rfl) (hs : ∀ x, foldedSetIterable iter X.env x = pure x := by intro _; rfl) :
    PS X (.Assign [.Name y py] (.ListComp elt [⟨tg, iter, ifs, 0⟩] scope pos) spos) (TS' c W (sasg ((if mu then mmut else mimm) (mlc src (own.map (·.2)) t mc me)) (.nm i))) := gs_setLc mu hc hN hy hyl hsw hi (blkOk_by ok) hg ht he hsl hs
end
theorem par_ (i j : Nat) {x y : Str} {m : M (List Val)} {px py pt : Pos} {kt k2 pt2} (hN : X.N.Nodup) (ha : PA X [a, b] (TA' c W m)) (hij : i ≠ j := by decide) (hi : X.N[i]? = some x := by rfl) (hj : X.N[j]? = some y := by rfl)
    (hx : X.env.scope.names.lookup x = some .local := by rfl) (hy : X.env.scope.names.lookup y = some .local := by rfl)
    (hw : swappedStores [.Tuple [.Name x px, .Name y py] kt pt] (.Tuple [a, b] k2 pt2) X.env = pure (some [x, y]) := by rfl)
    (hs : swapsWithSole [.Tuple [.Name x px, .Name y py] kt pt] (.Tuple [a, b] k2 pt2) pos.line X.env = pure false := by rfl) (hc : X.calm = true := by rfl) :
    PS X (.Assign [.Tuple [.Name x px, .Name y py] kt pt] (.Tuple [a, b] k2 pt2) pos) (TS' c W (spar m i j)) := gs_par hc hN hi hj hij hx hy ha hw hs
end
end G

/-! G15: the ends of a law. -/
namespace G
open PySem PySem.Spec PyProof.Rows L2

theorem u64 {A : Around} (h : A.units + 65 < cLine) : A.units + 64 < cLine := by omega
structure DefT (c : Ct) (mg : Str → Option Value) (x : Str) (st : Stmt) (ps : List Str) : Prop where
  ex : ∃ f fd, Fun c.K x x st f fd ∧ mg x = some (.ref f) ∧ PySem.W.keepIn c.K (.ref f) = true ∧ Binds c.K fd ps []
theorem lookup_cons {β : Type} {k z : Str} {b v : β} {l : List (Str × β)} (h : List.lookup z ((k, b) :: l) = some v) : (k = z ∧ b = v) ∨ List.lookup z l = some v := by
  rw [List.lookup_cons] at h
  by_cases e : z == k
  · rw [e] at h
    exact .inl ⟨(eq_of_beq e).symm, Option.some.inj h⟩
  · rw [show (z == k) = false by simpa using e] at h
    exact .inr h
/-- what is asked of the law, in plain Lean -/
def LawOk (f : Sem) : Prop := ∀ ns : List Int, ns.length ≤ 63 → ∃ μ, f [.rol (ns.map .int)] [] = .ok (.bl true) μ
def spLawG (K : PySem.W.Frag) : Sp := fun vs H Q _ => ∃ (a : Addr) (ns : List Int), vs = [.ref a] ∧ ((∃ o, H a = some (.frz o (.lst (ns.map V.int)))) ∨ StL K a (ns.map V.int)) ∧ ns.length ≤ 63 ∧ ∀ H', Q (.bl true) H'
theorem RVs_ints {c : Ct} {w : Wd} : ∀ ns : List Int, RVs c w (ns.map Val.int) (ns.map V.int)
  | [] => rfl
  | n :: ns => ⟨_, _, rfl, rfl, RVs_ints ns⟩
theorem law_fn {P : Program} {w : World} {c : Ct} {mg : Str → Option Value} {base : Heap} {k : Nat} {f : Sem} {fa : Addr} {fd : FuncData} (HL : LawOk f) (F : FnOk P w c.K mg base (L2.CX P w) k fa fd ["script"] (spG c f)) : FnOk P w c.K mg base (L2.CX P w) k fa fd ["script"] (spLawG c.K) := by
  refine F.imp fun vs H Q E ⟨a, ns, e, h, hl, q⟩ => ?_
  subst e
  obtain ⟨μ, hf⟩ := HL ns hl
  refine ⟨{ ρ := [], μ := [], H := H, rs := [] }, [.rol (ns.map .int)], rfl, ⟨rfl, List.nodup_nil, (fun i a o h => by simp at h), (fun a h => by cases h)⟩, ⟨.ref a, [], rfl, ⟨a, ns.map V.int, rfl, h, RVs_ints ns⟩, rfl⟩, ?_⟩
  show Post c _ (f [.rol (ns.map .int)] []) Q E
  rw [hf]
  intro w' _ _ _ x rx
  rw [show x = V.bl true from rx]
  exact q _
theorem walkG {l : PySem.W.OpenLaw} {k : Nat} {q : Program} {loose : List Str} {XP : (Str → Option Value) → Heap → Prop} {YP : World → Heap → Prop} {d : DefRec} {K : Params → PySem.W.Frag} (hn : l.most = some 63) (hdf : d.params.defaults = []) (hr : Room k callerA)
    (hY : ∀ (w : World) (h : Heap), YP w h → (K w.params).In h)
    (F : ∀ (w : World) (mg : Str → Option Value) (fa : Addr) (h : Heap), (K w.params).In h → h.Ns mainGlobals mg → mg d.name = some (.ref fa) →
      ∃ fd : FuncData, (∀ (s : Shared) (u : Value), BindsTo s fd ⟨[u], []⟩ [("script", u)]) ∧ ∀ base : Heap, (K w.params).In base → base.Ns mainGlobals mg → FnOk l.prog w (K w.params) mg base (L2.CX l.prog w) k fa fd ["script"] (spLawG (K w.params))) :
    PySem.W.WalkO q loose XP YP l.row.toRowW d [] (fun f vs => PySem.call f vs) :=
  L2.walk_of (n := 63) (k := k) (x := "script") (CX := fun w => L2.CX l.prog w) (sp := fun w => spLawG (K w.params)) hn (by decide) hdf hr hY F
    (fun w H a ns hl hO hS => ⟨a, ns, rfl, by
      rcases hS with (h | ⟨o, h⟩) | h
      · rcases hO a with q | ⟨o, xs, q⟩ <;> (rw [h] at q; cases q)
      · exact .inl ⟨o, h⟩
      · exact .inr h, hl, fun _ => rfl⟩) fun w H s e s' ⟨_, _, _, _, _, _, _, _, _, _, _, _, z⟩ => z
theorem sqT_st {K : PySem.W.Frag} {H : Hp} {a : Addr} {its : List Value} {n : Nat} {sl : Array (Option Value)} {ys : List V} (h : K.lookup a = some ⟨.type "tuple", none, .seq its.toArray n, sl⟩) (hn : its.length ≤ LIM) (v : Vals ys its) : SqT K H a ys :=
  .inr ⟨_, its.toArray, n, h, rfl, rfl, by rw [List.size_toArray, ← LIM_eq]; exact hn, v⟩
theorem exm_by {K : PySem.W.Frag} {C H : Addr} {b : Bool} (h1 : PySem.W.subIn K (.ref H) (.type "BaseException") = some true) (h2 : PySem.W.isClsIn K H = true) (h3 : PySem.W.typeIn K (.ref H) = some (.type "type")) (h4 : PySem.W.subIn K (.ref C) (.ref H) = some b) : PySem.W.exmOne K (.ref C) (.ref H) = some b := by
  have h2 : (PySem.W.clsIn K H).isSome = true := h2
  unfold PySem.W.exmOne
  rw [h1, if_pos (by decide +kernel)]
  show (if ((PySem.W.clsIn K H).isSome && PySem.W.typeIn K (.ref H) == some (.type "type")) = true then PySem.W.subIn K (.ref C) (.ref H) else none) = some b
  rw [h2, h3, if_pos (by decide +kernel)]
  exact h4
end G

/-! G16: reasoning about programs. -/
namespace G
open PySem

def Flow.isNx : Flow → Bool
  | .nx _ _ => true
  | _ => false
def Flow.sl : Flow → Sl
  | .nx sl _ => sl
  | _ => []
def Flow.mu : Flow → Mu
  | .nx _ μ => μ
  | _ => []
theorem Flow.of_nx {f : Flow} (h : f.isNx = true) : f = .nx f.sl f.mu := by
  cases f <;> first | rfl | cases h

/-! ### a row of statements -/
theorem seq_nx {a b : B} {sl sl' : Sl} {μ μ' : Mu} (h : a sl μ = .nx sl' μ') : sseq a b sl μ = b sl' μ' := by
  unfold sseq; rw [h]
theorem asg_ok {m : M Val} {i : Nat} {sl : Sl} {μ μ' : Mu} {v : Val} (h : m sl μ = .ok v μ') : sasg m (.nm i) sl μ = .nx (sl.set i (some v)) μ' := by
  unfold sasg sthen; rw [h]; rfl
theorem ret_ok {m : M Val} {sl : Sl} {μ μ' : Mu} {v : Val} (h : m sl μ = .ok v μ') : sret m sl μ = .rt v μ' := by
  unfold sret sthen; rw [h]
theorem seq_rt {a b : B} {sl : Sl} {μ μ' : Mu} {v : Val} (h : a sl μ = .rt v μ') : sseq a b sl μ = .rt v μ' := by
  unfold sseq; rw [h]
theorem defB_rt {np nl : Nat} {b : B} {vs : List Val} {μ μ' : Mu} {v : Val} (hl : vs.length = np) (h : b (startS nl vs) μ = .rt v μ') : defB np nl b vs μ = .ok v μ' := by
  unfold defB; rw [if_pos hl, h]

section
variable {sl : Sl} {μ μ1 μ2 : Mu} {a b m : M Val} {r as : M (List Val)} {v u : Val} {vs : List Val} {x : Res Val}
theorem acons_ok (h1 : a sl μ = .ok v μ1) (h2 : r sl μ1 = .ok vs μ2) : acons a r sl μ = .ok (v :: vs) μ2 := by
  unfold acons andThen; rw [h1]; dsimp only; rw [h2]
theorem anil_ok : anil sl μ = .ok [] μ := rfl
theorem mlst_ok (h : as sl μ = .ok vs μ1) (hl : vs.length ≤ LIM) : mlst as sl μ = .ok vs μ1 := by
  unfold mlst andThen; rw [h]; exact if_pos hl
theorem mtup_ok (h : as sl μ = .ok vs μ1) (hl : vs.length ≤ LIM) : mtup as sl μ = .ok (.tup vs) μ1 := by
  unfold mtup andThen; rw [h]; exact if_pos hl
theorem mimm_ok (h : as sl μ = .ok vs μ1) : mimm as sl μ = .ok (.lst vs) μ1 := by
  unfold mimm andThen; rw [h]
theorem mmut_ok (h : as sl μ = .ok vs μ1) : mmut as sl μ = .ok (.ref μ1.length) (μ1 ++ [.lst vs]) := by
  unfold mmut andThen; rw [h]
theorem mcall_ok {g : List Val → Mu → Res Val} (h : as sl μ = .ok vs μ1) : mcall g as sl μ = g vs μ1 := by
  unfold mcall andThen; rw [h]
theorem mcallF_ok {g : List Val → Mu → Res (List Val)} (h : as sl μ = .ok vs μ1) : mcall g as sl μ = g vs μ1 := by
  unfold mcall andThen; rw [h]
theorem mop2_ok {g : Val → Val → Mu → Res Val} (h1 : a sl μ = .ok v μ1) (h2 : b sl μ1 = .ok u μ2) : mop2 g a b sl μ = g v u μ2 := by
  unfold mop2 andThen; rw [h1]; dsimp only; rw [h2]
theorem mop1_ok {g : Val → Mu → Res Val} (h1 : a sl μ = .ok v μ1) : mop1 g a sl μ = g v μ1 := by
  unfold mop1 andThen; rw [h1]
theorem short_ok (hl : vs.length ≤ LIM) : short (.ok vs μ) = .ok vs μ := if_pos hl
theorem mbool_ok {k : Bool} (h : m sl μ = .ok (.bl k) μ1) : mbool m sl μ = .ok k μ1 := by
  unfold mbool andThen; rw [h]
theorem sif_ok {t : M Bool} {p q : B} {k : Bool} (h : t sl μ = .ok k μ1) : sif t p q sl μ = (if k then p else q) sl μ1 := by
  unfold sif sthen; rw [h]
theorem sifT {t : M Bool} {p q : B} (h : t sl μ = .ok true μ1) : sif t p q sl μ = p sl μ1 := by
  rw [sif_ok h]; rfl
theorem sifF {t : M Bool} {p q : B} (h : t sl μ = .ok false μ1) : sif t p q sl μ = q sl μ1 := by
  rw [sif_ok h]; rfl
theorem setI_ok {mv mo mi : M Val} {o i : Val} {μ3 μ4 : Mu} (h1 : mv sl μ = .ok v μ1) (h2 : mo sl μ1 = .ok o μ2) (h3 : mi sl μ2 = .ok i μ3) (h4 : vPut o i v μ3 = some μ4) : ssetI mv mo mi sl μ = .nx sl μ4 := by
  unfold ssetI sthen; rw [h1]; dsimp only; rw [h2]; dsimp only; rw [h3]; dsimp only; rw [h4]
end

/-! ### calls -/
theorem callD_pure {g : Sem} {vs : List Val} {μ μ' : Mu} {v v' : Val} (h0 : ups vs = 0) (h : g vs [] = .ok v μ') (hf : freeze μ' 0 v = some v') : callD g vs μ = .ok v' μ := by
  unfold callD
  rw [h0, if_pos ⟨Nat.zero_le _, rfl⟩]
  show (match g vs [] with
    | .ok v μ' => (match freeze μ' 0 v with
      | some v' => if ((μ'.take 0).all (clO 0)) = true then Res.ok v' (μ'.take 0 ++ μ) else .stuck
      | none => .stuck)
    | .exc e μ' => callX 0 μ μ' e
    | .stuck => .stuck) = _
  rw [h]
  dsimp only
  rw [hf]
  rfl
theorem callD_pureX {g : Sem} {vs : List Val} {μ μ' : Mu} {i : Nat} (h0 : ups vs = 0) (h : g vs [] = .exc ⟨i, []⟩ μ') : callD g vs μ = .exc ⟨i, []⟩ μ := by
  unfold callD
  rw [h0, if_pos ⟨Nat.zero_le _, rfl⟩]
  show (match g vs [] with
    | .ok v μ' => (match freeze μ' 0 v with
      | some v' => if ((μ'.take 0).all (clO 0)) = true then Res.ok v' (μ'.take 0 ++ μ) else .stuck
      | none => .stuck)
    | .exc e μ' => callX 0 μ μ' e
    | .stuck => .stuck) = _
  rw [h]
  rfl
theorem callM_pure {g : Sem} {vs : List Val} {μ μ' : Mu} {m : Nat} {xs xs' : List Val} (h0 : ups vs = 0) (h : g vs [] = .ok (.ref m) μ') (hm : μ'[m]? = some (.lst xs)) (hf : freezes (some m) μ' 0 xs = some xs') : callM g vs μ = .ok (.ref μ.length) (μ ++ [.lst xs']) := by
  unfold callM
  rw [h0, if_pos ⟨Nat.zero_le _, rfl⟩]
  rw [show μ.take 0 = [] from rfl, h]
  dsimp only
  rw [if_pos (Nat.zero_le _), hm]
  dsimp only
  rw [hf]
  rfl
/-- the first thing of the heap is handed on -/
theorem callD_one {g : Sem} {vs : List Val} {o o' : Ob} {rest rest' : Mu} {v v' : Val} (h1 : ups vs = 1) (hc : clO 1 o = true) (h : g vs [o] = .ok v (o' :: rest')) (hf : freeze (o' :: rest') 1 v = some v') (hc' : clO 1 o' = true) : callD g vs (o :: rest) = .ok v' (o' :: rest) := by
  unfold callD
  rw [h1, if_pos ⟨Nat.succ_le_succ (Nat.zero_le _), by show (clO 1 o && true) = true; rw [hc]; rfl⟩]
  show (match g vs [o] with
    | .ok v μ' => (match freeze μ' 1 v with
      | some v' => if ((μ'.take 1).all (clO 1)) = true then Res.ok v' (μ'.take 1 ++ rest) else .stuck
      | none => .stuck)
    | .exc e μ' => callX 1 (o :: rest) μ' e
    | .stuck => .stuck) = _
  rw [h]
  dsimp only
  rw [hf]
  dsimp only
  rw [if_pos (by show (clO 1 o' && true) = true; rw [hc']; rfl)]
  rfl
theorem freeze_cl {k : Nat} {v : Val} {μ : Mu} (h : cl k v = true) : freeze μ k v = some v := fz_cl v h
theorem ups_ints : ∀ l : List Int, ups (l.map .int) = 0
  | [] => rfl
  | x :: l => by show max 0 (ups (l.map .int)) = 0; rw [ups_ints l]; rfl
theorem cls_ints (k : Nat) : ∀ l : List Int, cls k (l.map .int) = true
  | [] => rfl
  | x :: l => by show (true && cls k (l.map .int)) = true; rw [cls_ints k l]; rfl
end G

/-! G17: what a law draws of its script. -/
namespace G
open PySem

def drawStep : B := sseq (sasg (mop2 vMod (mcall vInt (acons (mop2 vAdd2 (mop2 vAdd2 (mop2 vMul2 (mvar 1) (mcst (.int 48271))) (mop2 vMod (mcall vAbs (acons (mcall vInt (acons (mvar 2) (anil))) (anil))) (mcst (.int 65521)))) (mcst (.int 1))) (anil))) (mcst (.int 2147483647))) (.nm 1))
    (sskip)
def drawB : B :=
  sseq (sasg (mcst (.int 7)) (.nm 1))
  (sseq (sfor (iseq (mvar 0)) (.nm 2)
    (drawStep))
  (sseq (sret (mmut (mlst (acons (mimm (mlc (iseq (mvar 0)) (List.map (·.2) ([("cell", 2)] : List (PySem.Str × Nat))) (.nm 2) (tyes) (mcall vAbs (acons (mcall vInt (acons (mvar 2) (anil))) (anil))))) (acons (mop1 vNeg (mcst (.int 1))) (acons (mcst (.int 0)) (acons (mvar 1) (anil))))))))
  (sskip)))
def f_draw : Sem := defB 1 3 drawB
def takeB : B :=
  sseq (sif (mbool (mop2 vEq (mop2 vSub2 (mvar 0) (mcst (.int 2))) (mcst (.int 0))))
    (sseq (ssetI (mop2 vAdd2 (mop2 vSub2 (mvar 0) (mcst (.int 1))) (mcst (.int 1))) (mvar 0) (mcst (.int 1)))
    (sseq (sif (mbool (mop2 vLt (mop2 vSub2 (mvar 0) (mcst (.int 1))) (mcall vLen (acons (mop2 vSub2 (mvar 0) (mcst (.int 0))) (anil)))))
      (sseq (ssetI (mop2 vSub2 (mop2 vSub2 (mvar 0) (mcst (.int 0))) (mop2 vSub2 (mvar 0) (mcst (.int 1)))) (mvar 0) (mcst (.int 2)))
      (sskip))
      (sskip))
    (sseq (sif (mbool (mop2 vEq (mop2 vSub2 (mvar 0) (mcst (.int 2))) (mcst (.int 0))))
      (sseq (ssetI (mop2 vMod (mcall vInt (acons (mop2 vAdd2 (mop2 vMul2 (mop2 vSub2 (mvar 0) (mcst (.int 3))) (mcst (.int 48271))) (mcst (.int 11))) (anil))) (mcst (.int 2147483647))) (mvar 0) (mcst (.int 3)))
      (sseq (ssetI (mop2 vSub2 (mvar 0) (mcst (.int 3))) (mvar 0) (mcst (.int 2)))
      (sskip)))
      (sskip))
    (sskip))))
    (sskip))
  (sseq (sasg (mop2 vMod (mcall vInt (acons (mop2 vSub2 (mvar 0) (mcst (.int 2))) (anil))) (mvar 1)) (.nm 2))
  (sseq (ssetI (mop2 vFdiv (mop2 vSub2 (mvar 0) (mcst (.int 2))) (mvar 1)) (mvar 0) (mcst (.int 2)))
  (sseq (sret (mvar 2))
  (sskip))))
def f_take : Sem := defB 2 3 takeB

/-- a draw as it stands -/
def Dr (xs : List Int) (a b s : Int) : Ob := .lst [.lst (xs.map .int), .int a, .int b, .int s]
structure DrOk (xs : List Int) (a b s : Int) : Prop where
  xs : ∀ x ∈ xs, 0 ≤ x
  a : -1 ≤ a
  b : 0 ≤ b
  s0 : 0 ≤ s
  s1 : s < 2147483647
def IsDr (o : Ob) : Prop := ∃ xs a b s, o = Dr xs a b s ∧ DrOk xs a b s

theorem mul_ok (i : Int) (μ : Mu) : vMul2 (.int i) (.int 48271) μ = .ok (.int (i * 48271)) μ := if_pos (.inr (by decide))
theorem mod_ok (i : Int) (j : Int) (h : j ≠ 0) (μ : Mu) : vMod (.int i) (.int j) μ = .ok (.int (i.fmod j)) μ := if_pos h
theorem fdiv_ok (i : Int) (j : Int) (h : j ≠ 0) (h2 : j.natAbs < 1073741824) (μ : Mu) : vFdiv (.int i) (.int j) μ = .ok (.int (i.fdiv j)) μ := if_pos ⟨h, h2⟩
theorem step_ok (r : Option Val) (s n : Int) (z : Option Val) (μ : Mu) : drawStep [r, some (.int s), some (.int n)] μ = .nx [r, some (.int (((s * 48271 + (if n < 0 then -n else n).fmod 65521) + 1).fmod 2147483647)), some (.int n)] μ := by
  unfold drawStep
  simp only [sseq, sasg, sthen, mcall, andThen, acons, anil, mop2, mvar, mcst, sskip, List.getElem?_cons_succ, List.getElem?_cons_zero, mul_ok]
  rfl
theorem fmod_b (i : Int) : 0 ≤ i.fmod 2147483647 ∧ i.fmod 2147483647 < 2147483647 := ⟨Int.fmod_nonneg_of_pos _ (by decide), Int.fmod_lt_of_pos _ (by decide)⟩
theorem loop_ok (r : Option Val) (μ : Mu) : ∀ (ns : List Int) (s : Int) (z : Option Val), 0 ≤ s → s < 2147483647 → ∃ s' z', 0 ≤ s' ∧ s' < 2147483647 ∧ forL (.nm 2) drawStep (ns.map .int) [r, some (.int s), z] μ = .nx [r, some (.int s'), z'] μ
  | [], s, z, h0, h1 => ⟨s, z, h0, h1, rfl⟩
  | n :: ns, s, z, h0, h1 => by
    obtain ⟨b1, b2⟩ := fmod_b ((s * 48271 + (if n < 0 then -n else n).fmod 65521) + 1)
    obtain ⟨s', z', a1, a2, a3⟩ := loop_ok r μ ns _ (some (.int n)) b1 b2
    refine ⟨s', z', a1, a2, ?_⟩
    rw [← a3]
    show (match bindT (.nm 2) (.int n) [r, some (.int s), z] μ with | none => Flow.stuck | some sl' => match drawStep sl' μ with
          | .nx sl2 μ2 => forL (.nm 2) drawStep (ns.map .int) sl2 μ2
          | .ct sl2 μ2 => forL (.nm 2) drawStep (ns.map .int) sl2 μ2
          | .bk sl2 μ2 => .nx sl2 μ2
          | r => r) = _
    show (match drawStep [r, some (.int s), some (.int n)] μ with
          | .nx sl2 μ2 => forL (.nm 2) drawStep (ns.map .int) sl2 μ2
          | .ct sl2 μ2 => forL (.nm 2) drawStep (ns.map .int) sl2 μ2
          | .bk sl2 μ2 => .nx sl2 μ2
          | r => r) = _
    rw [step_ok r s n z μ]
def absI (n : Int) : Int := if n < 0 then -n else n
theorem absI_nn (n : Int) : 0 ≤ absI n := by unfold absI; split <;> omega
theorem lc_abs (sl : Sl) (r : Val) (s : Option Val) (z : Option Val) (μ : Mu) : ∀ ns : List Int, lcL [2] (.nm 2) tyes (mcall vAbs (acons (mcall vInt (acons (mvar 2) (anil))) (anil))) (ns.map .int) [some r, s, z] μ = .ok ((ns.map absI).map .int) μ
  | [] => rfl
  | n :: ns => by
    have ih := lc_abs sl r s z μ ns
    show (match lcL [2] (.nm 2) tyes (mcall vAbs (acons (mcall vInt (acons (mvar 2) (anil))) (anil))) (ns.map .int) [some r, s, z] μ with
      | .ok vs μ3 => Res.ok (Val.int (absI n) :: vs) μ3
      | _ => .stuck) = _
    rw [ih]
    rfl
theorem draw_ok (ns : List Int) (hl : ns.length ≤ 63) : ∃ o, IsDr o ∧ f_draw [.rol (ns.map .int)] [] = .ok (.ref 0) [o] := by
  obtain ⟨s, z, h0, h1, hloop⟩ := loop_ok (some (.rol (ns.map .int))) [] ns 7 none (by decide) (by decide)
  refine ⟨Dr (ns.map absI) (-1) 0 s, ⟨_, _, _, _, rfl, fun x hx => ?_, by decide, by decide, h0, h1⟩, ?_⟩
  · obtain ⟨n, _, rfl⟩ := List.mem_map.mp hx
    exact absI_nn n
  · refine defB_rt rfl ?_
    show drawB [some (.rol (ns.map .int)), none, none] [] = _
    unfold drawB
    rw [seq_nx (asg_ok (v := .int 7) rfl)]
    show sseq (sfor (iseq (mvar 0)) (.nm 2) (drawStep)) _ [some (.rol (ns.map .int)), some (.int 7), none] [] = _
    have e : sfor (iseq (mvar 0)) (.nm 2) drawStep [some (.rol (ns.map .int)), some (.int 7), none] [] = .nx [some (.rol (ns.map .int)), some (.int s), z] [] := hloop
    rw [seq_nx e]
    refine seq_rt (ret_ok ?_)
    have e2 : mlc (iseq (mvar 0)) (List.map (·.2) ([("cell", 2)] : List (PySem.Str × Nat))) (.nm 2) (tyes) (mcall vAbs (acons (mcall vInt (acons (mvar 2) (anil))) (anil))) [some (.rol (ns.map .int)), some (.int s), z] [] = .ok ((ns.map absI).map .int) [] := by
      show short (lcL [2] (.nm 2) tyes (mcall vAbs (acons (mcall vInt (acons (mvar 2) (anil))) (anil))) (ns.map .int) [some (.rol (ns.map .int)), some (.int s), z] []) = _
      rw [lc_abs [] _ _ _ _ ns]
      exact short_ok (by simp only [List.length_map]; unfold LIM; omega)
    exact mmut_ok (vs := [.lst ((ns.map absI).map .int), .int (-1), .int 0, .int s]) (μ1 := []) (mlst_ok (acons_ok (mimm_ok e2) (acons_ok (μ1 := []) rfl (acons_ok (μ1 := []) rfl (acons_ok (μ1 := []) rfl rfl)))) (by show 4 ≤ LIM; unfold LIM; omega))
theorem Dr_cl (k : Nat) (xs : List Int) (a b s : Int) : clO k (Dr xs a b s) = true := by
  show (cls k (xs.map .int) && true) = true
  rw [cls_ints]; rfl
theorem IsDr.cl {o : Ob} (h : IsDr o) (k : Nat) : clO k o = true := by
  obtain ⟨xs, a, b, s, rfl, _⟩ := h
  exact Dr_cl k xs a b s
theorem drawM_ok (ns : List Int) (hl : ns.length ≤ 63) : ∃ o, IsDr o ∧ callM f_draw [.rol (ns.map .int)] [] = .ok (.ref 0) [o] := by
  obtain ⟨o, ⟨xs, a, b, s, e, h⟩, h2⟩ := draw_ok ns hl
  subst e
  refine ⟨_, ⟨xs, a, b, s, rfl, h⟩, ?_⟩
  refine callM_pure (by show max (ups (ns.map .int)) 0 = 0; rw [ups_ints]; rfl) h2 (xs := [.lst (xs.map .int), .int a, .int b, .int s]) rfl ?_
  exact fzs_cl _ (Dr_cl 0 xs a b s)

/-! ### take -/
theorem dr0 (xs : List Int) (a b s : Int) (r : Mu) : vSub2 (.ref 0) (.int 0) (Dr xs a b s :: r) = .ok (.lst (xs.map .int)) (Dr xs a b s :: r) := rfl
theorem dr1 (xs : List Int) (a b s : Int) (r : Mu) : vSub2 (.ref 0) (.int 1) (Dr xs a b s :: r) = .ok (.int a) (Dr xs a b s :: r) := rfl
theorem dr2 (xs : List Int) (a b s : Int) (r : Mu) : vSub2 (.ref 0) (.int 2) (Dr xs a b s :: r) = .ok (.int b) (Dr xs a b s :: r) := rfl
theorem dr3 (xs : List Int) (a b s : Int) (r : Mu) : vSub2 (.ref 0) (.int 3) (Dr xs a b s :: r) = .ok (.int s) (Dr xs a b s :: r) := rfl
theorem pr1 (xs : List Int) (a b s i : Int) (r : Mu) : vPut (.ref 0) (.int 1) (.int i) (Dr xs a b s :: r) = some (Dr xs i b s :: r) := rfl
theorem pr2 (xs : List Int) (a b s i : Int) (r : Mu) : vPut (.ref 0) (.int 2) (.int i) (Dr xs a b s :: r) = some (Dr xs a i s :: r) := rfl
theorem pr3 (xs : List Int) (a b s i : Int) (r : Mu) : vPut (.ref 0) (.int 3) (.int i) (Dr xs a b s :: r) = some (Dr xs a b i :: r) := rfl
theorem eq_int (i j : Int) (μ : Mu) : vEq (.int i) (.int j) μ = .ok (.bl (i == j)) μ := rfl
theorem lt_int (i j : Int) (μ : Mu) : vLt (.int i) (.int j) μ = .ok (.bl (decide (i < j))) μ := rfl
theorem atI_int {l : List Int} {i : Int} (h0 : 0 ≤ i) (h1 : i < l.length) : ∃ x, x ∈ l ∧ L2.atI (l.map Val.int) i = some (.int x) := by
  have hj : i.toNat < l.length := by omega
  refine ⟨l[i.toNat], List.getElem_mem hj, ?_⟩
  have := L2.atI_nat (j := i.toNat) (v := Val.int l[i.toNat]) (by rw [List.getElem?_map, List.getElem?_eq_getElem hj]; rfl)
  rwa [Int.toNat_of_nonneg h0] at this
theorem ix_lst (l : List Val) (i : Int) (v : Val) (μ : Mu) (h : L2.atI l i = some v) : vSub2 (.lst l) (.int i) μ = .ok v μ := by
  show (match L2.atI l i with | some v => Res.ok v μ | none => .stuck) = _
  rw [h]
section
variable {xs : List Int} {a b s : Int} (sl1 sl2 : Option Val)
abbrev tk2 : B := sif (mbool (mop2 vLt (mop2 vSub2 (mvar 0) (mcst (.int 1))) (mcall vLen (acons (mop2 vSub2 (mvar 0) (mcst (.int 0))) (anil)))))
      (sseq (ssetI (mop2 vSub2 (mop2 vSub2 (mvar 0) (mcst (.int 0))) (mop2 vSub2 (mvar 0) (mcst (.int 1)))) (mvar 0) (mcst (.int 2)))
      (sskip))
      (sskip)
theorem tk2_ok (h : DrOk xs a b s) (ha : 0 ≤ a) : ∃ b', DrOk xs a b' s ∧ tk2 [some (.ref 0), sl1, sl2] [Dr xs a b s] = .nx [some (.ref 0), sl1, sl2] [Dr xs a b' s] := by
  have e1 : mbool (mop2 vLt (mop2 vSub2 (mvar 0) (mcst (.int 1))) (mcall vLen (acons (mop2 vSub2 (mvar 0) (mcst (.int 0))) (anil)))) [some (.ref 0), sl1, sl2] [Dr xs a b s] = .ok (decide (a < ((xs.map Val.int).length : Int))) [Dr xs a b s] := rfl
  by_cases hl : a < (xs.length : Int)
  · obtain ⟨x, hx, hx2⟩ := atI_int ha hl
    refine ⟨x, ⟨h.xs, h.a, h.xs x hx, h.s0, h.s1⟩, ?_⟩
    refine (sif_ok e1).trans ?_
    rw [decide_eq_true (by simpa using hl)]
    show sseq _ sskip _ _ = _
    refine (seq_nx (setI_ok (v := .int x) (o := .ref 0) (i := .int 2) (μ1 := [Dr xs a b s]) (mop2_ok (v := .lst (xs.map .int)) (u := .int a) (μ1 := [Dr xs a b s]) rfl rfl |>.trans (ix_lst _ _ _ _ hx2)) rfl rfl (pr2 xs a b s x []))).trans rfl
  · refine ⟨b, h, ?_⟩
    refine (sif_ok e1).trans ?_
    rw [decide_eq_false (by simpa using hl)]
    rfl
abbrev tk3 : B := sif (mbool (mop2 vEq (mop2 vSub2 (mvar 0) (mcst (.int 2))) (mcst (.int 0))))
      (sseq (ssetI (mop2 vMod (mcall vInt (acons (mop2 vAdd2 (mop2 vMul2 (mop2 vSub2 (mvar 0) (mcst (.int 3))) (mcst (.int 48271))) (mcst (.int 11))) (anil))) (mcst (.int 2147483647))) (mvar 0) (mcst (.int 3)))
      (sseq (ssetI (mop2 vSub2 (mvar 0) (mcst (.int 3))) (mvar 0) (mcst (.int 2)))
      (sskip)))
      (sskip)
theorem tk3_ok (h : DrOk xs a b s) : ∃ b' s', DrOk xs a b' s' ∧ tk3 [some (.ref 0), sl1, sl2] [Dr xs a b s] = .nx [some (.ref 0), sl1, sl2] [Dr xs a b' s'] := by
  have e1 : mbool (mop2 vEq (mop2 vSub2 (mvar 0) (mcst (.int 2))) (mcst (.int 0))) [some (.ref 0), sl1, sl2] [Dr xs a b s] = .ok (b == 0) [Dr xs a b s] := rfl
  cases hb : (b == 0) with
  | false => exact ⟨b, s, h, (sif_ok e1).trans (by rw [hb]; rfl)⟩
  | true =>
    obtain ⟨f0, f1⟩ := fmod_b (s * 48271 + 11)
    refine ⟨_, _, ⟨h.xs, h.a, f0, f0, f1⟩, ?_⟩
    refine (sif_ok e1).trans ?_
    rw [hb]
    show sseq _ _ _ _ = _
    have e2 : mop2 vMod (mcall vInt (acons (mop2 vAdd2 (mop2 vMul2 (mop2 vSub2 (mvar 0) (mcst (.int 3))) (mcst (.int 48271))) (mcst (.int 11))) (anil))) (mcst (.int 2147483647)) [some (.ref 0), sl1, sl2] [Dr xs a b s] = .ok (.int ((s * 48271 + 11).fmod 2147483647)) [Dr xs a b s] := by
      refine (mop2_ok (v := .int (s * 48271 + 11)) (u := .int 2147483647) (μ1 := [Dr xs a b s]) ?_ rfl).trans (mod_ok _ _ (by decide) _)
      refine (mcall_ok (vs := [.int (s * 48271 + 11)]) (μ1 := [Dr xs a b s]) (acons_ok ?_ rfl)).trans rfl
      refine (mop2_ok (v := .int (s * 48271)) (u := .int 11) (μ1 := [Dr xs a b s]) ?_ rfl).trans rfl
      exact (mop2_ok (v := .int s) (u := .int 48271) (μ1 := [Dr xs a b s]) rfl rfl).trans (mul_ok _ _)
    rw [seq_nx (setI_ok e2 rfl rfl (pr3 xs a b s _ []))]
    refine (seq_nx (setI_ok (v := .int ((s * 48271 + 11).fmod 2147483647)) (μ1 := [Dr xs a b ((s * 48271 + 11).fmod 2147483647)]) rfl rfl rfl (pr2 xs a b _ _ []))).trans rfl
end
theorem take_ok {xs : List Int} {a b s m : Int} (h : DrOk xs a b s) (h0 : 0 < m) (h1 : m < 1073741824) : ∃ r o, 0 ≤ r ∧ r < m ∧ IsDr o ∧ f_take [.ref 0, .int m] [Dr xs a b s] = .ok (.int r) [o] := by
  have e1 : mbool (mop2 vEq (mop2 vSub2 (mvar 0) (mcst (.int 2))) (mcst (.int 0))) [some (.ref 0), some (.int m), none] [Dr xs a b s] = .ok (b == 0) [Dr xs a b s] := rfl
  have part : ∃ a' b' s', DrOk xs a' b' s' ∧ sif (mbool (mop2 vEq (mop2 vSub2 (mvar 0) (mcst (.int 2))) (mcst (.int 0))))
    (sseq (ssetI (mop2 vAdd2 (mop2 vSub2 (mvar 0) (mcst (.int 1))) (mcst (.int 1))) (mvar 0) (mcst (.int 1))) (sseq tk2 (sseq tk3 (sskip)))) (sskip) [some (.ref 0), some (.int m), none] [Dr xs a b s] = .nx [some (.ref 0), some (.int m), none] [Dr xs a' b' s'] := by
    cases hb : (b == 0) with
    | false => exact ⟨a, b, s, h, (sif_ok e1).trans (by rw [hb]; rfl)⟩
    | true =>
      have ha := h.a
      have h' : DrOk xs (a + 1) b s := ⟨h.xs, by omega, h.b, h.s0, h.s1⟩
      obtain ⟨b2, h2, e2⟩ := tk2_ok (some (.int m)) none h' (by omega)
      obtain ⟨b3, s3, h3, e3⟩ := tk3_ok (some (.int m)) none h2
      refine ⟨a + 1, b3, s3, h3, ?_⟩
      refine (sif_ok e1).trans ?_
      rw [hb]
      have e4 : ssetI (mop2 vAdd2 (mop2 vSub2 (mvar 0) (mcst (.int 1))) (mcst (.int 1))) (mvar 0) (mcst (.int 1)) [some (.ref 0), some (.int m), none] [Dr xs a b s] = .nx [some (.ref 0), some (.int m), none] [Dr xs (a + 1) b s] := rfl
      exact (seq_nx e4).trans ((seq_nx e2).trans ((seq_nx e3).trans rfl))
  obtain ⟨a', b', s', h', e'⟩ := part
  have hb' := h'.b
  refine ⟨b'.fmod m, Dr xs a' (b'.fdiv m) s', Int.fmod_nonneg_of_pos _ h0, Int.fmod_lt_of_pos _ h0, ⟨_, _, _, _, rfl, h'.xs, h'.a, ?_, h'.s0, h'.s1⟩, ?_⟩
  · rw [Int.fdiv_eq_ediv_of_nonneg _ (by omega)]
    exact Int.ediv_nonneg hb' (by omega)
  refine defB_rt rfl ?_
  show takeB [some (.ref 0), some (.int m), none] [Dr xs a b s] = _
  unfold takeB
  rw [seq_nx e']
  have e5 : mop2 vMod (mcall vInt (acons (mop2 vSub2 (mvar 0) (mcst (.int 2))) (anil))) (mvar 1) [some (.ref 0), some (.int m), none] [Dr xs a' b' s'] = .ok (.int (b'.fmod m)) [Dr xs a' b' s'] := by
    refine (mop2_ok (v := .int b') (u := .int m) (μ1 := [Dr xs a' b' s']) rfl rfl).trans (mod_ok _ _ (by omega) _)
  rw [seq_nx (asg_ok e5)]
  show sseq _ _ [some (.ref 0), some (.int m), some (.int (b'.fmod m))] _ = _
  have e6 : mop2 vFdiv (mop2 vSub2 (mvar 0) (mcst (.int 2))) (mvar 1) [some (.ref 0), some (.int m), some (.int (b'.fmod m))] [Dr xs a' b' s'] = .ok (.int (b'.fdiv m)) [Dr xs a' b' s'] := by
    refine (mop2_ok (v := .int b') (u := .int m) (μ1 := [Dr xs a' b' s']) rfl rfl).trans (fdiv_ok _ _ (by omega) (by omega) _)
  rw [seq_nx (setI_ok e6 rfl rfl (pr2 xs a' b' s' _ []))]
  exact seq_rt (ret_ok rfl)
/-- the n-th of m, as a caller sees it -/
theorem takeD_ok {o : Ob} {rest : Mu} {m : Int} (h : IsDr o) (h0 : 0 < m) (h1 : m < 1073741824) : ∃ (r : Int) (o' : Ob), 0 ≤ r ∧ r < m ∧ IsDr o' ∧ callD f_take [.ref 0, .int m] (o :: rest) = .ok (.int r) (o' :: rest) := by
  obtain ⟨xs, a, b, s, rfl, h⟩ := h
  obtain ⟨r, o', r0, r1, ho', e⟩ := take_ok h h0 h1
  exact ⟨r, o', r0, r1, ho', callD_one rfl (Dr_cl 1 xs a b s) e (freeze_cl rfl) (ho'.cl 1)⟩
/-- one of a list -/
theorem pick_ok {L : List Val} {r : Int} (h0 : 0 ≤ r) (h1 : r < (L.length : Int)) (μ : Mu) : ∃ v, v ∈ L ∧ vSub2 (.lst L) (.int r) μ = .ok v μ := by
  have hj : r.toNat < L.length := by omega
  refine ⟨L[r.toNat], List.getElem_mem hj, ix_lst _ _ _ _ ?_⟩
  have := L2.atI_nat (j := r.toNat) (v := L[r.toNat]) (List.getElem?_eq_getElem hj)
  rwa [Int.toNat_of_nonneg h0] at this
end G

/-! G18: x[::-1], texts split, calls of values, sorted of a tuple. -/
namespace G
open PySem PySem.Spec PyProof.Rows L2

/-! ### a list backwards -/
def vRev (x : Val) (μ : Mu) : Res (List Val) := match look μ x with
  | .lst xs => .ok xs.reverse μ
  | _ => .stuck
def mop1F (g : Val → Mu → Res (List Val)) (a : M Val) : M (List Val) := andThen a fun x => fun _ μ => g x μ
section
variable {c : Ct} {W : WX} {X : Cx} {a : Expr} {ma : M Val} {p1 p2 p3 pos : Pos} {j : Nat}
theorem gf_rev (ha : PE X a (TE' c W ma)) (hK : X.K = c.K := by rfl) (ht : ∀ o r, letTemporaryGo a o r = pure () := by intro _ _; rfl) : PE X (.Subscript a (.Slice none none (some (.UnaryOp .USub (.Constant (.int 1) j p1) p2)) p3) pos) (TF' c W (mop1F vRev ma)) := by
  refine ⟨fun pins s σ H Q I ⟨w, sl, e, sm, rs, h⟩ => ?_⟩
  subst e
  have h : TE' c W ma σ w.H fun x H1 => ∃ w1 v, w1.H = H1 ∧ Sim c w1 ∧ RV c w1 v x ∧ PostF c w1 (vRev v w1.μ) Q fun cls d H' => W cls d σ H' := by
    refine te_then (R := fun w r => PostF c w r Q fun cls d H' => W cls d σ H') sm rs excF_post (fun z => z) h fun v w1 e1 s1 rs1 h1 x rx => ⟨w1, v, rfl, s1, rx, h1.ext e1⟩
  refine wpAny_Subscript_Slice_step slot_list_getitem.lookup (thn (ha.run pins s σ w.H _ I h) fun u s1 ⟨x, H1, I1, r1, w1, v, e, s1', rx, q1⟩ => ?_) ht
  subst e
  refine wpAny_Slice ?_
  rw [evalPart_none]
  refine wpAny_pure (wpAny_pure ?_)
  rw [evalPart_some]
  refine thn ((pe_un (X := X) un_neg pe_int).run pins s1 σ w1.H (fun y H2 => y = .int (-1) ∧ H2 = w1.H) I1 ⟨1, rfl, rfl, rfl⟩) fun st s2 ⟨y, H2, I2, r2, e1, e2⟩ => ?_
  subst e1 e2
  obtain ⟨t, rfl⟩ := r2
  unfold vRev at q1
  split at q1
  · rename_i xs el
    obtain ⟨b, ys, rfl, f2, f3⟩ := look_lst s1' rx el
    rw [← hK] at f2
    cases r1
    have I3 : Inv X pins σ w1.H { s2 with heap := s2.heap.push { cls := .type "slice", data := .fields #[.none, .none, .int (-1) t] } } := I2.kept (t' := s2.toks) fun b ob q => Heap.get?_push_of_some _ q
    obtain ⟨its, r, pl, hz⟩ := I3.list f2
    refine ⟨pl.isList.typeIs, ?_⟩
    refine wpAny_getItem_list_slice pl.isList (Heap.IsSliceOf.new ..) .none .none (.int (-1) t) (by decide) ?_ (by rw [List.size_toArray, ← r.length]; exact hz)
    rw [PySem.W.krv_pick]
    refine ⟨.ref _, _, I3.laid (t' := s2.toks) (o := .lst ys.reverse) (fun b ob q => Heap.get?_push_of_some _ q) (Nat.le_refl _) ⟨?_, its.reverse, 0, ?_, Heap.get?_push_size _ rfl⟩, rfl, q1.new s1' f3.reverse (I3.hok.fresh (Nat.le_refl _))⟩
    · rw [List.length_reverse]; exact hz
    · exact r.reverse
  · exact q1.elim
end

/-! ### split -/
def vSplit (x : Val) (vs : List Val) (μ : Mu) : Res (List Val) := match x, vs with
  | .str a, [.str b] => if (b.length == 0) = false ∧ a.length + 2 ≤ LIM then .ok ((Txt.split a b).map .str) μ else .stuck
  | _, _ => .stuck
theorem nx_Split : NoExcM vSplit := fun a vs μ e μ' h => by
  unfold vSplit at h
  split at h
  · split at h <;> cases h
  · cases h
theorem RVs_strs {c : Ct} {w : Wd} : ∀ xs : List Str, RVs c w (xs.map Val.str) (xs.map V.str)
  | [] => rfl
  | n :: ns => ⟨_, _, rfl, rfl, RVs_strs ns⟩
section
variable {c : Ct} {X : Cx}
theorem mf_Split : MtF c X "str.split" vSplit := by
  intro pins s σ H x xs v us Q I rx rv ⟨w, a, vs, e, sm, r1, r2, h⟩
  subst e
  unfold vSplit at h
  split at h
  · rename_i z b
    split at h
    · rename_i hl
      obtain ⟨y, rfl, ry⟩ := r2.one
      refine mt_split pins s σ w.H _ _ v us Q I rx rv ⟨z, b, r1, by rw [show y = V.str b from ry], hl.1, by rw [← LIM_eq]; exact hl.2, fun p n => h.new sm (RVs_strs _) n⟩
    · exact h.elim
  · exact h.elim
end

/-! ### a call of a value -/
/-- defs as values: which number stands for what -/
structure FnTab (c : Ct) (P : Program) (w : World) (mg : Str → Option Value) (base : Heap) (L : Nat) (tbl : Nat → Option Sem) : Prop where
  ex : ∀ k g, tbl k = some g → ∃ (a : Addr) (fd : FuncData) (ps : List Str) (l : Nat), c.fa k = some a ∧ l ≤ L ∧ FnOk P w c.K mg base (L2.CX P w) l a fd ps (spG c g) ∧ PySem.W.keepIn c.K (.ref a) = true ∧ Binds c.K fd ps []
def mcallV (tbl : Nat → Option Sem) (mf : M Val) (as : M (List Val)) : M Val := andThen mf fun f => match f with
  | .fn k => (match tbl k with
    | some g => mcall (callD g) as
    | none => fun _ _ => .stuck)
  | _ => fun _ _ => .stuck
section
variable {c : Ct} {W : WX} {X : Cx} {ee e : Expr} {es : List Expr} {mf : M Val} {ma : M (List Val)} {pos : Pos} {L : Nat} {tbl : Nat → Option Sem}
theorem ge_callV (F : FnTab c X.prog X.w X.mg X.base L tbl) (hr : Room L X.A) (tk : Takes X W) (he : PE X ee (TE' c W mf)) (ha : PA X (e :: es) (TA' c W ma)) (hK : X.K = c.K := by rfl)
    (heq : eval (.Call ee (e :: es) [] pos) X.env = (do callWith pos (← eval ee X.env) [] (backTo pos (starEach (e :: es) X.env)) (backToKw pos (keywordEach [] X.env))) := by rfl)
    (hs : starEach (e :: es) X.env = (false, eval e X.env) :: starEach es X.env := by rfl) (hpl : (backTo pos (starEach es X.env)).any (·.1) = false := by rfl) :
    PE X (.Call ee (e :: es) [] pos) (TE' c W (mcallV tbl mf ma)) := by
  refine ⟨fun pins s σ H Q I ⟨w, sl, e0, sm, rs, h⟩ => ?_⟩
  subst e0
  rw [heq]
  have h : TE' c W mf σ w.H fun x H1 => ∃ (k : Nat) (g : Sem) (a : Addr), tbl k = some g ∧ c.fa k = some a ∧ x = .ref a ∧ TE' c W (mcall (callD g) ma) σ H1 Q := by
    refine te_then (R := fun w r => Post c w r Q fun cls d H' => W cls d σ H') sm rs exc_post (fun z => z) h fun v w1 e1 s1 rs1 h1 x rx => ?_
    cases v with
    | fn k =>
      dsimp only at h1
      cases q : tbl k with
      | none => rw [q] at h1; exact h1.elim
      | some g =>
        rw [q] at h1
        obtain ⟨a, e2, e3⟩ := rx
        exact ⟨k, g, a, q, e3, e2, w1, sl, rfl, s1, rs1, h1.ext e1⟩
    | _ => exact h1.elim
  refine wpAny_bind (thn (he.run pins s σ w.H _ I h) fun u s1 ⟨x, H1, I1, r1, k, g, a, e1, e2, e3, h2⟩ => ?_)
  subst e3
  cases r1
  obtain ⟨a', fd, ps, l, f1, f2, f3, f4, f5⟩ := F.ex k g e1
  rw [e2] at f1
  cases f1
  rw [← hK] at f3 f4 f5
  refine PySem.W.callWith_K (h₀ := X.base) I1.ok.mod.kin f4 (thn (ha.run pos pins s1 σ _ _ I1 (liftD h2)) fun us s2 ⟨vs, H2, I2, r, q⟩ => ⟨I2.kIn, ?_⟩) hs hpl
  exact run_fnS f3 (hr.mono f2) f5 (passAt tk σ) I2 r q
/-- a def's name as a value -/
structure FnT (c : Ct) (mg : Str → Option Value) (x : Str) (k : Nat) : Prop where
  ex : ∃ a, mg x = some (.ref a) ∧ c.fa k = some a
theorem fn_ {x : Str} {k : Nat} (T : FnT c X.mg x k) (hg : Gl X x := by rfl) (hdb : (x == ("__debug__" : Str)) = false := by decide) : PE X (.Name x pos) (TE' c W (mcst (.fn k))) := by
  obtain ⟨a, h1, h2⟩ := T.ex
  exact ge_glob h1 (y := .ref a) rfl (fun _ => ⟨a, rfl, h2⟩) hg hdb
end
end G

/-! G19: more reasoning about programs. -/
namespace G
open PySem

/-- a call that hands on nothing that changes, whatever the heap -/
theorem callD_frame {g : Sem} {vs : List Val} (h0 : ups vs = 0) (μ : Mu) : callD g vs μ = match callD g vs [] with
  | .ok v _ => .ok v μ
  | .exc e _ => .exc e μ
  | .stuck => .stuck := by
  unfold callD
  rw [h0, if_pos ⟨Nat.zero_le _, rfl⟩, if_pos ⟨Nat.zero_le _, rfl⟩]
  show (match g vs [] with
    | .ok v μ' => (match freeze μ' 0 v with
      | some v' => if ((μ'.take 0).all (clO 0)) = true then Res.ok v' (μ'.take 0 ++ μ) else .stuck
      | none => .stuck)
    | .exc e μ' => callX 0 μ μ' e
    | .stuck => .stuck) = match (match g vs [] with
    | .ok v μ' => (match freeze μ' 0 v with
      | some v' => if ((μ'.take 0).all (clO 0)) = true then Res.ok v' (μ'.take 0 ++ []) else .stuck
      | none => .stuck)
    | .exc e μ' => callX 0 [] μ' e
    | .stuck => .stuck) with
  | .ok v _ => .ok v μ
  | .exc e _ => .exc e μ
  | .stuck => .stuck
  cases g vs [] with
  | stuck => rfl
  | ok v μ' =>
    dsimp only
    cases freeze μ' 0 v with
    | none => rfl
    | some v' => rfl
  | exc e μ' =>
    dsimp only
    unfold callX
    cases frzE μ' 0 e with
    | none => rfl
    | some e' => rfl
theorem callD_of {g : Sem} {vs : List Val} {v : Val} {μ0 : Mu} (h0 : ups vs = 0) (h : callD g vs [] = .ok v μ0) (μ : Mu) : callD g vs μ = .ok v μ := by
  rw [callD_frame h0 μ, h]
theorem callD_ofX {g : Sem} {vs : List Val} {e : Exn} {μ0 : Mu} (h0 : ups vs = 0) (h : callD g vs [] = .exc e μ0) (μ : Mu) : callD g vs μ = .exc e μ := by
  rw [callD_frame h0 μ, h]
/-- a result that is a value, without a heap -/
def Res.val : Res Val → Option Val
  | .ok v _ => some v
  | _ => none
theorem Res.of_val {r : Res Val} {v : Val} (h : r.val = some v) : ∃ μ, r = .ok v μ := by
  cases r with
  | ok u μ => cases h; exact ⟨μ, rfl⟩
  | exc _ _ => cases h
  | stuck => cases h
section
variable {sl : Sl} {μ μ1 μ2 : Mu} {a b m : M Val} {r as : M (List Val)} {v u : Val} {vs : List Val} {x : Res Val}
theorem drop_ok (h : m sl μ = .ok v μ1) : sdrop m sl μ = .nx sl μ1 := by
  unfold sdrop sthen; rw [h]
theorem bl_truth {k : Bool} : vtruth μ (.bl k) = some k := by cases k <;> rfl
theorem mtruth_bl {k : Bool} (h : m sl μ = .ok (.bl k) μ1) : mtruth m sl μ = .ok k μ1 := by
  unfold mtruth andThen; rw [h]; dsimp only; rw [bl_truth]
theorem tnot_ok {t : M Bool} {k : Bool} (h : t sl μ = .ok k μ1) : tnot t sl μ = .ok (!k) μ1 := by
  unfold tnot andThen; rw [h]
end
/-- a comprehension over things that stand, test and item without effect -/
theorem lcL_pure {own : List Nat} {t : Tgt} {cond : M Bool} {elt : M Val} {sl : Sl} {μ : Mu} (s : Val → Sl) (p : Val → Bool) (f : Val → Val) : ∀ (xs : List Val), (∀ x ∈ xs, bindT t x (wipeS sl own) μ = some (s x)) → (∀ x ∈ xs, cond (s x) μ = .ok (p x) μ) → (∀ x ∈ xs, p x = true → elt (s x) μ = .ok (f x) μ) →
    lcL own t cond elt xs sl μ = .ok ((xs.filter p).map f) μ
  | [], _, _, _ => rfl
  | x :: xs, hb, hc, he => by
    have ih := lcL_pure (own := own) (t := t) (cond := cond) (elt := elt) (sl := sl) (μ := μ) s p f xs (fun y hy => hb y (List.mem_cons_of_mem _ hy)) (fun y hy => hc y (List.mem_cons_of_mem _ hy)) fun y hy => he y (List.mem_cons_of_mem _ hy)
    unfold lcL
    rw [hb x List.mem_cons_self]
    dsimp only
    rw [hc x List.mem_cons_self]
    cases hp : p x with
    | false =>
      dsimp only
      rw [ih, List.filter_cons_of_neg (by rw [hp]; exact Bool.false_ne_true)]
    | true =>
      dsimp only
      rw [he x List.mem_cons_self hp]
      dsimp only
      rw [ih, List.filter_cons_of_pos hp]
      rfl
theorem mlc_vals {src : M Src} {own : List Nat} {t : Tgt} {cond : M Bool} {elt : M Val} {sl : Sl} {μ μ1 : Mu} {xs vs : List Val} (h1 : src sl μ = .ok (.vals xs) μ1) (h2 : lcL own t cond elt xs sl μ1 = .ok vs μ1) (hl : vs.length ≤ LIM) : mlc src own t cond elt sl μ = .ok vs μ1 := by
  unfold mlc andThen
  rw [h1]
  dsimp only
  rw [h2]
  exact short_ok hl
/-- a for whose turns all go on -/
theorem forL_inv {t : Tgt} {body : B} (P : Sl → Mu → Prop) : ∀ (xs : List Val) (sl : Sl) (μ : Mu), P sl μ → (∀ x ∈ xs, ∀ sl μ, P sl μ → ∃ sl0, bindT t x sl μ = some sl0 ∧ ∃ sl' μ', (body sl0 μ = .nx sl' μ' ∨ body sl0 μ = .ct sl' μ') ∧ P sl' μ') →
    ∃ sl' μ', forL t body xs sl μ = .nx sl' μ' ∧ P sl' μ'
  | [], sl, μ, h, _ => ⟨sl, μ, rfl, h⟩
  | x :: xs, sl, μ, h, hb => by
    obtain ⟨sl0, e0, sl1, μ1, e1, h1⟩ := hb x List.mem_cons_self sl μ h
    obtain ⟨sl2, μ2, e2, h2⟩ := forL_inv P xs sl1 μ1 h1 fun y hy => hb y (List.mem_cons_of_mem _ hy)
    refine ⟨sl2, μ2, ?_, h2⟩
    unfold forL
    rw [e0]
    dsimp only
    rcases e1 with e1 | e1 <;> rw [e1] <;> exact e2
theorem sfor_vals {src : M Src} {t : Tgt} {body : B} {sl : Sl} {μ μ1 : Mu} {xs : List Val} (h : src sl μ = .ok (.vals xs) μ1) : sfor src t body sl μ = forL t body xs sl μ1 := by
  unfold sfor sthen; rw [h]
theorem iseq_lst {m : M Val} {sl : Sl} {μ μ1 : Mu} {xs : List Val} (h : m sl μ = .ok (.lst xs) μ1) : iseq m sl μ = .ok (.vals xs) μ1 := by
  unfold iseq andThen; rw [h]; rfl
theorem iseq_tup {m : M Val} {sl : Sl} {μ μ1 : Mu} {xs : List Val} (h : m sl μ = .ok (.tup xs) μ1) : iseq m sl μ = .ok (.vals xs) μ1 := by
  unfold iseq andThen; rw [h]; rfl
end G

/-! G20: enumerate and zip. -/
namespace Raw
open PySem PySem.Spec
open Sem (wp)
open AutoSeq1 (wpAny_loadPart')
theorem meets_enumerate_newT (l : Addr) (items : Array Value) (n : Nat) (dct : Option Addr) (sl : Array (Option Value)) :
    Meets (Builtin.«enumerate.__new__» ⟨[.type "enumerate", .ref l], []⟩) (fun _ R s => s.heap.get? l = some { cls := .type "tuple", dict := dct, data := .seq items n, slots := sl } ∧
      R (.ok (.ret (.ref (s.heap.push { cls := .type "tuple_iterator", data := .fields #[.ref l, .int 0 0] }).objs.size)))
        { s with heap := (s.heap.push { cls := .type "tuple_iterator", data := .fields #[.ref l, .int 0 0] }).push { cls := .type "enumerate", data := .fields #[.none, .bool false, .ref s.heap.objs.size, rawInt 0, .none, .none] } }) :=
  .of_wp fun prog w A R s h => by
    obtain ⟨hp, g, d, tk, os⟩ := s; obtain ⟨hl, h⟩ := h
    have hsub := sub_enumerate
    have hL : Heap.IsTuple (Shared.heap ⟨hp, g, d, tk, os⟩) l items := ⟨_, hl, rfl, n, rfl⟩
    wp_walk using wpAny_loadPart' hl
    refine wpAny_stack_any fun st => wpAny_pure ?_
    split
    · rename_i c _ _ _ _ _
      cases (c == Value.type "enumerate")
      · wp_walk using wpAny_loadPart' hl, wpAny_pyIter_tuple hL
        exact ⟨_, rfl, h⟩
      · wp_walk using wpAny_loadPart' hl, wpAny_pyIter_tuple hL
        exact ⟨_, rfl, h⟩
    · wp_walk using wpAny_loadPart' hl, wpAny_pyIter_tuple hL
      exact ⟨_, rfl, h⟩
section
variable {prog : Program} {w : World} {A : Around} {E : Value → Shared → Prop} {s : Shared}
theorem call_enumerate_tuple {l : Addr} {items : Array Value} {Q : Value → Shared → Prop} (hL : s.heap.IsTuple l items)
    (h : ∀ h', IsEnum h' (s.heap.objs.size + 1) s.heap.objs.size 0 .none → h'.IsTupleIter s.heap.objs.size l 0 → h'.objs.size = s.heap.objs.size + 2 →
      (∀ b o, s.heap.get? b = some o → h'.get? b = some o) → Q (.ref (s.heap.objs.size + 1)) { s with heap := h' }) :
    wpAny (model prog w) A (call (.type "enumerate") [.ref l]) Q E s := by
  obtain ⟨⟨c, dct, dt, sl⟩, hl, hc, n, hd⟩ := hL
  replace hc : c = .type "tuple" := hc
  replace hd : dt = .seq items n := hd
  subst hc hd
  refine callType_new F.called_enumerate (by decide) (F.typeCall_enumerate_1 _) (F.newCall_enumerate_1 _) (fun obj => F.args_object_init_2 obj _) F.entry_enumerate_new
    (meets_enumerate_newT l items n dct sl) ⟨hl, ?_⟩
  have hz : (s.heap.push { cls := .type "tuple_iterator", data := .fields #[.ref l, .int 0 0] }).objs.size = s.heap.objs.size + 1 := Heap.size_push ..
  show _ ∧ _
  rw [hz]
  have he : IsEnum ((s.heap.push { cls := .type "tuple_iterator", data := .fields #[.ref l, .int 0 0] }).push
      { cls := .type "enumerate", data := .fields #[.none, .bool false, .ref s.heap.objs.size, rawInt 0, .none, .none] }) (s.heap.objs.size + 1) s.heap.objs.size 0 .none := by
    have := Heap.get?_push_size (s.heap.push { cls := .type "tuple_iterator", data := .fields #[.ref l, .int 0 0] })
      (o := { cls := .type "enumerate", data := .fields #[.none, .bool false, .ref s.heap.objs.size, rawInt 0, .none, .none] }) rfl
    rw [hz] at this; exact this
  refine ⟨⟨_, he, rfl⟩, h _ he ⟨_, Heap.get?_push_of_some _ (Heap.get?_push_size _ rfl), rfl, rfl⟩ (by rw [Heap.size_push, hz]) fun b o x => Heap.get?_push_of_some _ (Heap.get?_push_of_some _ x)⟩
end
end Raw
namespace G
open PySem PySem.Spec PyProof.Rows L2
/-- the tuple at a, each item in a new pair -/
def IteT (K : PySem.W.Frag) (a : Addr) : It :=
  ⟨fun i H => ∃ (xs : List V) (x : V), SqT K H a xs ∧ xs[i]? = some x, fun i H v H' => ∃ T x, v = .ref T ∧ H T = none ∧ H' = upd H T (.tup [.int (i : Nat), x]) ∧ ∀ xs, SqT K H a xs → xs[i]? = some x, fun i H => ∃ xs : List V, SqT K H a xs ∧ xs.length = i⟩
theorem turn_enumT {P : Program} {w : World} {K : PySem.W.Frag} {elts : List Expr} {kk : Nat} {tpos : Pos} (a e it : Addr) :
    Turn P w K (.Tuple elts kk tpos) (IteT K a) [e, it] e (fun i h => (∃ old, IsEnum h e it ((i : Nat) : Int) old) ∧ h.IsTupleIter it a i ∧ e ≠ it ∧ a ≠ it ∧ a ≠ e) where
  mem := by simp
  obj := fun i h st b hb => by
    obtain ⟨⟨old, he⟩, ⟨o, ho, hc, hd⟩, _⟩ := st
    have e' : b = e ∨ b = it := by simpa using hb
    rcases e' with z | z
    · rw [z]; exact ⟨_, he, fun v q => nomatch q⟩
    · rw [z]; exact ⟨o, ho, fun v q => by rw [hd] at q; cases q⟩
  keep := fun i h h' st k => let ⟨⟨old, he⟩, hi, hne⟩ := st; ⟨⟨old, k e (by simp) _ he⟩, hi.at fun o q => k it (by simp) o q, hne⟩
  item := by
    intro X hP hw hK hc i pins s σ H E I hf st hg
    subst hP hw hK
    obtain ⟨⟨old, he⟩, hit, hne, hai, hae⟩ := st
    obtain ⟨xs, x, hq, hx⟩ := hg
    obtain ⟨its, rv, p, _⟩ := I.tuple hq
    obtain ⟨u, hu, ru⟩ := rv.get hx
    have hel : e < s.heap.objs.size := Heap.lt_size he
    have hil : it < s.heap.objs.size := by obtain ⟨_, q, _⟩ := hit; exact Heap.lt_size q
    have hlt : i < its.toArray.size := by
      have := (List.getElem?_eq_some_iff.mp hu).1
      simpa using this
    refine wpAny_pyNext_enum_itemD (Draws.tuple (A := X.A.in1) (show X.A.in1.handled = none from I.ok.hd hc) it a hai its.toArray) he ⟨hit, p⟩ hlt hne (by simp [hne, Ne.symm hae]) fun x' h' tk hP ho hst hT hsz hk => ?_
    obtain ⟨hit', hp'⟩ := hst
    have hxu : x' = u := by
      have h1 : its.toArray[i]? = some u := by simpa using hu
      rw [h1] at hP
      exact (Option.some.inj hP).symm
    subst hxu
    refine ⟨_, rfl, wpAny_letOwnedTupleGo_enum (s := { s with heap := h', toks := tk + 1 }) ho fun h'' he' sb => ?_⟩
    have hT2 : h''.get? s.heap.objs.size = some { cls := .type "tuple", data := .seq #[.int i tk, x'] } := (sb.2 _ (Nat.ne_of_gt hel)).trans hT
    have new : ObjOk X.prog X.w (upd H s.heap.objs.size (.tup [.int (i : Nat), x])) h'' s.heap.objs.size (.tup [.int (i : Nat), x]) :=
      ⟨by show 2 ≤ sizeLine; decide, [.int i tk, x'], .cons ⟨_, rfl⟩ (.cons ru .nil), ⟨_, hT2, rfl, _, rfl⟩⟩
    have I1 : Inv X pins σ (upd H s.heap.objs.size (.tup [.int (i : Nat), x])) { s with heap := h'', toks := tk + 1 } :=
      I.turnedNew (ch := [e, it]) (fun b ob hb q => (sb.2 b (fun z => hb (by simp [z]))).trans (hk b ob (fun z => hb (by simp [z])) (fun z => hb (by simp [z])) q)) hf (Nat.le_refl _) new
    refine ⟨.ref s.heap.objs.size, _, I1, rfl, ⟨_, x, rfl, I.hok.fresh (Nat.le_refl _), rfl, fun ys hy => by rw [I.tuple_inj hy hq]; exact hx⟩, ⟨⟨x', ?_⟩, hit'.at fun o q => (sb.2 it (Ne.symm hne)).trans q, hne, hai, hae⟩, fun b hb => ?_⟩
    · have e1 : ((i + 1 : Nat) : Int) = (i : Int) + 1 := by omega
      rw [e1]; exact he'
    · have hb' : b < s.heap.objs.size := by
        have e' : b = e ∨ b = it := by simpa using hb
        rcases e' with z | z
        · rw [z]; exact hel
        · rw [z]; exact hil
      rw [upd_ne (Nat.ne_of_lt hb')]
      exact (hf b hb).1
  done := by
    intro X hP hw hK hc i pins s σ H E I hf st hg
    subst hP hw hK
    obtain ⟨⟨old, he⟩, hit, hne, hai, hae⟩ := st
    obtain ⟨xs, hq, hx⟩ := hg
    obtain ⟨its, rv, p, _⟩ := I.tuple hq
    obtain ⟨f0, f1, f2, f3, f4, f5⟩ := hf it (by simp)
    have hl := rv.length
    have hin : i = its.toArray.size := by simp; omega
    subst hin
    exact wpAny_pyNext_enum_endD (Draws.tuple (A := X.A.in1) (show X.A.in1.handled = none from I.ok.hd hc) it a hai its.toArray) he ⟨hit, p⟩ fun h' eb => ⟨rfl, I.turned (t' := s.toks) (fun b o hb q => eb b o hb q) f0 f1 f3 f4 f5⟩
  self := fun A i s Q E st h => let ⟨⟨_, he⟩, _⟩ := st; wpAny_pyIter_enum he h
/-- enumerate of a list or a tuple -/
theorem pi_enumA {X : Cx} {e : Expr} {ta : TA} {p pos tpos : Pos} {elts : List Expr} {kk : Nat} (hg : Gl X "enumerate") (hm : X.mg "enumerate" = none) (ha : PA X [e] ta) (hs : starEach [e] X.env = [(false, eval e X.env)] := by rfl) :
    PI X (.Tuple elts kk tpos) (.Call (.Name "enumerate" p) [e] [] pos) (fun σ H R => ta σ H fun vs H1 => ∃ a xs, vs = [.ref a] ∧ ((SqL X.K H1 a xs ∧ R (Ite X.K a) H1) ∨ (SqT X.K H1 a xs ∧ R (IteT X.K a) H1))) := by
  refine ⟨fun pins s σ H R I h => ?_⟩
  refine Call_ (ld_blt I hg hm boot_enumerate (PyProof.Rows.callWith_type1 (thn (ha.run pos pins s σ H _ I h) fun us s1 ⟨vs, H1, I1, r1, q1⟩ => ?_) hs rfl))
  obtain ⟨a, xs, ex, q⟩ := q1
  subst ex
  cases r1 with
  | cons r rr =>
    cases rr
    cases r
    have fr : ∀ b ∈ [s1.heap.objs.size + 1, s1.heap.objs.size], FpOk X pins H1 b := fun b hb => by
      have e' : b = s1.heap.objs.size + 1 ∨ b = s1.heap.objs.size := by simpa using hb
      have hle : s1.heap.objs.size ≤ b := by
        rcases e' with z | z
        · rw [z]; exact Nat.le_add_right _ _
        · rw [z]; exact Nat.le_refl _
      exact I1.fpOk hle (I1.hok.fresh hle)
    rcases q with ⟨hq, q⟩ | ⟨hq, q⟩
    · obtain ⟨its, rv, p', hz⟩ := I1.list hq
      refine call_enumerate_list p'.isList fun h' he hit hsz hk => wpAny_pyIter_enum he ?_
      have I2 : Inv X pins σ H1 { s1 with heap := h' } := I1.kept (t' := s1.toks) hk
      exact ⟨s1.heap.objs.size + 1, [s1.heap.objs.size + 1, s1.heap.objs.size], _, _, H1, rfl, I2, turn_enum a (s1.heap.objs.size + 1) s1.heap.objs.size, ⟨⟨.none, he⟩, hit, Nat.succ_ne_self _⟩, fr, q⟩
    · obtain ⟨its, rv, p', _⟩ := I1.tuple hq
      have hlt : a < s1.heap.objs.size := by obtain ⟨_, q, _⟩ := id p'; exact Heap.lt_size q
      refine Raw.call_enumerate_tuple (show s1.heap.IsTuple a its.toArray from p') fun h' he hit hsz hk => wpAny_pyIter_enum he ?_
      have I2 : Inv X pins σ H1 { s1 with heap := h' } := I1.kept (t' := s1.toks) hk
      exact ⟨s1.heap.objs.size + 1, [s1.heap.objs.size + 1, s1.heap.objs.size], _, _, H1, rfl, I2, turn_enumT a (s1.heap.objs.size + 1) s1.heap.objs.size, ⟨⟨.none, he⟩, hit, Nat.succ_ne_self _, Nat.ne_of_lt hlt, Nat.ne_of_lt (Nat.lt_succ_of_lt hlt)⟩, fr, q⟩
end G

/-! G21: enumerate and zip as what is walked. -/
namespace G
open PySem PySem.Spec PyProof.Rows L2
def enums : Nat → List Val → List Val
  | _, [] => []
  | i, x :: xs => .tup [.int (i : Nat), x] :: enums (i + 1) xs
def zips : List Val → List Val → List Val
  | x :: xs, y :: ys => .tup [x, y] :: zips xs ys
  | _, _ => []
theorem enums_get : ∀ (xs : List Val) (k i : Nat) {x : Val}, (enums k xs)[i]? = some x → ∃ y, xs[i]? = some y ∧ x = .tup [.int ((k + i : Nat) : Int), y]
  | [], _, _, _, h => by simp [enums] at h
  | y :: xs, k, 0, x, h => by
    simp only [enums, List.getElem?_cons_zero, Option.some.injEq] at h
    exact ⟨y, rfl, h.symm⟩
  | y :: xs, k, i + 1, x, h => by
    simp only [enums, List.getElem?_cons_succ] at h
    obtain ⟨z, h1, h2⟩ := enums_get xs (k + 1) i h
    exact ⟨z, by simpa using h1, by rw [h2]; congr 3; omega⟩
theorem enums_len : ∀ (xs : List Val) (k : Nat), (enums k xs).length = xs.length
  | [], _ => rfl
  | _ :: xs, k => congrArg (· + 1) (enums_len xs (k + 1))
theorem zips_get : ∀ (xs ys : List Val) (i : Nat) {x : Val}, (zips xs ys)[i]? = some x → ∃ a b, xs[i]? = some a ∧ ys[i]? = some b ∧ x = .tup [a, b]
  | [], _, _, _, h => by simp [zips] at h
  | _ :: _, [], _, _, h => by simp [zips] at h
  | a :: xs, b :: ys, 0, x, h => by
    simp only [zips, List.getElem?_cons_zero, Option.some.injEq] at h
    exact ⟨a, b, rfl, rfl, h.symm⟩
  | _ :: xs, _ :: ys, i + 1, x, h => by
    simp only [zips, List.getElem?_cons_succ] at h
    obtain ⟨a, b, h1, h2, h3⟩ := zips_get xs ys i h
    exact ⟨a, b, by simpa using h1, by simpa using h2, h3⟩
theorem zips_len : ∀ (xs ys : List Val), xs.length ≤ (zips xs ys).length ∨ ys.length ≤ (zips xs ys).length
  | [], _ => .inl (Nat.le_refl _)
  | _ :: _, [] => .inr (Nat.le_refl _)
  | _ :: xs, _ :: ys => (zips_len xs ys).imp (Nat.succ_le_succ) (Nat.succ_le_succ)
section
variable {c : Ct} {W : WX} {X : Cx} {pos : Pos}
/-- a new pair -/
theorem fresh_pair {w : Wd} {T : Addr} {a b : Val} {x y : V} (s : Sim c w) (n : w.H T = none) (ra : RV c w a x) (rb : RV c w b y) :
    ∃ w', w'.H = upd w.H T (.tup [x, y]) ∧ w'.μ = w.μ ∧ Ext w w' ∧ Sim c w' ∧ RV c w' (.tup [a, b]) (.ref T) :=
  ⟨{ w with H := upd w.H T (.tup [x, y]) }, rfl, rfl, fresh_ext n, fresh_sim s n, T, [x, y], rfl, SqT.of upd_same, RVs.ext s (fresh_ext n) [a, b] [x, y] ⟨x, [y], rfl, ra, y, [], rfl, rb, rfl⟩⟩
theorem walk_enum_imm {w : Wd} {a : Addr} {xs : List Val} {ys : List V} (h : SqL c.K w.H a ys) (h' : ImL w a ys ∨ RoL c w a ys) (r : RVs c w xs ys) (s : Sim c w) : WalkG c (Ite c.K a) (enums 0 xs) w := fun w1 e1 s1 => by
  have h1 : SqL c.K w1.H a ys := h'.elim (fun h => (e1.imL h).sq) fun h => (e1.roL s h).sq
  have r1 := RVs.extR s e1 _ _ r
  refine ⟨fun i x hx => ?_, ys, h1, by rw [enums_len, r1.length]; exact Nat.le_refl _⟩
  obtain ⟨x0, hx0, rfl⟩ := enums_get xs 0 i hx
  obtain ⟨y, hy, ry⟩ := r1.get hx0
  refine ⟨⟨ys, y, h1, hy⟩, fun z H' ⟨T, y', e2, hT, e3, e4⟩ => ?_⟩
  have := e4 ys h1
  rw [hy] at this
  cases this
  subst e2 e3
  rw [Nat.zero_add]
  exact fresh_pair s1 hT rfl ry
theorem walk_enum_tup {w : Wd} {a : Addr} {xs : List Val} {ys : List V} (h : SqT c.K w.H a ys) (r : RVs c w xs ys) (s : Sim c w) : WalkG c (IteT c.K a) (enums 0 xs) w := fun w1 e1 s1 => by
  have h1 := e1.sqT s h
  have r1 := RVs.extR s e1 _ _ r
  refine ⟨fun i x hx => ?_, ys, h1, by rw [enums_len, r1.length]⟩
  obtain ⟨x0, hx0, rfl⟩ := enums_get xs 0 i hx
  obtain ⟨y, hy, ry⟩ := r1.get hx0
  refine ⟨⟨ys, y, h1, hy⟩, fun z H' ⟨T, y', e2, hT, e3, e4⟩ => ?_⟩
  have := e4 ys h1
  rw [hy] at this
  cases this
  subst e2 e3
  rw [Nat.zero_add]
  exact fresh_pair s1 hT rfl ry
theorem walk_enum_live {w : Wd} {a : Addr} {r : Nat} (h : w.ρ[r]? = some a) : WalkL c (Ite c.K a) r true w := fun w1 e1 s1 xs hx => by
  have ha := e1.pre_get h
  obtain ⟨ys, h1, r1⟩ := s1.ob r a _ ha hx
  have h1 : SqL c.K w1.H a ys := SqL.of h1
  refine ⟨fun i x hx => ?_, fun i hi => ⟨ys, h1, by rw [← r1.length]; exact hi⟩⟩
  obtain ⟨y, hy, ry⟩ := r1.get hx
  refine ⟨⟨ys, y, h1, hy⟩, fun z H' ⟨T, y', e2, hT, e3, e4⟩ => ?_⟩
  have := e4 ys h1
  rw [hy] at this
  cases this
  subst e2 e3
  exact fresh_pair s1 hT rfl ry
def ienum (m : M (List Val)) : M Src := andThen m fun vs => fun _ μ => match vs with
  | [v] => (match srcOf μ v with
    | some (.vals xs) => .ok (.vals (enums 0 xs)) μ
    | some (.live r _) => .ok (.live r true) μ
    | none => .stuck)
  | _ => .stuck
theorem gi_enum {e : Expr} {ma : M (List Val)} {p tpos : Pos} {elts : List Expr} {kk : Nat} (hm : X.mg "enumerate" = none) (ha : PA X [e] (TA' c W ma)) (hK : X.K = c.K := by rfl) (hg : Gl X "enumerate" := by rfl) (hs : starEach [e] X.env = [(false, eval e X.env)] := by rfl) :
    PI X (.Tuple elts kk tpos) (.Call (.Name "enumerate" p) [e] [] pos) (TI' c W (ienum ma)) := by
  refine (pi_enumA hg hm ha hs).imp fun σ H R ⟨w, sl, e, s, rs, h⟩ => ?_
  subst e
  refine ti_then s rs h fun vs w1 e1 s1 h1 xs rx => ?_
  cases vs with
  | nil => exact h1.elim
  | cons v vs =>
    cases vs with
    | cons _ _ => exact h1.elim
    | nil =>
      obtain ⟨x, ex, rx⟩ := rx.one
      rw [hK]
      dsimp only at h1
      cases v with
      | lst xs =>
        obtain ⟨a, ys, e1, e2, e3⟩ := rx
        exact ⟨a, ys, by rw [ex, e1], .inl ⟨e2.sq, h1 w1 rfl ‹_› s1 _ (walk_enum_imm e2.sq (.inl e2) e3 s1)⟩⟩
      | rol xs =>
        obtain ⟨a, ys, e1, e2, e3⟩ := rx
        exact ⟨a, ys, by rw [ex, e1], .inl ⟨e2.sq, h1 w1 rfl ‹_› s1 _ (walk_enum_imm e2.sq (.inr e2) e3 s1)⟩⟩
      | tup xs =>
        obtain ⟨a, ys, e1, e2, e3⟩ := rx
        exact ⟨a, ys, by rw [ex, e1], .inr ⟨e2, h1 w1 rfl ‹_› s1 _ (walk_enum_tup e2 e3 s1)⟩⟩
      | ref r =>
        obtain ⟨a, e1, e2⟩ := rx
        simp only [srcOf] at h1
        cases q2 : w1.μ[r]? with
        | none => rw [q2] at h1; exact h1.elim
        | some o =>
          rw [q2] at h1
          cases o with
          | lst xs =>
            obtain ⟨ys, f1, f2⟩ := s1.ob r a _ e2 q2
            exact ⟨a, ys, by rw [ex, e1], .inl ⟨SqL.of f1, h1 w1 rfl ‹_› s1 _ (walk_enum_live e2)⟩⟩
          | dct _ _ => exact h1.elim
      | _ => exact h1.elim
/-- zip of two lists that nobody changes, or of two tuples -/
def izip (m : M (List Val)) : M Src := andThen m fun vs => fun _ μ => match vs with
  | [.tup xs, .tup ys] => .ok (.vals (zips xs ys)) μ
  | [.lst xs, .lst ys] => .ok (.vals (zips xs ys)) μ
  | _ => .stuck
theorem walk_zip_imm {w : Wd} {a b : Addr} {xs xs' : List Val} {ys ys' : List V} (h : ImL w a ys) (h' : ImL w b ys') (r : RVs c w xs ys) (r' : RVs c w xs' ys') (s : Sim c w) : WalkG c (Itz c.K a b) (zips xs xs') w := fun w1 e1 s1 => by
  have h1 : SqL c.K w1.H a ys := (e1.imL h).sq
  have h2 : SqL c.K w1.H b ys' := (e1.imL h').sq
  have r1 := RVs.extR s e1 _ _ r
  have r2 := RVs.extR s e1 _ _ r'
  refine ⟨fun i x hx => ?_, ys, ys', h1, h2, by rw [← r1.length, ← r2.length]; exact zips_len xs xs'⟩
  obtain ⟨x0, x1, hx0, hx1, rfl⟩ := zips_get xs xs' i hx
  obtain ⟨y, hy, ry⟩ := r1.get hx0
  obtain ⟨y2, hy2, ry2⟩ := r2.get hx1
  refine ⟨⟨ys, ys', y, y2, h1, h2, hy, hy2⟩, fun z H' ⟨T, z1, z2, e2, hT, e3, e4, e5⟩ => ?_⟩
  have t1 := e4 ys h1
  have t2 := e5 ys' h2
  rw [hy] at t1
  rw [hy2] at t2
  cases t1; cases t2
  subst e2 e3
  exact fresh_pair s1 hT ry ry2
theorem walk_zip_tup {w : Wd} {a b : Addr} {xs xs' : List Val} {ys ys' : List V} (h : SqT c.K w.H a ys) (h' : SqT c.K w.H b ys') (r : RVs c w xs ys) (r' : RVs c w xs' ys') (s : Sim c w) : WalkG c (RZ.ItzT c.K a b) (zips xs xs') w := fun w1 e1 s1 => by
  have h1 : SqT c.K w1.H a ys := e1.sqT s h
  have h2 : SqT c.K w1.H b ys' := e1.sqT s h'
  have r1 := RVs.extR s e1 _ _ r
  have r2 := RVs.extR s e1 _ _ r'
  refine ⟨fun i x hx => ?_, ys, ys', h1, h2, by rw [← r1.length, ← r2.length]; exact zips_len xs xs'⟩
  obtain ⟨x0, x1, hx0, hx1, rfl⟩ := zips_get xs xs' i hx
  obtain ⟨y, hy, ry⟩ := r1.get hx0
  obtain ⟨y2, hy2, ry2⟩ := r2.get hx1
  refine ⟨⟨ys, ys', y, y2, h1, h2, hy, hy2⟩, fun z H' ⟨T, z1, z2, e2, hT, e3, e4, e5⟩ => ?_⟩
  have t1 := e4 ys h1
  have t2 := e5 ys' h2
  rw [hy] at t1
  rw [hy2] at t2
  cases t1; cases t2
  subst e2 e3
  exact fresh_pair s1 hT ry ry2
theorem gi_zip {e e2 : Expr} {ma : M (List Val)} {p tpos : Pos} {elts : List Expr} {kk : Nat} (hm : X.mg "zip" = none) (ha : PA X [e, e2] (TA' c W ma)) (hK : X.K = c.K := by rfl) (hg : Gl X "zip" := by rfl)
    (hs : starEach [e, e2] X.env = (false, eval e X.env) :: starEach [e2] X.env := by rfl) (hpl : (backTo pos (starEach [e2] X.env)).any (·.1) = false := by rfl) :
    PI X (.Tuple elts kk tpos) (.Call (.Name "zip" p) [e, e2] [] pos) (TI' c W (izip ma)) := by
  refine (RZ.pi_zipA hg hm ha hs hpl).imp fun σ H R ⟨w, sl, e, s, rs, h⟩ => ?_
  subst e
  refine ti_then s rs h fun vs w1 e1 s1 h1 xs rx => ?_

  rw [hK]
  split at h1
  · rename_i s' μ' q
    split at q
    · cases q
      obtain ⟨x, y, ex, rx, ry⟩ := rx.two
      obtain ⟨a, ys, f1, f2, f3⟩ := rx
      obtain ⟨b, ys', g1, g2, g3⟩ := ry
      exact ⟨a, b, ys, ys', by rw [ex, f1, g1], .inr ⟨f2, g2, h1 w1 rfl e1 s1 _ (walk_zip_tup f2 g2 f3 g3 s1)⟩⟩
    · cases q
      obtain ⟨x, y, ex, rx, ry⟩ := rx.two
      obtain ⟨a, ys, f1, f2, f3⟩ := rx
      obtain ⟨b, ys', g1, g2, g3⟩ := ry
      exact ⟨a, b, ys, ys', by rw [ex, f1, g1], .inl ⟨f2.sq, g2.sq, h1 w1 rfl e1 s1 _ (walk_zip_imm f2 g2 f3 g3 s1)⟩⟩
    · cases q
  · rename_i q
    split at q <;> cases q
  · exact h1.elim
end
end G

/-! G22: comprehensions of two clauses. -/
namespace G
open PySem PySem.Spec PyProof.Rows L2
def catR (r : Res (List Val)) (k : Mu → Res (List Val)) : Res (List Val) := match r with
  | .ok vs μ => (match k μ with
    | .ok ws μ' => .ok (vs ++ ws) μ'
    | _ => .stuck)
  | _ => .stuck
def rawS (s : Src) (own : List Nat) (t : Tgt) (cond : M Bool) (elt : M Val) : M (List Val) := fun sl μ => match s with
  | .vals xs => lcL own t cond elt xs sl μ
  | .live r e => lcR own t cond elt r e FUEL 0 sl μ
def mraw (src : M Src) (own : List Nat) (t : Tgt) (cond : M Bool) (elt : M Val) : M (List Val) := fun sl μ => match src sl μ with
  | .ok s μ1 => rawS s own t cond elt sl μ1
  | _ => .stuck
def lcO (own : List Nat) (t : Tgt) (cond : M Bool) (inner : M (List Val)) : List Val → M (List Val)
  | [], _, μ => .ok [] μ
  | x :: xs, sl, μ => match bindT t x (wipeS sl own) μ with
    | none => .stuck
    | some sl' => match cond sl' μ with
      | .ok false μ1 => lcO own t cond inner xs sl μ1
      | .ok true μ1 => catR (inner sl' μ1) (lcO own t cond inner xs sl)
      | _ => .stuck
def lcOR (own : List Nat) (t : Tgt) (cond : M Bool) (inner : M (List Val)) (r : Nat) (e : Bool) : Nat → Nat → M (List Val)
  | 0, _, _, _ => .stuck
  | n + 1, i, sl, μ => match μ[r]? with
    | some (.lst xs) => (match xs[i]? with
      | none => .ok [] μ
      | some x => match bindT t (eit e i x) (wipeS sl own) μ with
        | none => .stuck
        | some sl' => match cond sl' μ with
          | .ok false μ1 => lcOR own t cond inner r e n (i + 1) sl μ1
          | .ok true μ1 => catR (inner sl' μ1) (lcOR own t cond inner r e n (i + 1) sl)
          | _ => .stuck)
    | _ => .stuck
def mlc2 (src : M Src) (own : List Nat) (t : Tgt) (cond : M Bool) (inner : M (List Val)) : M (List Val) := andThen src fun s => fun sl μ => match s with
  | .vals xs => short (lcO own t cond inner xs sl μ)
  | .live r e => short (lcOR own t cond inner r e FUEL 0 sl μ)
theorem cat_stepL {own : List Nat} {t : Tgt} {cond : M Bool} {elt : M Val} {x : Val} {xs : List Val} {sl : Sl} {μ : Mu} {k : Mu → Res (List Val)} :
    catR (lcL own t cond elt (x :: xs) sl μ) k = (match bindT t x (wipeS sl own) μ with
      | none => .stuck
      | some sl' => match cond sl' μ with
        | .ok false μ1 => catR (lcL own t cond elt xs sl μ1) k
        | .ok true μ1 => (match elt sl' μ1 with
          | .ok v μ2 => (match catR (lcL own t cond elt xs sl μ2) k with
            | .ok vs μ3 => .ok (v :: vs) μ3
            | _ => .stuck)
          | _ => .stuck)
        | _ => .stuck) := by
  simp only [lcL]
  cases bindT t x (wipeS sl own) μ with
  | none => rfl
  | some sl' =>
    dsimp only
    cases cond sl' μ with
    | stuck => rfl
    | exc _ _ => rfl
    | ok b μ1 =>
      cases b with
      | false => rfl
      | true =>
        dsimp only
        cases elt sl' μ1 with
        | stuck => rfl
        | exc _ _ => rfl
        | ok v μ2 =>
          dsimp only
          cases q : lcL own t cond elt xs sl μ2 with
          | stuck => rfl
          | exc _ _ => rfl
          | ok vs μ3 =>
            simp only [catR]
            cases k μ3 with
            | stuck => rfl
            | exc _ _ => rfl
            | ok ws μ4 => rfl
theorem cat_stepR {own : List Nat} {t : Tgt} {cond : M Bool} {elt : M Val} {x : Val} {xs : List Val} {r i n : Nat} {e : Bool} {sl : Sl} {μ : Mu} {k : Mu → Res (List Val)} (h1 : μ[r]? = some (.lst xs)) (h2 : xs[i]? = some x) :
    catR (lcR own t cond elt r e (n + 1) i sl μ) k = (match bindT t (eit e i x) (wipeS sl own) μ with
      | none => .stuck
      | some sl' => match cond sl' μ with
        | .ok false μ1 => catR (lcR own t cond elt r e n (i + 1) sl μ1) k
        | .ok true μ1 => (match elt sl' μ1 with
          | .ok v μ2 => (match catR (lcR own t cond elt r e n (i + 1) sl μ2) k with
            | .ok vs μ3 => .ok (v :: vs) μ3
            | _ => .stuck)
          | _ => .stuck)
        | _ => .stuck) := by
  simp only [lcR, h1, h2]
  cases bindT t (eit e i x) (wipeS sl own) μ with
  | none => rfl
  | some sl' =>
    dsimp only
    cases cond sl' μ with
    | stuck => rfl
    | exc _ _ => rfl
    | ok b μ1 =>
      cases b with
      | false => rfl
      | true =>
        dsimp only
        cases elt sl' μ1 with
        | stuck => rfl
        | exc _ _ => rfl
        | ok v μ2 =>
          dsimp only
          cases q : lcR own t cond elt r e n (i + 1) sl μ2 with
          | stuck => rfl
          | exc _ _ => rfl
          | ok vs μ3 =>
            simp only [catR]
            cases k μ3 with
            | stuck => rfl
            | exc _ _ => rfl
            | ok ws μ4 => rfl
theorem cat_stopR {own : List Nat} {t : Tgt} {cond : M Bool} {elt : M Val} {xs : List Val} {r i n : Nat} {e : Bool} {sl : Sl} {μ : Mu} (h1 : μ[r]? = some (.lst xs)) (h2 : xs[i]? = none) :
    lcR own t cond elt r e (n + 1) i sl μ = .ok [] μ := by simp only [lcR, h1, h2]
theorem pre_snoc2 {acc : List Val} {v : Val} {r : Res (List Val)} : pre acc (match r with
    | .ok vs μ => .ok (v :: vs) μ
    | _ => .stuck) = pre (acc ++ [v]) r := by
  cases r with
  | ok vs μ => simp [pre]
  | exc _ _ => rfl
  | stuck => rfl
theorem cat_nil {acc : List Val} {μ : Mu} {k : Mu → Res (List Val)} : short (pre acc (catR (.ok [] μ) k)) = short (pre acc (k μ)) := by
  unfold catR
  dsimp only
  cases k μ with
  | stuck => rfl
  | exc _ _ => rfl
  | ok ws μ4 => rfl
section
variable {c : Ct} {W : WX} {X : Cx} {pos : Pos}
theorem RSl.extR {w w' : Wd} (s : Sim c w) (e : ExtR w w') : ∀ {sl : Sl} {σ : St}, RSl c w sl σ → RSl c w' sl σ
  | [], _, h => h
  | none :: _, _, ⟨y, r, e1, h⟩ => ⟨y, r, e1, RSl.extR s e h⟩
  | some _ :: _, _, ⟨y, r, e1, h, h2⟩ => ⟨y, r, e1, RV.extR s e _ _ h, RSl.extR s e h2⟩
theorem fill_extR {w : Wd} {D : Addr} {ys zs : List V} (h : w.H D = some (.lst ys)) (hr : D ∈ w.rs) : ExtR w { w with H := upd w.H D (.lst zs) } := by
  refine ⟨⟨[], by simp, fun _ h => nomatch h⟩, fun a h => .inl h, fun a o h1 h2 h3 => ?_, fun a h1 => ?_⟩
  · by_cases e : a = D
    · subst e
      rw [h] at h1
      cases h1
      exact absurd (LD.lst ys) (h3 hr)
    · exact (upd_ne e).trans h1
  · by_cases e : a = D
    · subst e
      exact fun z => nomatch (show upd w.H a (.lst zs) a = some (.lst zs) from upd_same).symm.trans z
    · exact fun z => h1 ((show upd w.H D (.lst zs) a = w.H a from upd_ne e).symm.trans z)
/-- one turn, and how the world goes on -/
theorem lc_turnX {w w0 w1 wb : Wd} {D : Addr} {acc : List Val} {sl : Sl} {σ : St} {own : List Nat} {t : Tgt} {cond : M Bool} {elt : M Val} {k : Mu → Res (List Val)} {x : Val} {y : V} {Q : VK} {E : XK} {μ0 : Mu}
    (l : LcAt c w0 D acc w1) (eb : ExtR wb w1) (rs : RSl c w1 sl σ) (hs : ∀ i ∈ t.slots, i ∈ own) (rx : RV c w1 x y) (hμ : w1.μ = μ0)
    (h : PostF c w (short (pre acc (match bindT t x (wipeS sl own) μ0 with
      | none => .stuck
      | some sl' => match cond sl' μ0 with
        | .ok false μ1 => k μ1
        | .ok true μ1 => (match elt sl' μ1 with
          | .ok v μ2 => (match k μ2 with
            | .ok vs μ3 => .ok (v :: vs) μ3
            | _ => .stuck)
          | _ => .stuck)
        | _ => .stuck))) Q E) :
    TG' c t y (L2.wipe σ own) w1.H fun σ2 H2 => L2.wipe σ2 own = L2.wipe σ own ∧ TT' c W0 cond σ2 H2 fun b H3 =>
      if b = true then TE' c W0 elt σ2 H3 fun z H4 => ∃ accV, H4 D = some (.lst accV) ∧ accV.length < sizeLine ∧ (∃ acc' w3, w3.H = upd H4 D (.lst (accV ++ [z])) ∧ LcAt c w0 D acc' w3 ∧ ExtR wb w3 ∧ PostF c w (short (pre acc' (k w3.μ))) Q E)
      else ∃ acc' w3, w3.H = H3 ∧ LcAt c w0 D acc' w3 ∧ ExtR wb w3 ∧ PostF c w (short (pre acc' (k w3.μ))) Q E := by
  subst hμ
  cases qb : bindT t x (wipeS sl own) w1.μ with
  | none => rw [qb] at h; exact h.elim
  | some sl' =>
    rw [qb] at h
    dsimp only at h
    refine ⟨w1, wipeS sl own, x, rfl, l.sim, rs.wipe own, rx, sl', qb, fun σ2 rs2 o2 => ⟨wipe_off o2 hs, w1, sl', rfl, l.sim, rs2, ?_⟩⟩
    cases qc : cond sl' w1.μ with
    | stuck => rw [qc] at h; exact h.elim
    | exc _ _ => rw [qc] at h; exact h.elim
    | ok b μ1 =>
      rw [qc] at h
      intro w2 hμ2 e2 s2
      subst hμ2
      have l2 := l.go e2 s2
      cases b with
      | false => exact iteF ⟨acc, w2, rfl, l2, eb.trans e2.r, h⟩
      | true =>
        refine iteT ⟨w2, sl', rfl, s2, rs2.ext l.sim e2, ?_⟩
        dsimp only at h
        cases qe : elt sl' w2.μ with
        | stuck => rw [qe] at h; exact h.elim
        | exc _ _ => rw [qe] at h; exact h.elim
        | ok v μ2 =>
          rw [qe] at h
          intro w4 hμ4 e4 s4 z rz
          subst hμ4
          have l4 := l2.go e4 s4
          obtain ⟨ys, h5, r5⟩ := l4.at_
          dsimp only at h
          rw [pre_snoc2] at h
          obtain ⟨vs, μ3, e3, hl⟩ := short_not h
          have hlen : ys.length < sizeLine := by
            rw [← r5.length, ← LIM_eq]
            simp only [List.length_append, List.length_cons, List.length_nil] at hl
            omega
          exact ⟨ys, h5, hlen, acc ++ [v], _, rfl, l4.push h5 r5 rz, ((eb.trans e2.r).trans e4.r).trans (fill_extR h5 (by rw [l4.rs]; exact List.mem_cons_self)), h⟩
/-- the inner clause -/
theorem lc_inner {w w0 w1 : Wd} {D : Addr} {acc : List Val} {sl : Sl} {σ : St} {own : List Nat} {t : Tgt} {cond : M Bool} {elt : M Val} {k : Mu → Res (List Val)} {Q : VK} {E : XK} {s : Src} {J : It}
    (l : LcAt c w0 D acc w1) (rs : RSl c w1 sl σ) (hs : ∀ i ∈ t.slots, i ∈ own) (hJ : WalkS c J s w1)
    (h : PostF c w (short (pre acc (catR (rawS s own t cond elt sl w1.μ) k))) Q E) {N : Hp → Prop}
    (hN : ∀ acc' w3, LcAt c w0 D acc' w3 → ExtR w1 w3 → PostF c w (short (pre acc' (k w3.μ))) Q E → N w3.H) :
    ∃ W1 : Nat → Nat → Hp → Prop, (∃ m, W1 0 m w1.H) ∧ ∀ j m H, W1 j m H →
      (J.stop j H ∧ N H) ∨ (J.go j H ∧ ∃ Nx1 : Hp → Prop, (∀ H', Nx1 H' → ∃ m', m' < m ∧ W1 (j + 1) m' H') ∧ ∀ x H', J.yld j H x H' → TG' c t x (L2.wipe σ own) H' fun σ3 H5 => L2.wipe σ3 own = L2.wipe σ own ∧ TT' c W0 cond σ3 H5 fun b H6 =>
        if b = true then TE' c W0 elt σ3 H6 fun y H7 => ∃ acc, H7 D = some (.lst acc) ∧ acc.length < sizeLine ∧ Nx1 (upd H7 D (.lst (acc ++ [y]))) else Nx1 H6) := by
  cases s with
  | vals xs =>
    have hJ : WalkG c J xs w1 := hJ
    refine ⟨fun i m H => m = xs.length - i ∧ i ≤ xs.length ∧ ∃ acc w3, w3.H = H ∧ LcAt c w0 D acc w3 ∧ ExtR w1 w3 ∧ PostF c w (short (pre acc (catR (lcL own t cond elt (xs.drop i) sl w3.μ) k))) Q E, ⟨xs.length, by simp, Nat.zero_le _, acc, w1, rfl, l, (Ext.refl w1).r, by rw [List.drop_zero]; exact h⟩, ?_⟩
    rintro i m H1 ⟨rfl, hi', acc, w3, rfl, l3, e3, h3⟩
    obtain ⟨go, st⟩ := hJ w3 e3 l3.sim
    by_cases hlt : i < xs.length
    · obtain ⟨g1, g2⟩ := go i xs[i] (List.getElem?_eq_getElem hlt)
      rw [List.drop_eq_getElem_cons hlt] at h3
      refine .inr ⟨g1, fun H' => ∃ acc w3, w3.H = H' ∧ LcAt c w0 D acc w3 ∧ ExtR w1 w3 ∧ PostF c w (short (pre acc (catR (lcL own t cond elt (xs.drop (i + 1)) sl w3.μ) k))) Q E, fun H' h => ⟨xs.length - (i + 1), by omega, rfl, hlt, h⟩, fun y H' hy => ?_⟩
      obtain ⟨w2, rfl, hμ2, e2, s2, r2⟩ := g2 y H' hy
      rw [cat_stepL] at h3
      have e4 := e3.trans e2.r
      exact lc_turnX (k := fun μ => catR (lcL own t cond elt (xs.drop (i + 1)) sl μ) k) (l3.go e2 s2) e4 (rs.extR l.sim e4) hs r2 hμ2 h3
    · have e : i = xs.length := by omega
      subst e
      rw [List.drop_length] at h3
      simp only [lcL] at h3
      rw [cat_nil] at h3
      exact .inl ⟨st, hN acc w3 l3 e3 h3⟩
  | live r e =>
    have hJ : WalkL c J r e w1 := hJ
    refine ⟨fun i m H => ∃ acc w3, w3.H = H ∧ LcAt c w0 D acc w3 ∧ ExtR w1 w3 ∧ PostF c w (short (pre acc (catR (lcR own t cond elt r e m i sl w3.μ) k))) Q E, ⟨FUEL, acc, w1, rfl, l, (Ext.refl w1).r, h⟩, ?_⟩
    rintro i m H1 ⟨acc, w3, rfl, l3, e3, h3⟩
    cases m with
    | zero => exact h3.elim
    | succ m =>
      cases qr : w3.μ[r]? with
      | none =>
        have : lcR own t cond elt r e (m + 1) i sl w3.μ = .stuck := by simp only [lcR, qr]
        rw [this] at h3; exact h3.elim
      | some o =>
        cases o with
        | dct _ _ =>
          have : lcR own t cond elt r e (m + 1) i sl w3.μ = .stuck := by simp only [lcR, qr]
          rw [this] at h3; exact h3.elim
        | lst xs =>
          obtain ⟨go, st⟩ := hJ w3 e3 l3.sim xs qr
          cases qi : xs[i]? with
          | none =>
            rw [cat_stopR qr qi, cat_nil] at h3
            exact .inl ⟨st i (List.getElem?_eq_none_iff.mp qi), hN acc w3 l3 e3 h3⟩
          | some x =>
            rw [cat_stepR qr qi] at h3
            obtain ⟨g1, g2⟩ := go i x qi
            refine .inr ⟨g1, fun H' => ∃ acc w3, w3.H = H' ∧ LcAt c w0 D acc w3 ∧ ExtR w1 w3 ∧ PostF c w (short (pre acc (catR (lcR own t cond elt r e m (i + 1) sl w3.μ) k))) Q E, fun H' h => ⟨m, by omega, h⟩, fun y H' hy => ?_⟩
            obtain ⟨w2, rfl, hμ2, e2, s2, r2⟩ := g2 y H' hy
            have e4 := e3.trans e2.r
            exact lc_turnX (k := fun μ => catR (lcR own t cond elt r e m (i + 1) sl μ) k) (l3.go e2 s2) e4 (rs.extR l.sim e4) hs r2 hμ2 h3
/-- one turn of the outer clause -/
theorem lc_turnO {w w0 w1 : Wd} {D : Addr} {acc : List Val} {sl : Sl} {σ : St} {own own1 : List Nat} {t t1 : Tgt} {cond cond1 : M Bool} {src1 : M Src} {elt : M Val} {k : Mu → Res (List Val)} {x : Val} {y : V} {Q : VK} {E : XK} {μ0 : Mu} {N : Hp → Prop}
    (l : LcAt c w0 D acc w1) (rs : RSl c w1 sl σ) (hs : ∀ i ∈ t.slots, i ∈ own) (hs1 : ∀ i ∈ t1.slots, i ∈ own1) (rx : RV c w1 x y) (hμ : w1.μ = μ0)
    (h : PostF c w (short (pre acc (match bindT t x (wipeS sl own) μ0 with
      | none => .stuck
      | some sl' => match cond sl' μ0 with
        | .ok false μ1 => k μ1
        | .ok true μ1 => catR (mraw src1 own1 t1 cond1 elt sl' μ1) k
        | _ => .stuck))) Q E)
    (hN : ∀ acc' w3, LcAt c w0 D acc' w3 → PostF c w (short (pre acc' (k w3.μ))) Q E → N w3.H) :
    TG' c t y (L2.wipe σ own) w1.H fun σ2 H2 => L2.wipe σ2 own = L2.wipe σ own ∧ TT' c W0 cond σ2 H2 fun b H3 =>
      if b = true then TI' c W0 src1 σ2 H3 fun J1 H4 => ∃ W1 : Nat → Nat → Hp → Prop, (∃ m, W1 0 m H4) ∧ ∀ j m H, W1 j m H →
        (J1.stop j H ∧ N H) ∨ (J1.go j H ∧ ∃ Nx1 : Hp → Prop, (∀ H', Nx1 H' → ∃ m', m' < m ∧ W1 (j + 1) m' H') ∧ ∀ x H', J1.yld j H x H' → TG' c t1 x (L2.wipe σ2 own1) H' fun σ3 H5 => L2.wipe σ3 own1 = L2.wipe σ2 own1 ∧ TT' c W0 cond1 σ3 H5 fun b H6 =>
          if b = true then TE' c W0 elt σ3 H6 fun y H7 => ∃ acc, H7 D = some (.lst acc) ∧ acc.length < sizeLine ∧ Nx1 (upd H7 D (.lst (acc ++ [y]))) else Nx1 H6)
      else N H3 := by
  subst hμ
  cases qb : bindT t x (wipeS sl own) w1.μ with
  | none => rw [qb] at h; exact h.elim
  | some sl' =>
    rw [qb] at h
    dsimp only at h
    refine ⟨w1, wipeS sl own, x, rfl, l.sim, rs.wipe own, rx, sl', qb, fun σ2 rs2 o2 => ⟨wipe_off o2 hs, w1, sl', rfl, l.sim, rs2, ?_⟩⟩
    cases qc : cond sl' w1.μ with
    | stuck => rw [qc] at h; exact h.elim
    | exc _ _ => rw [qc] at h; exact h.elim
    | ok b μ1 =>
      rw [qc] at h
      intro w2 hμ2 e2 s2
      subst hμ2
      have l2 := l.go e2 s2
      cases b with
      | false => exact iteF (hN acc w2 l2 h)
      | true =>
        dsimp only at h
        refine iteT ⟨w2, sl', rfl, s2, rs2.ext l.sim e2, ?_⟩
        unfold mraw at h
        cases qs : src1 sl' w2.μ with
        | stuck => rw [qs] at h; exact h.elim
        | exc _ _ => rw [qs] at h; exact h.elim
        | ok s μ2 =>
          rw [qs] at h
          intro w4 hμ4 e4 s4 J hJ
          subst hμ4
          exact lc_inner (l2.go e4 s4) ((rs2.ext l.sim e2).ext s2 e4) hs1 hJ h fun acc' w3 l3 _ h3 => hN acc' w3 l3 h3
theorem lc2_reads {own own1 : List Nat} {src src1 : M Src} {t t1 : Tgt} {mc mc1 : M Bool} {me : M Val} {σ : St} {H : Hp} {Q : VK} (h : TF' c W (mlc2 src own t mc (mraw src1 own1 t1 mc1 me)) σ H Q) (hsl : ∀ i ∈ t.slots, i ∈ own) (hsl1 : ∀ i ∈ t1.slots, i ∈ own1) :
    tLc2 (TI' c W src) (TG' c t) (TT' c W0 mc) (TI' c W0 src1) (TG' c t1) (TT' c W0 mc1) (TE' c W0 me) own own1 σ H Q := by
  obtain ⟨w, sl, e, s, rs, h⟩ := h
  subst e
  refine ⟨w, sl, rfl, s, rs, ?_⟩
  unfold mlc2 andThen at h
  cases q : src sl w.μ with
  | stuck => rw [q] at h; exact h
  | exc x μ' => rw [q] at h; exact h
  | ok sr μ' =>
    rw [q] at h
    intro w0 hμ ext0 sim0 J hJ D hD
    subst hμ
    have l0 := LcAt.start sim0 hD
    have rs0 : RSl c w0 sl σ := rs.ext s ext0
    cases sr with
    | vals xs =>
      have hJ : WalkG c J xs w0 := hJ
      have h : PostF c w (short (lcO own t mc (mraw src1 own1 t1 mc1 me) xs sl w0.μ)) Q (fun cls d H' => W cls d σ H') := h
      rw [← pre_nil] at h
      refine ⟨fun i m H => m = xs.length - i ∧ i ≤ xs.length ∧ ∃ acc w1, w1.H = H ∧ LcAt c w0 D acc w1 ∧ PostF c w (short (pre acc (lcO own t mc (mraw src1 own1 t1 mc1 me) (xs.drop i) sl w1.μ))) Q (fun cls d H' => W cls d σ H'), ⟨xs.length, by simp, Nat.zero_le _, [], w0.res D [], rfl, l0, by rw [List.drop_zero]; exact h⟩, ?_⟩
      rintro i m H1 ⟨rfl, hi', acc, w1, rfl, l1, h1⟩
      obtain ⟨go, st⟩ := hJ w1 l1.r l1.sim
      by_cases hlt : i < xs.length
      · obtain ⟨g1, g2⟩ := go i xs[i] (List.getElem?_eq_getElem hlt)
        rw [List.drop_eq_getElem_cons hlt] at h1
        refine .inr ⟨g1, fun H' => ∃ acc w1, w1.H = H' ∧ LcAt c w0 D acc w1 ∧ PostF c w (short (pre acc (lcO own t mc (mraw src1 own1 t1 mc1 me) (xs.drop (i + 1)) sl w1.μ))) Q (fun cls d H' => W cls d σ H'), fun H' h => ⟨xs.length - (i + 1), by omega, rfl, hlt, h⟩, fun y H' hy => ?_⟩
        obtain ⟨w2, rfl, hμ2, e2, s2, r2⟩ := g2 y H' hy
        simp only [lcO] at h1
        exact lc_turnO (k := lcO own t mc (mraw src1 own1 t1 mc1 me) (xs.drop (i + 1)) sl) (l1.go e2 s2) (rs0.extR sim0 (l1.r.trans e2.r)) hsl hsl1 r2 hμ2 h1 fun acc' w3 l3 h3 => ⟨acc', w3, rfl, l3, h3⟩
      · have e : i = xs.length := by omega
        subst e
        rw [List.drop_length] at h1
        obtain ⟨vs, μ3, e3, hl⟩ := short_not h1
        simp only [lcO, pre, List.append_nil, short] at h1
        split at h1
        · exact .inl ⟨st, l1.done ext0 h1⟩
        · exact h1.elim
    | live r e =>
      have hJ : WalkL c J r e w0 := hJ
      have h : PostF c w (short (lcOR own t mc (mraw src1 own1 t1 mc1 me) r e FUEL 0 sl w0.μ)) Q (fun cls d H' => W cls d σ H') := h
      rw [← pre_nil] at h
      refine ⟨fun i m H => ∃ acc w1, w1.H = H ∧ LcAt c w0 D acc w1 ∧ PostF c w (short (pre acc (lcOR own t mc (mraw src1 own1 t1 mc1 me) r e m i sl w1.μ))) Q (fun cls d H' => W cls d σ H'), ⟨FUEL, [], w0.res D [], rfl, l0, h⟩, ?_⟩
      rintro i m H1 ⟨acc, w1, rfl, l1, h1⟩
      cases m with
      | zero => exact h1.elim
      | succ m =>
        simp only [lcOR] at h1
        cases qr : w1.μ[r]? with
        | none => rw [qr] at h1; exact h1.elim
        | some o =>
          rw [qr] at h1
          cases o with
          | dct _ _ => exact h1.elim
          | lst xs =>
            obtain ⟨go, st⟩ := hJ w1 l1.r l1.sim xs qr
            dsimp only at h1
            cases qi : xs[i]? with
            | none =>
              rw [qi] at h1
              simp only [pre, List.append_nil, short] at h1
              split at h1
              · exact .inl ⟨st i (List.getElem?_eq_none_iff.mp qi), l1.done ext0 h1⟩
              · exact h1.elim
            | some x =>
              rw [qi] at h1
              dsimp only at h1
              obtain ⟨g1, g2⟩ := go i x qi
              refine .inr ⟨g1, fun H' => ∃ acc w1, w1.H = H' ∧ LcAt c w0 D acc w1 ∧ PostF c w (short (pre acc (lcOR own t mc (mraw src1 own1 t1 mc1 me) r e m (i + 1) sl w1.μ))) Q (fun cls d H' => W cls d σ H'), fun H' h => ⟨m, by omega, h⟩, fun y H' hy => ?_⟩
              obtain ⟨w2, rfl, hμ2, e2, s2, r2⟩ := g2 y H' hy
              exact lc_turnO (k := lcOR own t mc (mraw src1 own1 t1 mc1 me) r e m (i + 1) sl) (l1.go e2 s2) (rs0.extR sim0 (l1.r.trans e2.r)) hsl hsl1 r2 hμ2 h1 fun acc' w3 l3 h3 => ⟨acc', w3, rfl, l3, h3⟩
theorem gf_lc2 {elt tg iter tg1 iter1 : Expr} {ifs ifs1 : List Expr} {scope : Scope} {own : List (Str × Nat)} {own1 : List Nat} {src src1 : M Src} {t t1 : Tgt} {mc mc1 : M Bool} {me : M Val} (hc : X.calm = true) (hN : X.N.Nodup) (hi : PI X tg iter (TI' c W src)) (ok : BlkOk X.N X.env.scope scope own)
    (hg : ∀ (s : Shared) (H : Hp) (C : Addr) (cl : List (Str × Addr)) (fp : List Addr), PG (X.blk s H scope (compEnvC scope cl C X.env) fp) tg (TG' c t)) (ht : ∀ (s : Shared) (H : Hp) (C : Addr) (cl : List (Str × Addr)) (fp : List Addr), PTs (X.blk s H scope (compEnvC scope cl C X.env) fp) ifs (TT' c W0 mc))
    (hi1 : ∀ (s : Shared) (H : Hp) (C : Addr) (cl : List (Str × Addr)) (fp : List Addr), PI (X.blk s H scope (compEnvC scope cl C X.env) fp) tg1 iter1 (TI' c W0 src1))
    (hg1 : ∀ (s : Shared) (H : Hp) (C : Addr) (cl : List (Str × Addr)) (fp : List Addr), PG (X.blk s H scope (compEnvC scope cl C X.env) fp) tg1 (TG' c t1)) (ht1 : ∀ (s : Shared) (H : Hp) (C : Addr) (cl : List (Str × Addr)) (fp : List Addr), PTs (X.blk s H scope (compEnvC scope cl C X.env) fp) ifs1 (TT' c W0 mc1))
    (he : ∀ (s : Shared) (H : Hp) (C : Addr) (cl : List (Str × Addr)) (fp : List Addr), PE (X.blk s H scope (compEnvC scope cl C X.env) fp) elt (TE' c W0 me)) (hsl : ∀ i ∈ t.slots, i ∈ own.map (·.2)) (hsl1 : ∀ i ∈ t1.slots, i ∈ own1) (hv : ∀ i ∈ own1, i ∈ own.map (·.2))
    (hs : ∀ x, foldedSetIterable iter X.env x = pure x := by intro _; rfl) (hs1 : ∀ env x, foldedSetIterable iter1 env x = pure x := by intro _ _; rfl) :
    PE X (.ListComp elt [⟨tg, iter, ifs, 0⟩, ⟨tg1, iter1, ifs1, 0⟩] scope pos) (TF' c W (mlc2 src (own.map (·.2)) t mc (mraw src1 own1 t1 mc1 me))) := by
  refine (pe_lc2 hc hN hi ok hv hg ht hi1 hg1 ht1 he hs hs1).imp fun σ H Q h => lc2_reads h hsl hsl1
end
end G

/-! G23: two clauses for the printer; x += .. -/
namespace G
open PySem PySem.Spec PyProof.Rows L2
section
variable {c : Ct} {W : WX} {X : Cx} {pos : Pos}
variable {elt tg iter tg1 iter1 : Expr} {ifs ifs1 : List Expr} {scope : Scope} {src src1 : M Src} {t t1 : Tgt} {mc mc1 : M Bool} {me : M Val} {y : Str} {py spos : Pos}
theorem lc2_ (own : List (Str × Nat)) (own1 : List Nat) (hN : X.N.Nodup) (hi : PI X tg iter (TI' c W src))
    (hg : ∀ (s : Shared) (H : Hp) (C : Addr) (cl : List (Str × Addr)) (fp : List Addr), PG (X.blk s H scope (compEnvC scope cl C X.env) fp) tg (TG' c t)) (ht : ∀ (s : Shared) (H : Hp) (C : Addr) (cl : List (Str × Addr)) (fp : List Addr), PTs (X.blk s H scope (compEnvC scope cl C X.env) fp) ifs (TT' c W0 mc))
    (hi1 : ∀ (s : Shared) (H : Hp) (C : Addr) (cl : List (Str × Addr)) (fp : List Addr), PI (X.blk s H scope (compEnvC scope cl C X.env) fp) tg1 iter1 (TI' c W0 src1))
    (hg1 : ∀ (s : Shared) (H : Hp) (C : Addr) (cl : List (Str × Addr)) (fp : List Addr), PG (X.blk s H scope (compEnvC scope cl C X.env) fp) tg1 (TG' c t1)) (ht1 : ∀ (s : Shared) (H : Hp) (C : Addr) (cl : List (Str × Addr)) (fp : List Addr), PTs (X.blk s H scope (compEnvC scope cl C X.env) fp) ifs1 (TT' c W0 mc1))
    (he : ∀ (s : Shared) (H : Hp) (C : Addr) (cl : List (Str × Addr)) (fp : List Addr), PE (X.blk s H scope (compEnvC scope cl C X.env) fp) elt (TE' c W0 me)) (ok : blkC X.N X.env.scope scope own = true := by kernel_rfl) (hsl : ∀ i ∈ t.slots, i ∈ own.map (·.2) := by decide) (hsl1 : ∀ i ∈ t1.slots, i ∈ own1 := by decide) (hv : ∀ i ∈ own1, i ∈ own.map (·.2) := by decide) (hc : X.calm = true := by rfl)
    (hs : ∀ x, foldedSetIterable iter X.env x = pure x := by intro _; rfl) (hs1 : ∀ env x, foldedSetIterable iter1 env x = pure x := by intro _ _; rfl) :
    PE X (.ListComp elt [⟨tg, iter, ifs, 0⟩, ⟨tg1, iter1, ifs1, 0⟩] scope pos) (TF' c W (mlc2 src (own.map (·.2)) t mc (mraw src1 own1 t1 mc1 me))) := gf_lc2 hc hN hi (blkOk_by ok) hg ht hi1 hg1 ht1 he hsl hsl1 hv hs hs1
theorem setlc2_ (mu : Bool) (i : Nat) (own : List (Str × Nat)) (own1 : List Nat) (hN : X.N.Nodup) (hi : PI X tg iter (TI' c W src))
    (hg : ∀ (s : Shared) (H : Hp) (C : Addr) (cl : List (Str × Addr)) (fp : List Addr), PG (X.blk s H scope (compEnvC scope cl C X.env) fp) tg (TG' c t)) (ht : ∀ (s : Shared) (H : Hp) (C : Addr) (cl : List (Str × Addr)) (fp : List Addr), PTs (X.blk s H scope (compEnvC scope cl C X.env) fp) ifs (TT' c W0 mc))
    (hi1 : ∀ (s : Shared) (H : Hp) (C : Addr) (cl : List (Str × Addr)) (fp : List Addr), PI (X.blk s H scope (compEnvC scope cl C X.env) fp) tg1 iter1 (TI' c W0 src1))
    (hg1 : ∀ (s : Shared) (H : Hp) (C : Addr) (cl : List (Str × Addr)) (fp : List Addr), PG (X.blk s H scope (compEnvC scope cl C X.env) fp) tg1 (TG' c t1)) (ht1 : ∀ (s : Shared) (H : Hp) (C : Addr) (cl : List (Str × Addr)) (fp : List Addr), PTs (X.blk s H scope (compEnvC scope cl C X.env) fp) ifs1 (TT' c W0 mc1))
    (he : ∀ (s : Shared) (H : Hp) (C : Addr) (cl : List (Str × Addr)) (fp : List Addr), PE (X.blk s H scope (compEnvC scope cl C X.env) fp) elt (TE' c W0 me)) (hsw : swapsWith (.ListComp elt [⟨tg, iter, ifs, 0⟩, ⟨tg1, iter1, ifs1, 0⟩] scope pos) (some (.Name y py)) spos.line X.env = pure true := by exact sw_true rfl rfl rfl (by kernel_rfl)) (ok : blkC X.N X.env.scope scope own = true := by kernel_rfl) (hy : X.N[i]? = some y := by rfl) (hyl : X.env.scope.names.lookup y = some .local := by rfl) (hsl : ∀ i ∈ t.slots, i ∈ own.map (·.2) := by decide) (hsl1 : ∀ i ∈ t1.slots, i ∈ own1 := by decide) (hv : ∀ i ∈ own1, i ∈ own.map (·.2) := by decide) (hc : X.calm = true := by rfl)
    (hs : ∀ x, foldedSetIterable iter X.env x = pure x := by intro _; rfl) (hs1 : ∀ env x, foldedSetIterable iter1 env x = pure x := by intro _ _; rfl) :
    PS X (.Assign [.Name y py] (.ListComp elt [⟨tg, iter, ifs, 0⟩, ⟨tg1, iter1, ifs1, 0⟩] scope pos) spos) (TS' c W (sasg ((if mu then mmut else mimm) (mlc2 src (own.map (·.2)) t mc (mraw src1 own1 t1 mc1 me))) (.nm i))) := by
  refine (ps_setLc2 hc hN hy hyl hsw hi (blkOk_by ok) hv hg ht hi1 hg1 ht1 he hs hs1).imp fun D σ H h => ?_
  cases mu with
  | true => exact lc2_reads (mut_reads (set_reads h)) hsl hsl1
  | false => exact lc2_reads (imm_reads (set_reads h)) hsl hsl1
/-- x += i, x -= i -/
def saug (f : Int → Int → Int) (i : Nat) (m : M Val) : B := fun sl μ => match sl[i]? with
  | some (some (.int a)) => (match m sl μ with
    | .ok (.int b) μ1 => .nx (sl.set i (some (.int (f a b)))) μ1
    | .exc e μ1 => .exc e sl μ1
    | _ => .stuck)
  | _ => .stuck
theorem gs_aug {f : Int → Int → Int} {op : Operator} (hop : PIp X op (ipI f)) {x : Str} {p : Pos} {e : Expr} {m : M Val} (i : Nat) (hN : X.N.Nodup) (he : PE X e (TE' c W m)) (hi : X.N[i]? = some x := by rfl) (hx : Loc X.env.scope x := by first | exact Or.inl rfl | exact Or.inr rfl) (hf : X.fn x = true ∨ X.env.scope.names.lookup x = some .local := by first | exact .inl rfl | exact .inr rfl) :
    PS X (.AugAssign (.Name x p) op e pos) (TS' c W (saug f i m)) := by
  refine (ps_aug hN hi hx he hop hf).imp fun D σ H ⟨w, sl, e, s, rs, h⟩ => ?_
  subst e
  unfold saug at h
  cases q : sl[i]? with
  | none => rw [q] at h; exact h.elim
  | some z =>
    rw [q] at h
    cases z with
    | none => exact h.elim
    | some v =>
      cases v with
      | int a =>
        obtain ⟨yv, hy, ry⟩ := rs.get q
        refine ⟨yv, hy, w, sl, rfl, s, rs, ?_⟩
        dsimp only at h
        cases qm : m sl w.μ with
        | stuck => rw [qm] at h; exact h.elim
        | exc ex μ1 =>
          rw [qm] at h
          exact fun w' hμ ext sim cls d r => h w' hμ ext sim σ cls d (rs.ext s ext) r
        | ok u μ1 =>
          rw [qm] at h
          intro w' hμ ext sim z rz
          subst hμ
          cases u with
          | int b =>
            refine ⟨a, b, ry, rz, ?_⟩
            exact h w' rfl ext sim _ ((rs.ext s ext).set (show RV c w' (.int (f a b)) (.int (f a b)) from rfl) i)
          | _ => exact h.elim
      | _ => exact h.elim
end
end G

/-! G24: {k: v for ..}; sorted(dict). -/
namespace G
open PySem PySem.Spec PyProof.Rows L2
def dcL (own : List Nat) (t : Tgt) (cond : M Bool) (mk mv : M Val) : List DKey → List Val → List Val → Sl → Mu → Res (List DKey × List Val)
  | ks, vs, [], _, μ => .ok (ks, vs) μ
  | ks, vs, x :: xs, sl, μ => match bindT t x (wipeS sl own) μ with
    | none => .stuck
    | some sl' => match cond sl' μ with
      | .ok false μ1 => dcL own t cond mk mv ks vs xs sl μ1
      | .ok true μ1 => (match mk sl' μ1 with
        | .ok k μ2 => (match kOf k with
          | some kk => (match mv sl' μ2 with
            | .ok v μ3 => if vs.length < LIM then dcL own t cond mk mv (dPut (.k kk) v ks vs).1 (dPut (.k kk) v ks vs).2 xs sl μ3 else .stuck
            | _ => .stuck)
          | none => .stuck)
        | _ => .stuck)
      | _ => .stuck
def mdc (mu : Bool) (src : M Src) (own : List Nat) (t : Tgt) (cond : M Bool) (mk mv : M Val) : M Val := andThen src fun s => fun sl μ => match s with
  | .vals xs => (match dcL own t cond mk mv [] [] xs sl μ with
    | .ok r μ' => if mu then .ok (.ref μ'.length) (μ' ++ [.dct r.1 r.2]) else .ok (.dct r.1 r.2) μ'
    | _ => .stuck)
  | .live _ _ => .stuck
section
variable {c : Ct} {W : WX} {X : Cx} {pos : Pos}
structure DcAt (c : Ct) (w0 : Wd) (D : Addr) (ks : List DKey) (acc : List Val) (w : Wd) : Prop where
  sim : Sim c w
  rs : w.rs = D :: w0.rs
  nr : D ∉ w0.rs
  nw : w0.H D = none
  ext : Ext w0 (w.but D w0.rs)
  at_ : ∃ (kk : List Key) (ys : List V), ks = kk.map DKey.k ∧ kk.length = ys.length ∧ w.H D = some (.dK (kk.zip ys)) ∧ RVs c w acc ys
theorem resD_but {w0 : Wd} {D : Addr} (n : w0.H D = none) : (w0.resD D).but D w0.rs = w0 := by
  show ({ ρ := w0.ρ, μ := w0.μ, H := fun a => if a = D then none else upd w0.H D (.dK []) a, rs := w0.rs } : Wd) = w0
  have : (fun a => if a = D then none else upd w0.H D (.dK []) a) = w0.H := by
    funext a
    by_cases h : a = D
    · rw [if_pos h, h, n]
    · rw [if_neg h, upd_ne h]
  rw [this]
theorem DcAt.start {w0 : Wd} {D : Addr} (s : Sim c w0) (n : w0.H D = none) : DcAt c w0 D [] [] (w0.resD D) := by
  have hD : D ∉ w0.ρ := fun h => s.ne_new n h rfl
  refine ⟨s.off (resD_off n) rfl hD fun _ => ⟨_, upd_same⟩, rfl, s.rs_new n, n, ?_, [], [], rfl, rfl, upd_same, rfl⟩
  rw [resD_but n]
  exact Ext.refl _
variable {w0 w w2 : Wd} {D : Addr} {ks : List DKey} {acc : List Val}
theorem DcAt.notin (l : DcAt c w0 D ks acc w) : D ∉ w.ρ := (l.sim.rs D (by rw [l.rs]; exact List.mem_cons_self)).1
theorem DcAt.go (l : DcAt c w0 D ks acc w) (e : Ext w w2) (s : Sim c w2) : DcAt c w0 D ks acc w2 := by
  obtain ⟨kk, ys, h1, h2, h, r⟩ := l.at_
  exact ⟨s, e.rs.trans l.rs, l.nr, l.nw, l.ext.trans (but_ext e (by rw [h]; exact fun z => nomatch z) l.notin), kk, ys, h1, h2, e.keep D _ h l.notin, RVs.ext l.sim e _ _ r⟩
theorem fillD_off {o : HO} {kvs : List (Key × V)} (h : w.H D = some (.dK kvs)) (hr : D ∈ w.rs) : Off w { w with H := upd w.H D o } D := ⟨fun a h => upd_ne h, rfl, fun a h => .inl h, .inl ⟨hr, _, h, .inr (.inl ⟨_, rfl⟩)⟩⟩
theorem DcAt.push {kk : List Key} {ys : List V} {k : Key} {v : Val} {y : V} (l : DcAt c w0 D ks acc w) (h1 : ks = kk.map DKey.k) (h2 : kk.length = ys.length) (h : w.H D = some (.dK (kk.zip ys))) (r : RVs c w acc ys) (rv : RV c w v y) :
    DcAt c w0 D (dPut (.k k) v ks acc).1 (dPut (.k k) v ks acc).2 { w with H := upd w.H D (.dK (putK (kk.zip ys) k y)) } := by
  have hr : D ∈ w.rs := by rw [l.rs]; exact List.mem_cons_self
  obtain ⟨kk', ys', b1, b2, b3, b4⟩ := dPut_zip (k := k) rv h2 r
  have f : Off w { w with H := upd w.H D (.dK (putK (kk.zip ys) k y)) } D := fillD_off h hr
  subst h1
  refine ⟨l.sim.off f rfl l.notin fun _ => ⟨_, upd_same⟩, l.rs, l.nr, l.nw, ?_, kk', ys', b1, b2, ?_, RVs.off f _ _ b4⟩
  · have e : ({ w with H := upd w.H D (.dK (putK (kk.zip ys) k y)) } : Wd).but D w0.rs = w.but D w0.rs := by
      show ({ ρ := w.ρ, μ := w.μ, H := fun a => if a = D then none else upd w.H D (.dK (putK (kk.zip ys) k y)) a, rs := w0.rs } : Wd) = { ρ := w.ρ, μ := w.μ, H := fun a => if a = D then none else w.H a, rs := w0.rs }
      have : (fun a => if a = D then none else upd w.H D (.dK (putK (kk.zip ys) k y)) a) = fun a => if a = D then none else w.H a := by
        funext a
        by_cases h : a = D
        · rw [if_pos h, if_pos h]
        · rw [if_neg h, if_neg h, upd_ne h]
      rw [this]
    rw [e]
    exact l.ext
  · show upd w.H D (.dK (putK (kk.zip ys) k y)) D = _
    rw [b3]
    exact upd_same
theorem DcAt.r (l : DcAt c w0 D ks acc w) : ExtR w0 w := by
  refine ⟨l.ext.pre, fun a h => ?_, fun a o h1 h2 _ => ?_, fun a h => ?_⟩
  · rw [l.rs] at h
    rcases List.mem_cons.mp h with h | h
    · rw [h]; exact .inr l.nw
    · exact .inl h
  · have := l.ext.keep a o h1 h2
    have : (if a = D then none else w.H a) = some o := this
    split at this
    · cases this
    · exact this
  · have : (if a = D then none else w.H a) ≠ none := l.ext.there a h
    split at this
    · exact absurd rfl this
    · exact this
theorem DcAt.done {wb w1 : Wd} {Q : VK} {E : XK} (mu : Bool) (l : DcAt c w0 D ks acc w1) (e0 : Ext wb w0) (h : Post c wb (if mu then .ok (.ref w1.μ.length) (w1.μ ++ [.dct ks acc]) else .ok (.dct ks acc) w1.μ) Q E) : Q (.ref D) w1.H := by
  obtain ⟨kk, ys, h1, h2, h3, r⟩ := l.at_
  have f : Off w1 (w1.but D w0.rs) D := ⟨fun a h => if_neg h, rfl, fun a h => .inl (by rw [l.rs]; exact List.mem_cons_of_mem _ h), .inl ⟨by rw [l.rs]; exact List.mem_cons_self, _, h3, .inr (.inl ⟨_, rfl⟩)⟩⟩
  have s7 : Sim c (w1.but D w0.rs) := l.sim.off f rfl l.notin fun hm => absurd hm l.nr
  have r5 : RVs c (w1.but D w0.rs) acc ys := RVs.off f _ _ r
  have n5 : (w1.but D w0.rs).H D = none := if_pos rfl
  have eH : upd (w1.but D w0.rs).H D (.dK (kk.zip ys)) = w1.H := by
    rw [but_upd]
    funext a
    by_cases h : a = D
    · rw [h, upd_same, h3]
    · rw [upd_ne h]
  rw [← eH]
  cases mu with
  | false =>
    simp only [Bool.false_eq_true, if_false] at h
    exact h { w1.but D w0.rs with H := upd (w1.but D w0.rs).H D (.dK (kk.zip ys)) } rfl (e0.trans (l.ext.trans (fresh_ext n5))) (fresh_sim s7 n5) _ ⟨D, ys, rfl, ⟨.inl ⟨kk, h1, h2, upd_same⟩, l.notin, l.nr⟩, RVs.ext s7 (fresh_ext n5) _ _ r5⟩
  | true =>
    simp only [if_true] at h
    have e6 : Ext (w1.but D w0.rs) { w1.but D w0.rs with ρ := (w1.but D w0.rs).ρ ++ [D], μ := (w1.but D w0.rs).μ ++ [.dct ks acc], H := upd (w1.but D w0.rs).H D (.dK (kk.zip ys)) } := alloc_ext n5
    refine h _ rfl (e0.trans (l.ext.trans e6)) (alloc_sim s7 n5 ⟨ys, .inl ⟨kk, h1, h2, upd_same⟩, RVs.ext s7 e6 _ _ r5⟩ l.nr) _ ⟨D, rfl, ?_⟩
    show (w1.ρ ++ [D])[w1.μ.length]? = some D
    rw [← l.sim.len]
    simp
/-- the post of what remains -/
def DPost (c : Ct) (mu : Bool) (wb : Wd) (r : Res (List DKey × List Val)) (Q : VK) (E : XK) : Prop := Post c wb (match r with
    | .ok r μ' => if mu then .ok (.ref μ'.length) (μ' ++ [.dct r.1 r.2]) else .ok (.dct r.1 r.2) μ'
    | _ => .stuck) Q E
theorem dc_turn {wb w1 : Wd} {mu : Bool} {sl : Sl} {σ : St} {own : List Nat} {t : Tgt} {cond : M Bool} {mk mv : M Val} {x : Val} {xs : List Val} {y : V} {Q : VK} {E : XK} {μ0 : Mu}
    (l : DcAt c w0 D ks acc w1) (rs : RSl c w1 sl σ) (hs : ∀ i ∈ t.slots, i ∈ own) (rx : RV c w1 x y) (hμ : w1.μ = μ0)
    (h : DPost c mu wb (dcL own t cond mk mv ks acc (x :: xs) sl μ0) Q E) {N : Hp → Prop}
    (hN : ∀ ks' acc' w3, DcAt c w0 D ks' acc' w3 → DPost c mu wb (dcL own t cond mk mv ks' acc' xs sl w3.μ) Q E → N w3.H) :
    TG' c t y (L2.wipe σ own) w1.H fun σ2 H2 => L2.wipe σ2 own = L2.wipe σ own ∧ TT' c W0 cond σ2 H2 fun b H3 =>
      if b = true then TE' c W0 mk σ2 H3 fun y H4 => TE' c W0 mv σ2 H4 fun z H5 => ∃ kvs k, y = kV k ∧ H5 D = some (.dK kvs) ∧ kvs.length < sizeLine ∧ N (upd H5 D (.dK (putK kvs k z))) else N H3 := by
  subst hμ
  simp only [dcL] at h
  cases qb : bindT t x (wipeS sl own) w1.μ with
  | none => rw [qb] at h; exact h.elim
  | some sl' =>
    rw [qb] at h
    dsimp only at h
    refine ⟨w1, wipeS sl own, x, rfl, l.sim, rs.wipe own, rx, sl', qb, fun σ2 rs2 o2 => ⟨wipe_off o2 hs, w1, sl', rfl, l.sim, rs2, ?_⟩⟩
    cases qc : cond sl' w1.μ with
    | stuck => rw [qc] at h; exact h.elim
    | exc _ _ => rw [qc] at h; exact h.elim
    | ok b μ1 =>
      rw [qc] at h
      intro w2 hμ2 e2 s2
      subst hμ2
      have l2 := l.go e2 s2
      cases b with
      | false => exact iteF (hN ks acc w2 l2 h)
      | true =>
        have rs3 := rs2.ext l.sim e2
        refine iteT ⟨w2, sl', rfl, s2, rs3, ?_⟩
        dsimp only at h
        cases qe : mk sl' w2.μ with
        | stuck => rw [qe] at h; exact h.elim
        | exc _ _ => rw [qe] at h; exact h.elim
        | ok k μ2 =>
          rw [qe] at h
          intro w4 hμ4 e4 s4 z rz
          subst hμ4
          have l4 := l2.go e4 s4
          dsimp only at h
          cases qk : kOf k with
          | none => rw [qk] at h; exact h.elim
          | some kk =>
            rw [qk] at h
            refine ⟨w4, sl', rfl, s4, rs3.ext s2 e4, ?_⟩
            dsimp only at h
            cases qv : mv sl' w4.μ with
            | stuck => rw [qv] at h; exact h.elim
            | exc _ _ => rw [qv] at h; exact h.elim
            | ok v μ3 =>
              rw [qv] at h
              intro w5 hμ5 e5 s5 zz rzz
              subst hμ5
              have l5 := l4.go e5 s5
              obtain ⟨kl, ys, h1, h2, h3, r5⟩ := l5.at_
              dsimp only at h
              split at h
              · rename_i hl
                refine ⟨_, kk, kOf_rv qk rz, h3, ?_, ?_⟩
                · rw [List.length_zip, h2, Nat.min_self, ← r5.length, ← LIM_eq]; exact hl
                · exact hN _ _ { w5 with H := upd w5.H D (.dK (putK (kl.zip ys) kk zz)) } (l5.push h1 h2 h3 r5 rzz) h
              · exact h.elim
theorem dc_reads (mu : Bool) {own : List Nat} {src : M Src} {t : Tgt} {mc : M Bool} {mk mv : M Val} {σ : St} {H : Hp} {Q : VK} (h : TE' c W (mdc mu src own t mc mk mv) σ H Q) (hsl : ∀ i ∈ t.slots, i ∈ own) :
    tDc (TI' c W src) (TG' c t) (TT' c W0 mc) (TE' c W0 mk) (TE' c W0 mv) own σ H Q := by
  obtain ⟨w, sl, e, s, rs, h⟩ := h
  subst e
  refine ⟨w, sl, rfl, s, rs, ?_⟩
  unfold mdc andThen at h
  cases q : src sl w.μ with
  | stuck => rw [q] at h; exact h
  | exc x μ' => rw [q] at h; exact h
  | ok sr μ' =>
    rw [q] at h
    intro w0 hμ ext0 sim0 J hJ D hD
    subst hμ
    have l0 := DcAt.start sim0 hD
    have rs0 : RSl c w0 sl σ := rs.ext s ext0
    cases sr with
    | live _ _ => exact h.elim
    | vals xs =>
      have hJ : WalkG c J xs w0 := hJ
      have h : DPost c mu w (dcL own t mc mk mv [] [] xs sl w0.μ) Q (fun cls d H' => W cls d σ H') := h
      refine ⟨fun i m H => m = xs.length - i ∧ i ≤ xs.length ∧ ∃ ks acc w1, w1.H = H ∧ DcAt c w0 D ks acc w1 ∧ DPost c mu w (dcL own t mc mk mv ks acc (xs.drop i) sl w1.μ) Q (fun cls d H' => W cls d σ H'), ⟨xs.length, by simp, Nat.zero_le _, [], [], w0.resD D, rfl, l0, by rw [List.drop_zero]; exact h⟩, ?_⟩
      rintro i m H1 ⟨rfl, hi', ks, acc, w1, rfl, l1, h1⟩
      obtain ⟨go, st⟩ := hJ w1 l1.r l1.sim
      by_cases hlt : i < xs.length
      · obtain ⟨g1, g2⟩ := go i xs[i] (List.getElem?_eq_getElem hlt)
        rw [List.drop_eq_getElem_cons hlt] at h1
        refine .inr ⟨g1, fun H' => ∃ ks acc w1, w1.H = H' ∧ DcAt c w0 D ks acc w1 ∧ DPost c mu w (dcL own t mc mk mv ks acc (xs.drop (i + 1)) sl w1.μ) Q (fun cls d H' => W cls d σ H'), fun H' h => ⟨xs.length - (i + 1), by omega, rfl, hlt, h⟩, fun y H' hy => ?_⟩
        obtain ⟨w2, rfl, hμ2, e2, s2, r2⟩ := g2 y H' hy
        exact dc_turn (l1.go e2 s2) (rs0.extR sim0 (l1.r.trans e2.r)) hsl r2 hμ2 h1 fun ks' acc' w3 l3 h3 => ⟨ks', acc', w3, rfl, l3, h3⟩
      · have e : i = xs.length := by omega
        subst e
        rw [List.drop_length] at h1
        exact .inl ⟨st, l1.done mu ext0 h1⟩
theorem dc_ (mu : Bool) {kx vx tg iter : Expr} {ifs : List Expr} {scope : Scope} {src : M Src} {t : Tgt} {mc : M Bool} {mk mv : M Val} (own : List (Str × Nat)) (hN : X.N.Nodup) (hi : PI X tg iter (TI' c W src))
    (hg : ∀ (s : Shared) (H : Hp) (C : Addr) (cl : List (Str × Addr)) (fp : List Addr), PG (X.blk s H scope (compEnvC scope cl C X.env) fp) tg (TG' c t)) (ht : ∀ (s : Shared) (H : Hp) (C : Addr) (cl : List (Str × Addr)) (fp : List Addr), PTs (X.blk s H scope (compEnvC scope cl C X.env) fp) ifs (TT' c W0 mc))
    (hk : ∀ (s : Shared) (H : Hp) (C : Addr) (cl : List (Str × Addr)) (fp : List Addr), PE (X.blk s H scope (compEnvC scope cl C X.env) fp) kx (TE' c W0 mk))
    (he : ∀ (s : Shared) (H : Hp) (C : Addr) (cl : List (Str × Addr)) (fp : List Addr), PE (X.blk s H scope (compEnvC scope cl C X.env) fp) vx (TE' c W0 mv)) (ok : blkC X.N X.env.scope scope own = true := by kernel_rfl) (hsl : ∀ i ∈ t.slots, i ∈ own.map (·.2) := by decide) (hc : X.calm = true := by rfl) (hs : ∀ x, foldedSetIterable iter X.env x = pure x := by intro _; rfl) :
    PE X (.DictComp kx vx [⟨tg, iter, ifs, 0⟩] scope pos) (TE' c W (mdc mu src (own.map (·.2)) t mc mk mv)) := (pe_dc hc hN hi (blkOk_by ok) hg ht hk he hs).imp fun _ _ _ h => dc_reads mu h hsl
end
end G

/-! G25: sorted of a dict with numbers for keys. -/
namespace G
open PySem PySem.Spec PyProof.Rows L2
def intK : List DKey → Option (List Int)
  | [] => some []
  | .k (.inl i) :: r => (intK r).map (i :: ·)
  | _ => none
def insI (x : Int) : List Int → List Int
  | [] => [x]
  | y :: ys => if y < x then y :: insI x ys else x :: y :: ys
def sI : List Int → List Int
  | [] => []
  | x :: xs => insI x (sI xs)
theorem insI_perm (x : Int) : ∀ l : List Int, (insI x l).Perm (x :: l)
  | [] => .refl _
  | y :: ys => by
    unfold insI
    split
    · exact ((insI_perm x ys).cons y).trans (.swap x y ys)
    · exact .refl _
theorem sI_perm : ∀ l : List Int, (sI l).Perm l
  | [] => .refl _
  | x :: xs => (insI_perm x (sI xs)).trans ((sI_perm xs).cons x)
theorem insI_sorted (x : Int) : ∀ {l : List Int}, l.Pairwise (· ≤ ·) → (insI x l).Pairwise (· ≤ ·)
  | [], _ => List.pairwise_singleton _ _
  | y :: ys, h => by
    obtain ⟨h1, h2⟩ := List.pairwise_cons.mp h
    unfold insI
    split
    · rename_i hlt
      refine List.pairwise_cons.mpr ⟨fun z hz => ?_, insI_sorted x h2⟩
      rcases List.mem_cons.mp ((insI_perm x ys).mem_iff.mp hz) with rfl | hz
      · omega
      · exact h1 z hz
    · rename_i hge
      refine List.pairwise_cons.mpr ⟨fun z hz => ?_, h⟩
      rcases List.mem_cons.mp hz with rfl | hz
      · omega
      · have := h1 z hz; omega
theorem sI_sorted : ∀ l : List Int, (sI l).Pairwise (· ≤ ·)
  | [] => .nil
  | x :: xs => insI_sorted x (sI_sorted xs)
theorem sI_eq {l l' : List Int} (p : l'.Perm l) (h : l'.Pairwise (· ≤ ·)) : l' = sI l :=
  List.Perm.eq_of_pairwise (fun a b _ _ h1 h2 => Int.le_antisymm h1 h2) h (sI_sorted l) (p.trans (sI_perm l).symm)
theorem intK_keys : ∀ {kk : List Key} {is : List Int}, intK (kk.map DKey.k) = some is → kk = is.map Sum.inl
  | [], is, h => by cases h; rfl
  | .inl i :: kk, is, h => by
    simp only [List.map_cons, intK, Option.map_eq_some_iff] at h
    obtain ⟨r, h1, rfl⟩ := h
    rw [intK_keys h1]; rfl
  | .inr _ :: _, _, h => by cases h
def vSorted2 (vs : List Val) (μ : Mu) : Res (List Val) := match vs with
  | [v] => (match look μ v with
    | .dct ks _ => (match intK ks with
      | some is => if is.length < 64 then .ok ((sI is).map .int) μ else .stuck
      | none => .stuck)
    | _ => vSorted [v] μ)
  | _ => .stuck
theorem nx_Sorted2 : NoExc vSorted2 := fun a μ e μ' h => by
  unfold vSorted2 at h
  split at h
  · split at h
    · split at h
      · split at h <;> cases h
      · cases h
    · exact nx_Sorted _ _ _ _ h
  · cases h
theorem ints_rv {c : Ct} {w : Wd} : ∀ is : List Int, RVs c w (is.map .int) (is.map V.int)
  | [] => rfl
  | i :: is => ⟨_, _, rfl, rfl, ints_rv is⟩
theorem cf_Sorted2 {c : Ct} {X : Cx} (hK : X.K = c.K) (hc : X.calm = true) (hu : X.A.units + 64 < cLine) : CaF c X (.builtin "sorted") vSorted2 := by
  intro pins s σ H xs us Q I r ⟨w, vs, e, sm, rv, h⟩
  unfold vSorted2 at h
  split at h
  · rename_i v
    split at h
    · rename_i ks vs' el
      split at h
      · rename_i is hi
        split at h
        · rename_i hl
          obtain ⟨x, ex, rx⟩ := rv.one
          subst ex
          obtain ⟨a, ys, e1, e2, e3⟩ := look_dct sm rx el
          subst e
          refine call_sortedDI hc pins s σ w.H [x] us Q I r ?_
          rcases e2 with ⟨kk, k1, k2, k3⟩ | ⟨kt, k1, k2, k3⟩
          · subst k1
            have hk := intK_keys hi
            refine ⟨a, kk.zip ys, is, by rw [e1], .inl k3, ?_, hl, fun zs p hp hs n => ?_⟩
            · rw [List.map_fst_zip (by omega), hk]
            · rw [sI_eq hp hs]
              exact h.new sm (ints_rv _) n
          · subst k1
            cases kt with
            | nil => exact absurd rfl k2.2
            | cons t _ => cases hi
        · exact h.elim
      · exact h.elim
    · exact cf_Sorted hK hu pins s σ H xs us Q I r ⟨w, [v], e, sm, rv, h⟩
  · exact h.elim
theorem f_sorted2 {c : Ct} : FunF c (.builtin "sorted") vSorted2 := ⟨fun _ h hc hu => cf_Sorted2 h hc (by omega), nx_Sorted2⟩
end G

/-! G26: x = {k: v for ..}. -/
namespace G
open PySem PySem.Spec PyProof.Rows L2
section
variable {c : Ct} {W : WX} {X : Cx} {pos : Pos}
theorem ps_setDc {i : Nat} {y : Str} {py : Pos} {kx vx tg iter : Expr} {ifs : List Expr} {scope : Scope} {own : List (Str × Nat)} {pos spos : Pos} {wi : TI} {g : TG} {tt : TT} {tk tv : TE} (hc : X.calm = true) (hN : X.N.Nodup) (hy : X.N[i]? = some y) (hyl : X.env.scope.names.lookup y = some .local)
    (hsw : swapsWith (.DictComp kx vx [⟨tg, iter, ifs, 0⟩] scope pos) (some (.Name y py)) spos.line X.env = pure true) (hi : PI X tg iter wi) (ok : BlkOk X.N X.env.scope scope own)
    (hg : ∀ (s : Shared) (H : Hp) (C : Addr) (cl : List (Str × Addr)) (fp : List Addr), PG (X.blk s H scope (compEnvC scope cl C X.env) fp) tg g) (ht : ∀ (s : Shared) (H : Hp) (C : Addr) (cl : List (Str × Addr)) (fp : List Addr), PTs (X.blk s H scope (compEnvC scope cl C X.env) fp) ifs tt)
    (hk : ∀ (s : Shared) (H : Hp) (C : Addr) (cl : List (Str × Addr)) (fp : List Addr), PE (X.blk s H scope (compEnvC scope cl C X.env) fp) kx tk)
    (he : ∀ (s : Shared) (H : Hp) (C : Addr) (cl : List (Str × Addr)) (fp : List Addr), PE (X.blk s H scope (compEnvC scope cl C X.env) fp) vx tv) (hs : ∀ x, foldedSetIterable iter X.env x = pure x := by intro _; rfl) :
    PS X (.Assign [.Name y py] (.DictComp kx vx [⟨tg, iter, ifs, 0⟩] scope pos) spos) (tAsg (tDc wi g tt tk tv (own.map (·.2))) (gName i)) := by
  refine ⟨fun pins s σ H D I h => ?_⟩
  rw [exec_Assign_Name_used _ _ _ _ hsw]
  refine wpAny_bind (wpAny_standAt (wpAny_bind ?_))
  show wpAny _ X.A (do let _ ← comprehension (.DictComp kx vx [⟨tg, iter, ifs, 0⟩] scope pos) scope X.env (firstIterPos [⟨tg, iter, ifs, 0⟩] pos) newDict false (eval iter X.env) (some (assign (.Name y py) X.env))) _ _ s
  have h : tDc wi g tt tk tv (own.map (·.2)) σ H (fun x H1 => gName i x σ H1 D.nx) := h
  refine wpAny_bind (thn (dc_core (Qf := fun _ s' => SP X pins D .next s') hc hN I hi ok hg ht hk he hs h fun L C s' m H' I' q hn f => ?_) fun _ s' hq => wpAny_pure (wpAny_pure hq))
  show wpAny _ _ (assign (.Name y py) X.env (.ref L)) _ _ _
  refine wpAny_assign_Name (store_ok2 (v := V.ref L) I' hN hy (.inl hyl) rfl (fun s2 I2 ⟨a, sb, ha⟩ => ?_) (.inr hyl))
  obtain ⟨f0, f1, f2, f3, f4, f5⟩ := f
  have haC : C ≠ a := by
    rcases ha with z | z
    · rw [z]; exact f1
    · exact fun e => f4 y a z e.symm
  refine ⟨m, hn.sameBut sb haC, fun h3 sb3 => ?_⟩
  exact ⟨_, H', I2.turned (t' := s2.toks) (fun b o hb e => (sb3.2 b hb).trans e) f0 f1 f3 f4 f5, q⟩
theorem sw_trueD {kx vx : Expr} {gs : List Comprehension} {scope : Scope} {pos py : Pos} {y : Str} {l : Nat} {env : Env} (hk : env.scope.kind = .function) (hy : env.scope.names.lookup y = some .local) (hl : (py.line == pos.line) = true)
    (ha : (scope.names.any fun (n, k) => n == y && (k == .local || k == .cell)) = false) : swapsWith (.DictComp kx vx gs scope pos) (some (.Name y py)) l env = pure true := by
  have ky : env.kindOf y = some .local := hy
  have hb : env.blockKind = .function := by unfold Env.blockKind; rw [hk]; rfl
  unfold swapsWith
  simp only [hb, ky, ha, Expr.pos, hl]
  rfl
theorem setdc_ (mu : Bool) (i : Nat) {y : Str} {py spos : Pos} {kx vx tg iter : Expr} {ifs : List Expr} {scope : Scope} {src : M Src} {t : Tgt} {mc : M Bool} {mk mv : M Val} (own : List (Str × Nat)) (hN : X.N.Nodup) (hi : PI X tg iter (TI' c W src))
    (hg : ∀ (s : Shared) (H : Hp) (C : Addr) (cl : List (Str × Addr)) (fp : List Addr), PG (X.blk s H scope (compEnvC scope cl C X.env) fp) tg (TG' c t)) (ht : ∀ (s : Shared) (H : Hp) (C : Addr) (cl : List (Str × Addr)) (fp : List Addr), PTs (X.blk s H scope (compEnvC scope cl C X.env) fp) ifs (TT' c W0 mc))
    (hk : ∀ (s : Shared) (H : Hp) (C : Addr) (cl : List (Str × Addr)) (fp : List Addr), PE (X.blk s H scope (compEnvC scope cl C X.env) fp) kx (TE' c W0 mk))
    (he : ∀ (s : Shared) (H : Hp) (C : Addr) (cl : List (Str × Addr)) (fp : List Addr), PE (X.blk s H scope (compEnvC scope cl C X.env) fp) vx (TE' c W0 mv)) (hsw : swapsWith (.DictComp kx vx [⟨tg, iter, ifs, 0⟩] scope pos) (some (.Name y py)) spos.line X.env = pure true := by exact sw_trueD rfl rfl rfl (by kernel_rfl)) (ok : blkC X.N X.env.scope scope own = true := by kernel_rfl) (hy : X.N[i]? = some y := by rfl) (hyl : X.env.scope.names.lookup y = some .local := by rfl) (hsl : ∀ i ∈ t.slots, i ∈ own.map (·.2) := by decide) (hc : X.calm = true := by rfl) (hs : ∀ x, foldedSetIterable iter X.env x = pure x := by intro _; rfl) :
    PS X (.Assign [.Name y py] (.DictComp kx vx [⟨tg, iter, ifs, 0⟩] scope pos) spos) (TS' c W (sasg (mdc mu src (own.map (·.2)) t mc mk mv) (.nm i))) :=
  (ps_setDc hc hN hy hyl hsw hi (blkOk_by ok) hg ht hk he hs).imp fun D σ H h => dc_reads mu (set_reads h) hsl
end
end G

/-! G27: stepping lemmas for two clauses, walks. -/
namespace G
open PySem
theorem catR_ok {r : Res (List Val)} {k : Mu → Res (List Val)} {vs ws : List Val} {μ1 μ2 : Mu} (h1 : r = .ok vs μ1) (h2 : k μ1 = .ok ws μ2) : catR r k = .ok (vs ++ ws) μ2 := by
  unfold catR; rw [h1]; dsimp only; rw [h2]
theorem lcO_pure {own : List Nat} {t : Tgt} {cond : M Bool} {inner : M (List Val)} {sl : Sl} {μ : Mu} (s : Val → Sl) (p : Val → Bool) (f : Val → List Val) : ∀ (xs : List Val), (∀ x ∈ xs, bindT t x (wipeS sl own) μ = some (s x)) → (∀ x ∈ xs, cond (s x) μ = .ok (p x) μ) → (∀ x ∈ xs, p x = true → inner (s x) μ = .ok (f x) μ) →
    lcO own t cond inner xs sl μ = .ok ((xs.filter p).flatMap f) μ
  | [], _, _, _ => rfl
  | x :: xs, h1, h2, h3 => by
    have ih := lcO_pure s p f xs (fun y hy => h1 y (List.mem_cons_of_mem _ hy)) (fun y hy => h2 y (List.mem_cons_of_mem _ hy)) fun y hy => h3 y (List.mem_cons_of_mem _ hy)
    unfold lcO
    rw [h1 x List.mem_cons_self]
    dsimp only
    rw [h2 x List.mem_cons_self]
    cases q : p x with
    | false =>
      dsimp only
      rw [ih, List.filter_cons_of_neg (by rw [q]; decide)]
    | true =>
      dsimp only
      rw [List.filter_cons_of_pos q, List.flatMap_cons]
      exact catR_ok (h3 x List.mem_cons_self q) ih
theorem mlc2_vals {src : M Src} {own : List Nat} {t : Tgt} {cond : M Bool} {inner : M (List Val)} {sl : Sl} {μ μ1 μ2 : Mu} {xs vs : List Val} (h1 : src sl μ = .ok (.vals xs) μ1) (h2 : lcO own t cond inner xs sl μ1 = .ok vs μ2) (hl : vs.length ≤ LIM) : mlc2 src own t cond inner sl μ = .ok vs μ2 := by
  unfold mlc2 andThen
  rw [h1]
  dsimp only
  rw [h2]
  exact short_ok hl
theorem mraw_vals {src : M Src} {own : List Nat} {t : Tgt} {cond : M Bool} {elt : M Val} {sl : Sl} {μ μ1 μ2 : Mu} {xs vs : List Val} (h1 : src sl μ = .ok (.vals xs) μ1) (h2 : lcL own t cond elt xs sl μ1 = .ok vs μ2) : mraw src own t cond elt sl μ = .ok vs μ2 := by
  unfold mraw
  rw [h1]
  exact h2
/-- a while whose turns all go on, by a number that falls -/
theorem swhile_inv {c : M Bool} {body : B} (P : Nat → Sl → Mu → Prop) (Q : Sl → Mu → Prop)
    (h : ∀ m sl μ, P m sl μ → (∃ μ1, c sl μ = .ok false μ1 ∧ Q sl μ1) ∨ (∃ μ1 sl' μ' m', c sl μ = .ok true μ1 ∧ (body sl μ1 = .nx sl' μ' ∨ body sl μ1 = .ct sl' μ') ∧ m' < m ∧ P m' sl' μ')) :
    ∀ (fuel m : Nat) (sl : Sl) (μ : Mu), m < fuel → P m sl μ → ∃ sl' μ', swhile c body fuel sl μ = .nx sl' μ' ∧ Q sl' μ'
  | 0, m, sl, μ, hm, _ => absurd hm (Nat.not_lt_zero _)
  | fuel + 1, m, sl, μ, hm, hp => by
    rcases h m sl μ hp with ⟨μ1, e1, q⟩ | ⟨μ1, sl', μ', m', e1, e2, hl, p⟩
    · exact ⟨sl, μ1, by unfold swhile; rw [e1], q⟩
    · obtain ⟨sl2, μ2, e3, q⟩ := swhile_inv P Q h fuel m' sl' μ' (by omega) p
      refine ⟨sl2, μ2, ?_, q⟩
      unfold swhile
      rw [e1]
      dsimp only
      rcases e2 with e2 | e2 <;> rw [e2] <;> exact e3
end G

/-! G28: evaluation by simp: the combinators applied, in a row. -/
namespace G
open PySem
def Res.bnd {α β : Type} (r : Res α) (k : α → Mu → Res β) : Res β := match r with
  | .ok a μ => k a μ
  | .exc e μ => .exc e μ
  | .stuck => .stuck
def Res.flw {α : Type} (r : Res α) (sl : Sl) (k : α → Mu → Flow) : Flow := match r with
  | .ok a μ => k a μ
  | .exc e μ => .exc e sl μ
  | .stuck => .stuck
def Flow.seq (f : Flow) (k : Sl → Mu → Flow) : Flow := match f with
  | .nx sl μ => k sl μ
  | r => r
section
variable {α β : Type} (sl : Sl) (μ : Mu)
theorem bnd_ok (a : α) (k : α → Mu → Res β) : (Res.ok a μ).bnd k = k a μ := rfl
theorem bnd_exc (e : Exn) (k : α → Mu → Res β) : (Res.exc e μ).bnd k = .exc e μ := rfl
theorem flw_ok (a : α) (k : α → Mu → Flow) : (Res.ok a μ).flw sl k = k a μ := rfl
theorem flw_exc (e : Exn) (k : α → Mu → Flow) : (Res.exc e μ).flw sl k = .exc e sl μ := rfl
theorem seq_nx' (k : Sl → Mu → Flow) : (Flow.nx sl μ).seq k = k sl μ := rfl
theorem seq_rt' (v : Val) (k : Sl → Mu → Flow) : (Flow.rt v μ).seq k = .rt v μ := rfl
theorem seq_exc' (e : Exn) (k : Sl → Mu → Flow) : (Flow.exc e sl μ).seq k = .exc e sl μ := rfl
theorem ev_then (m : M α) (f : α → M β) : andThen m f sl μ = (m sl μ).bnd fun a μ' => f a sl μ' := by unfold andThen Res.bnd; rfl
theorem ev_op2 (g : Val → Val → Mu → Res Val) (a b : M Val) : mop2 g a b sl μ = (a sl μ).bnd fun x μ1 => (b sl μ1).bnd fun y μ2 => g x y μ2 := by
  unfold mop2; rw [ev_then]; rfl
theorem ev_op1 (g : Val → Mu → Res Val) (a : M Val) : mop1 g a sl μ = (a sl μ).bnd fun x μ1 => g x μ1 := ev_then _ _ _ _
theorem ev_imm (m : M (List Val)) : mimm m sl μ = (m sl μ).bnd fun vs μ1 => .ok (.lst vs) μ1 := ev_then _ _ _ _
theorem ev_mut (m : M (List Val)) : mmut m sl μ = (m sl μ).bnd fun vs μ1 => .ok (.ref μ1.length) (μ1 ++ [.lst vs]) := ev_then _ _ _ _
theorem ev_call (g : List Val → Mu → Res α) (as : M (List Val)) : mcall g as sl μ = (as sl μ).bnd fun vs μ1 => g vs μ1 := ev_then _ _ _ _
theorem ev_anil : anil sl μ = .ok [] μ := rfl
theorem ev_acons (a : M Val) (r : M (List Val)) : acons a r sl μ = (a sl μ).bnd fun v μ1 => (r sl μ1).bnd fun vs μ2 => .ok (v :: vs) μ2 := by
  unfold acons; rw [ev_then]; rfl
theorem ev_cst (v : Val) : mcst v sl μ = .ok v μ := rfl
theorem ev_tup (m : M (List Val)) : mtup m sl μ = (m sl μ).bnd fun vs μ1 => if vs.length ≤ LIM then .ok (.tup vs) μ1 else .stuck := ev_then _ _ _ _
theorem ev_lst (m : M (List Val)) : mlst m sl μ = (m sl μ).bnd fun vs μ1 => if vs.length ≤ LIM then .ok vs μ1 else .stuck := ev_then _ _ _ _
theorem ev_seq (a b : B) : sseq a b sl μ = (a sl μ).seq fun sl' μ' => b sl' μ' := by unfold sseq Flow.seq; rfl
theorem ev_skip : sskip sl μ = .nx sl μ := rfl
theorem ev_asg (m : M Val) (i : Nat) : sasg m (.nm i) sl μ = (m sl μ).flw sl fun v μ1 => .nx (sl.set i (some v)) μ1 := by
  unfold sasg sthen Res.flw; rfl
theorem ev_ret (m : M Val) : sret m sl μ = (m sl μ).flw sl fun v μ1 => .rt v μ1 := by unfold sret sthen Res.flw; rfl
theorem ev_drop (m : M Val) : sdrop m sl μ = (m sl μ).flw sl fun v μ1 => .nx sl μ1 := by unfold sdrop sthen Res.flw; rfl
theorem ev_if (t : M Bool) (a b : B) : sif t a b sl μ = (t sl μ).flw sl fun k μ1 => if k then a sl μ1 else b sl μ1 := by
  unfold sif sthen Res.flw
  cases t sl μ with
  | ok k μ1 => cases k <;> rfl
  | _ => rfl
theorem ev_not (t : M Bool) : tnot t sl μ = (t sl μ).bnd fun k μ1 => .ok (!k) μ1 := ev_then _ _ _ _
theorem ev_and (a b : M Bool) : tand a b sl μ = (a sl μ).bnd fun k μ1 => if k then b sl μ1 else .ok false μ1 := by
  unfold tand; rw [ev_then]; congr 1; funext k μ1; cases k <;> rfl
theorem ev_or (a b : M Bool) : tor a b sl μ = (a sl μ).bnd fun k μ1 => if k then .ok true μ1 else b sl μ1 := by
  unfold tor; rw [ev_then]; congr 1; funext k μ1; cases k <;> rfl
theorem ev_ife (t : M Bool) (a b : M Val) : mife t a b sl μ = (t sl μ).bnd fun k μ1 => if k then a sl μ1 else b sl μ1 := by
  unfold mife; rw [ev_then]; congr 1; funext k μ1; cases k <;> rfl
def asB (v : Val) (μ : Mu) : Res Bool := match v with
  | .bl b => .ok b μ
  | _ => .stuck
theorem asB_bl (b : Bool) : asB (.bl b) μ = .ok b μ := rfl
theorem ev_bool (m : M Val) : mbool m sl μ = (m sl μ).bnd fun v μ1 => asB v μ1 := ev_then _ _ _ _
def asT (v : Val) (μ : Mu) : Res Bool := match vtruth μ v with
  | some b => .ok b μ
  | none => .stuck
theorem asT_bl (b : Bool) : asT (.bl b) μ = .ok b μ := by cases b <;> rfl
theorem ev_truth (m : M Val) : mtruth m sl μ = (m sl μ).bnd fun v μ1 => asT v μ1 := ev_then _ _ _ _
def lookR (o : Option (Option Val)) (μ : Mu) : Res Val := match o with
  | some (some v) => .ok v μ
  | _ => .stuck
theorem lookR_ok (v : Val) : lookR (some (some v)) μ = .ok v μ := rfl
theorem ev_mvar (i : Nat) : mvar i sl μ = lookR sl[i]? μ := rfl
theorem ev_var (i : Nat) (v : Val) (h : sl[i]? = some (some v)) : mvar i sl μ = .ok v μ := by unfold mvar; rw [h]
end
end G

/-! G29: more lemmas about built-ins over lists, values without references. -/
namespace G
open PySem
theorem bls_map {f : Val → Bool} : ∀ ws : List Val, blsOf (ws.map fun x => Val.bl (f x)) = some (ws.map f)
  | [] => rfl
  | x :: ws => by
    have ih := bls_map (f := f) ws
    simp only [List.map_cons, blsOf, ih, Option.map_some]
theorem any_map {f : Val → Bool} (ws : List Val) (μ : Mu) : vAny [.lst (ws.map fun x => Val.bl (f x))] μ = .ok (.bl (ws.any f)) μ := by
  show (match blsOf (ws.map fun x => Val.bl (f x)) with | some bs => Res.ok (Val.bl (bs.any id)) μ | none => .stuck) = _
  rw [bls_map]
  simp
theorem all_map {f : Val → Bool} (ws : List Val) (μ : Mu) : vAll [.lst (ws.map fun x => Val.bl (f x))] μ = .ok (.bl (ws.all f)) μ := by
  show (match blsOf (ws.map fun x => Val.bl (f x)) with | some bs => Res.ok (Val.bl (bs.all id)) μ | none => .stuck) = _
  rw [bls_map]
  simp
theorem bls_of : ∀ (bs : List Bool), blsOf (bs.map Val.bl) = some bs
  | [] => rfl
  | x :: ws => by
    have ih := bls_of ws
    simp only [List.map_cons, blsOf, ih, Option.map_some]
theorem any_bs (bs : List Bool) (μ : Mu) : vAny [.lst (bs.map Val.bl)] μ = .ok (.bl (bs.any id)) μ := by
  show (match blsOf (bs.map Val.bl) with | some bs => Res.ok (Val.bl (bs.any id)) μ | none => .stuck) = _
  rw [bls_of]
theorem all_bs (bs : List Bool) (μ : Mu) : vAll [.lst (bs.map Val.bl)] μ = .ok (.bl (bs.all id)) μ := by
  show (match blsOf (bs.map Val.bl) with | some bs => Res.ok (Val.bl (bs.all id)) μ | none => .stuck) = _
  rw [bls_of]
/-- [f(x) for x in xs] -/
theorem lcL_all {own : List Nat} {t : Tgt} {elt : M Val} {sl : Sl} {μ : Mu} (s : Val → Sl) (f : Val → Val) : ∀ (xs : List Val), (∀ x ∈ xs, bindT t x (wipeS sl own) μ = some (s x)) → (∀ x ∈ xs, elt (s x) μ = .ok (f x) μ) →
    lcL own t tyes elt xs sl μ = .ok (xs.map f) μ := fun xs hb he => by
  have := lcL_pure (cond := tyes) s (fun _ => true) f xs hb (fun _ _ => rfl) fun x hx _ => he x hx
  have e : xs.filter (fun _ => true) = xs := List.filter_eq_self.mpr fun _ _ => rfl
  rw [this, e]
theorem ups_zero {l : List Val} (h : ∀ v ∈ l, up v = 0) : ups l = 0 := by
  induction l with
  | nil => rfl
  | cons x xs ih =>
    show max (up x) (ups xs) = 0
    rw [h x List.mem_cons_self, ih fun v hv => h v (List.mem_cons_of_mem _ hv)]; rfl
theorem cl_zero {v : Val} (h : up v = 0) (k : Nat) : cl k v = true := cl_up v k (by omega)
end G

/-! G30: evaluation of comprehensions and loops over typed things. -/
namespace G
open PySem
/-! ### lists of typed things -/
def bindK {β : Type} (o : Option Sl) (k : Sl → Res β) : Res β := match o with
  | some s => k s
  | none => .stuck
theorem bindK_some {β : Type} (s : Sl) (k : Sl → Res β) : bindK (some s) k = k s := rfl
def cmp {α : Type} (g : α → Mu → Res (Option Val)) : List α → Mu → Res (List Val)
  | [], μ => .ok [] μ
  | x :: xs, μ => match g x μ with
    | .ok none μ1 => cmp g xs μ1
    | .ok (some v) μ1 => (match cmp g xs μ1 with
      | .ok vs μ2 => .ok (v :: vs) μ2
      | _ => .stuck)
    | _ => .stuck
def cat2 {α : Type} (g : α → Mu → Res (List Val)) : List α → Mu → Res (List Val)
  | [], μ => .ok [] μ
  | x :: xs, μ => match g x μ with
    | .ok vs μ1 => (match cat2 g xs μ1 with
      | .ok ws μ2 => .ok (vs ++ ws) μ2
      | _ => .stuck)
    | _ => .stuck
/-- one turn -/
def oneC (t : Tgt) (sl : Sl) (cond : M Bool) (elt : M Val) (x : Val) (μ : Mu) : Res (Option Val) :=
  bindK (bindT t x sl μ) fun s => (cond s μ).bnd fun k μ1 => if k then (elt s μ1).bnd fun v μ2 => .ok (some v) μ2 else .ok none μ1
def oneI (t : Tgt) (sl : Sl) (cond : M Bool) (inner : M (List Val)) (x : Val) (μ : Mu) : Res (List Val) :=
  bindK (bindT t x sl μ) fun s => (cond s μ).bnd fun k μ1 => if k then inner s μ1 else .ok [] μ1
theorem ev_lcL (own : List Nat) (t : Tgt) (cond : M Bool) (elt : M Val) (sl : Sl) : ∀ (xs : List Val) (μ : Mu), lcL own t cond elt xs sl μ = cmp (oneC t (wipeS sl own) cond elt) xs μ
  | [], μ => rfl
  | x :: xs, μ => by
    unfold lcL cmp oneC
    cases bindT t x (wipeS sl own) μ with
    | none => rfl
    | some s =>
      dsimp only [bindK]
      cases cond s μ with
      | ok k μ1 =>
        cases k with
        | false => exact ev_lcL own t cond elt sl xs μ1
        | true =>
          dsimp only [Res.bnd]
          rw [if_pos rfl]
          cases elt s μ1 with
          | ok v μ2 => dsimp only [Res.bnd]; rw [ev_lcL own t cond elt sl xs μ2]; rfl
          | _ => rfl
      | _ => rfl
theorem cat2_nx {α : Type} (g : α → Mu → Res (List Val)) : ∀ (xs : List α) (μ : Mu) (e : Exn) (μ' : Mu), cat2 g xs μ ≠ .exc e μ'
  | [], μ, e, μ', h => by cases h
  | x :: xs, μ, e, μ', h => by
    unfold cat2 at h
    split at h
    · split at h <;> cases h
    · cases h
theorem ev_lcO (own : List Nat) (t : Tgt) (cond : M Bool) (inner : M (List Val)) (sl : Sl) : ∀ (xs : List Val) (μ : Mu), lcO own t cond inner xs sl μ = cat2 (oneI t (wipeS sl own) cond inner) xs μ
  | [], μ => rfl
  | x :: xs, μ => by
    unfold lcO cat2 oneI
    cases bindT t x (wipeS sl own) μ with
    | none => rfl
    | some s =>
      dsimp only [bindK]
      cases cond s μ with
      | ok k μ1 =>
        cases k with
        | false =>
          dsimp only [Res.bnd]
          rw [if_neg (by decide)]
          dsimp only
          rw [ev_lcO own t cond inner sl xs μ1]
          have n := cat2_nx (oneI t (wipeS sl own) cond inner) xs μ1
          show _ = (match cat2 (oneI t (wipeS sl own) cond inner) xs μ1 with
            | .ok ws μ2 => Res.ok ([] ++ ws) μ2
            | _ => .stuck)
          cases h : cat2 (oneI t (wipeS sl own) cond inner) xs μ1 with
          | ok ws μ2 => rfl
          | exc e μ2 => exact absurd h (n e μ2)
          | stuck => rfl
        | true =>
          dsimp only [Res.bnd]
          rw [if_pos rfl]
          unfold catR
          cases inner s μ1 with
          | ok v μ2 => dsimp only; rw [ev_lcO own t cond inner sl xs μ2]; rfl
          | _ => rfl
      | _ => rfl
def cmpS (t : Tgt) (own : List Nat) (cond : M Bool) (elt : M Val) (sl : Sl) (s : Src) (μ : Mu) : Res (List Val) := match s with
  | .vals xs => cmp (oneC t (wipeS sl own) cond elt) xs μ
  | .live r e => lcR own t cond elt r e FUEL 0 sl μ
theorem cmpS_vals (t : Tgt) (own : List Nat) (cond : M Bool) (elt : M Val) (sl : Sl) (xs : List Val) (μ : Mu) : cmpS t own cond elt sl (.vals xs) μ = cmp (oneC t (wipeS sl own) cond elt) xs μ := rfl
def catS (t : Tgt) (own : List Nat) (cond : M Bool) (inner : M (List Val)) (sl : Sl) (s : Src) (μ : Mu) : Res (List Val) := match s with
  | .vals xs => cat2 (oneI t (wipeS sl own) cond inner) xs μ
  | .live r e => lcOR own t cond inner r e FUEL 0 sl μ
theorem catS_vals (t : Tgt) (own : List Nat) (cond : M Bool) (inner : M (List Val)) (sl : Sl) (xs : List Val) (μ : Mu) : catS t own cond inner sl (.vals xs) μ = cat2 (oneI t (wipeS sl own) cond inner) xs μ := rfl
theorem ev_mlc (src : M Src) (own : List Nat) (t : Tgt) (cond : M Bool) (elt : M Val) (sl : Sl) (μ : Mu) : mlc src own t cond elt sl μ = (src sl μ).bnd fun s μ1 => short (cmpS t own cond elt sl s μ1) := by
  unfold mlc; rw [ev_then]; congr 1; funext s μ1
  cases s with
  | vals xs => dsimp only; rw [ev_lcL]; rfl
  | live r e => rfl
theorem ev_mlc2 (src : M Src) (own : List Nat) (t : Tgt) (cond : M Bool) (inner : M (List Val)) (sl : Sl) (μ : Mu) : mlc2 src own t cond inner sl μ = (src sl μ).bnd fun s μ1 => short (catS t own cond inner sl s μ1) := by
  unfold mlc2; rw [ev_then]; congr 1; funext s μ1
  cases s with
  | vals xs => dsimp only; rw [ev_lcO]; rfl
  | live r e => rfl
/-- the inner clause: an exception ends all -/
def Res.bndS {α β : Type} (r : Res α) (k : α → Mu → Res β) : Res β := match r with
  | .ok a μ => k a μ
  | _ => .stuck
theorem bndS_ok {α β : Type} (a : α) (μ : Mu) (k : α → Mu → Res β) : (Res.ok a μ).bndS k = k a μ := rfl
theorem ev_mraw (src : M Src) (own : List Nat) (t : Tgt) (cond : M Bool) (elt : M Val) (sl : Sl) (μ : Mu) : mraw src own t cond elt sl μ = (src sl μ).bndS fun s μ1 => cmpS t own cond elt sl s μ1 := by
  unfold mraw Res.bndS
  cases src sl μ with
  | ok s μ1 =>
    dsimp only
    cases s with
    | vals xs => show lcL own t cond elt xs sl μ1 = _; rw [ev_lcL]; rfl
    | live r e => rfl
  | _ => rfl
section
variable {α β : Type}
theorem cmp_map (g : β → Mu → Res (Option Val)) (e : α → β) : ∀ (xs : List α) (μ : Mu), cmp g (xs.map e) μ = cmp (fun x μ => g (e x) μ) xs μ
  | [], μ => rfl
  | x :: xs, μ => by
    have ih := cmp_map g e xs
    show (match g (e x) μ with
    | .ok none μ1 => cmp g (xs.map e) μ1
    | Res.ok (some v) μ1 => (match cmp g (xs.map e) μ1 with
      | .ok vs μ2 => Res.ok (v :: vs) μ2
      | _ => .stuck)
    | _ => .stuck) = _
    simp only [ih]
    rfl
theorem cat2_map (g : β → Mu → Res (List Val)) (e : α → β) : ∀ (xs : List α) (μ : Mu), cat2 g (xs.map e) μ = cat2 (fun x μ => g (e x) μ) xs μ
  | [], μ => rfl
  | x :: xs, μ => by
    have ih := cat2_map g e xs
    show (match g (e x) μ with
    | .ok vs μ1 => (match cat2 g (xs.map e) μ1 with
      | .ok ws μ2 => Res.ok (vs ++ ws) μ2
      | _ => .stuck)
    | _ => .stuck) = _
    simp only [ih]
    rfl
theorem cmp_pure (f : α → Val) : ∀ (xs : List α) (μ : Mu), cmp (fun x μ => .ok (some (f x)) μ) xs μ = .ok (xs.map f) μ
  | [], μ => rfl
  | x :: xs, μ => by
    show (match cmp (fun x μ => Res.ok (some (f x)) μ) xs μ with
      | .ok vs μ2 => Res.ok (f x :: vs) μ2
      | _ => .stuck) = _
    rw [cmp_pure f xs μ]; rfl
theorem cmp_if (p : α → Bool) (f : α → Val) : ∀ (xs : List α) (μ : Mu), cmp (fun x μ => if p x then .ok (some (f x)) μ else .ok none μ) xs μ = .ok ((xs.filter p).map f) μ
  | [], μ => rfl
  | x :: xs, μ => by
    have ih := cmp_if p f xs μ
    show (match (if p x = true then Res.ok (some (f x)) μ else .ok none μ : Res (Option Val)) with
    | .ok none μ1 => cmp (fun x μ => if p x = true then Res.ok (some (f x)) μ else .ok none μ) xs μ1
    | .ok (some v) μ1 => (match cmp (fun x μ => if p x = true then Res.ok (some (f x)) μ else .ok none μ) xs μ1 with
      | .ok vs μ2 => Res.ok (v :: vs) μ2
      | _ => .stuck)
    | _ => .stuck) = _
    cases h : p x with
    | true => rw [if_pos rfl, List.filter_cons_of_pos h]; dsimp only; rw [ih]; rfl
    | false => rw [if_neg (by decide), List.filter_cons_of_neg (by rw [h]; decide)]; exact ih
theorem cat2_pure (f : α → List Val) : ∀ (xs : List α) (μ : Mu), cat2 (fun x μ => .ok (f x) μ) xs μ = .ok (xs.flatMap f) μ
  | [], μ => rfl
  | x :: xs, μ => by
    show (match cat2 (fun x μ => Res.ok (f x) μ) xs μ with
      | .ok vs μ2 => Res.ok (f x ++ vs) μ2
      | _ => .stuck) = _
    rw [cat2_pure f xs μ]; rfl
theorem cat2_if (p : α → Bool) (f : α → List Val) : ∀ (xs : List α) (μ : Mu), cat2 (fun x μ => if p x then .ok (f x) μ else .ok [] μ) xs μ = .ok ((xs.filter p).flatMap f) μ
  | [], μ => rfl
  | x :: xs, μ => by
    have ih := cat2_if p f xs μ
    show (match (if p x = true then Res.ok (f x) μ else .ok [] μ : Res (List Val)) with
    | .ok vs μ1 => (match cat2 (fun x μ => if p x = true then Res.ok (f x) μ else .ok [] μ) xs μ1 with
      | .ok ws μ2 => Res.ok (vs ++ ws) μ2
      | _ => .stuck)
    | _ => .stuck) = _
    cases h : p x with
    | true => rw [if_pos rfl, List.filter_cons_of_pos h]; dsimp only; rw [ih]; rfl
    | false => rw [if_neg (by decide), List.filter_cons_of_neg (by rw [h]; decide)]; dsimp only; rw [ih]; rfl
/-- with what is known of the items -/
theorem cmp_cg {g g' : α → Mu → Res (Option Val)} : ∀ {xs : List α} {μ : Mu}, (∀ x, x ∈ xs → ∀ μ, g x μ = g' x μ) → cmp g xs μ = cmp g' xs μ
  | [], _, _ => rfl
  | x :: xs, μ, h => by
    unfold cmp
    rw [h x List.mem_cons_self μ]
    have ih : ∀ μ, cmp g xs μ = cmp g' xs μ := fun μ => cmp_cg fun y hy => h y (List.mem_cons_of_mem _ hy)
    simp only [ih]
theorem cat2_cg {g g' : α → Mu → Res (List Val)} : ∀ {xs : List α} {μ : Mu}, (∀ x, x ∈ xs → ∀ μ, g x μ = g' x μ) → cat2 g xs μ = cat2 g' xs μ
  | [], _, _ => rfl
  | x :: xs, μ, h => by
    unfold cat2
    rw [h x List.mem_cons_self μ]
    have ih : ∀ μ, cat2 g xs μ = cat2 g' xs μ := fun μ => cat2_cg fun y hy => h y (List.mem_cons_of_mem _ hy)
    simp only [ih]
end
/-! ### targets -/
theorem bindT_nm (i : Nat) (v : Val) (sl : Sl) (μ : Mu) : bindT (.nm i) v sl μ = some (sl.set i (some v)) := rfl
theorem bindT_tup (ts : List Tgt) (xs : List Val) (sl : Sl) (μ : Mu) : bindT (.tp ts) (.tup xs) sl μ = bindTs ts xs sl μ := rfl
theorem bindT_lst (ts : List Tgt) (xs : List Val) (sl : Sl) (μ : Mu) : bindT (.tp ts) (.lst xs) sl μ = bindTs ts xs sl μ := rfl
theorem bindTs_nil (sl : Sl) (μ : Mu) : bindTs [] [] sl μ = some sl := rfl
def bindO (o : Option Sl) (k : Sl → Option Sl) : Option Sl := match o with
  | some s => k s
  | none => none
theorem bindO_some (s : Sl) (k : Sl → Option Sl) : bindO (some s) k = k s := rfl
theorem bindTs_cons (t : Tgt) (ts : List Tgt) (x : Val) (xs : List Val) (sl : Sl) (μ : Mu) : bindTs (t :: ts) (x :: xs) sl μ = bindO (bindT t x sl μ) fun s => bindTs ts xs s μ := rfl
theorem wipe_nil (sl : Sl) : wipeS sl [] = sl := rfl
theorem wipe_cons (sl : Sl) (v : Nat) (vs : List Nat) : wipeS sl (v :: vs) = (wipeS sl vs).set v none := rfl
/-! ### what is walked -/
def asSrc (v : Val) (μ : Mu) : Res Src := match srcOf μ v with
  | some s => .ok s μ
  | none => .stuck
theorem ev_iseq (m : M Val) (sl : Sl) (μ : Mu) : iseq m sl μ = (m sl μ).bnd fun v μ1 => asSrc v μ1 := ev_then _ _ _ _
theorem asSrc_lst (xs : List Val) (μ : Mu) : asSrc (.lst xs) μ = .ok (.vals xs) μ := rfl
theorem asSrc_rol (xs : List Val) (μ : Mu) : asSrc (.rol xs) μ = .ok (.vals xs) μ := rfl
theorem asSrc_tup (xs : List Val) (μ : Mu) : asSrc (.tup xs) μ = .ok (.vals xs) μ := rfl
end G

/-! G31: evaluation of values. -/
namespace G
open PySem
section
variable {α β : Type} (sl : Sl) (μ : Mu)
theorem ev_mand (a b : M Val) : mand a b sl μ = (a sl μ).bnd fun v μ1 => (asT v μ1).bnd fun k μ2 => if k then b sl μ2 else .ok v μ2 := by
  unfold mand; rw [ev_then]; congr 1; funext v μ1; unfold asT
  cases vtruth μ1 v with
  | none => rfl
  | some k => cases k <;> rfl
theorem ev_mor (a b : M Val) : mor a b sl μ = (a sl μ).bnd fun v μ1 => (asT v μ1).bnd fun k μ2 => if k then .ok v μ2 else b sl μ2 := by
  unfold mor; rw [ev_then]; congr 1; funext v μ1; unfold asT
  cases vtruth μ1 v with
  | none => rfl
  | some k => cases k <;> rfl
theorem ev_mnot (a : M Val) : mnot a sl μ = (a sl μ).bnd fun v μ1 => (asT v μ1).bnd fun k μ2 => .ok (.bl (!k)) μ2 := by
  unfold mnot; rw [ev_then]; congr 1; funext v μ1; unfold asT
  cases vtruth μ1 v with
  | none => rfl
  | some k => cases k <;> rfl
theorem ev_tife (t a b : M Bool) : tife t a b sl μ = (t sl μ).bnd fun k μ1 => if k then a sl μ1 else b sl μ1 := by
  unfold tife; rw [ev_then]; congr 1; funext k μ1; cases k <;> rfl
theorem ev_tyes : tyes sl μ = .ok true μ := rfl
theorem and_bl (k j : Bool) : (if k = true then Res.ok (Val.bl j) μ else .ok (.bl k) μ) = .ok (.bl (k && j)) μ := by cases k <;> rfl
theorem or_bl (k j : Bool) : (if k = true then Res.ok (Val.bl k) μ else .ok (.bl j) μ) = .ok (.bl (k || j)) μ := by cases k <;> rfl
theorem and_blF (k j : Bool) : (if k = true then Res.ok (Val.bl j) μ else .ok (.bl false) μ) = .ok (.bl (k && j)) μ := by cases k <;> rfl
theorem and_t (k j : Bool) : (if k = true then Res.ok j μ else .ok false μ) = .ok (k && j) μ := by cases k <;> rfl
theorem or_t (k j : Bool) : (if k = true then Res.ok true μ else .ok j μ) = .ok (k || j) μ := by cases k <;> rfl
def chB (z : Val) (r : Res Val) (μ : Mu) : Res Val := match z with
  | .bl true => r
  | .bl false => .ok (.bl false) μ
  | _ => .stuck
theorem chB_bl (k : Bool) (r : Res Val) : chB (.bl k) r μ = if k then r else .ok (.bl false) μ := by cases k <;> rfl
theorem ev_chain (g g' : Val → Val → Mu → Res Val) (a b d : M Val) : mchain g g' a b d sl μ = (a sl μ).bnd fun x μ1 => (b sl μ1).bnd fun y μ2 => (g x y μ2).bnd fun z μ3 => chB z ((d sl μ3).bnd fun u μ4 => g' y u μ4) μ3 := by
  unfold mchain; rw [ev_then]; congr 1; funext x μ1; rw [ev_then]; congr 1; funext y μ2; rw [ev_then]; congr 1; funext z μ3
  unfold chB
  cases z with
  | bl k => cases k <;> rfl
  | _ => rfl
theorem ev_op2F (g : Val → Val → Mu → Res (List Val)) (a b : M Val) : mop2F g a b sl μ = (a sl μ).bnd fun x μ1 => (b sl μ1).bnd fun y μ2 => g x y μ2 := by
  unfold mop2F; rw [ev_then]; rfl
theorem ev_op1F (g : Val → Mu → Res (List Val)) (a : M Val) : mop1F g a sl μ = (a sl μ).bnd fun x μ1 => g x μ1 := ev_then _ _ _ _
def onTy (T : String) (v : Val) (μ : Mu) (r : Res α) : Res α := if isTy T v μ then r else .stuck
theorem ev_meth (T : String) (g : Val → List Val → Mu → Res α) (o : M Val) (as : M (List Val)) : mmeth T g o as sl μ = (o sl μ).bnd fun v μ1 => onTy T v μ1 ((as sl μ1).bnd fun vs μ2 => g v vs μ2) := by
  unfold mmeth; rw [ev_then]; rfl
def mkT (vs : List Val) (μ : Mu) : Res Val := if vs.length ≤ LIM then .ok (.tup vs) μ else .stuck
def mkL (vs : List Val) (μ : Mu) : Res (List Val) := if vs.length ≤ LIM then .ok vs μ else .stuck
theorem ev_tupT (m : M (List Val)) : mtup m sl μ = (m sl μ).bnd fun vs μ1 => mkT vs μ1 := ev_then _ _ _ _
theorem ev_lstL (m : M (List Val)) : mlst m sl μ = (m sl μ).bnd fun vs μ1 => mkL vs μ1 := ev_then _ _ _ _
theorem mkT_ok (vs : List Val) (h : vs.length ≤ LIM) : mkT vs μ = .ok (.tup vs) μ := if_pos h
theorem mkL_ok (vs : List Val) (h : vs.length ≤ LIM) : mkL vs μ = .ok vs μ := if_pos h
/-! ### statements -/
def forS (t : Tgt) (body : B) (s : Src) : B := match s with
  | .vals xs => forL t body xs
  | .live r e => forR t body r e FUEL 0
theorem ev_for (src : M Src) (t : Tgt) (body : B) : sfor src t body sl μ = (src sl μ).flw sl fun s μ1 => forS t body s sl μ1 := by
  unfold sfor sthen Res.flw
  cases src sl μ with
  | ok s μ1 => cases s <;> rfl
  | _ => rfl
def putF (o : Option Mu) (sl : Sl) : Flow := match o with
  | some μ => .nx sl μ
  | none => .stuck
theorem putF_some : putF (some μ) sl = .nx sl μ := rfl
theorem ev_setI (mv mo mi : M Val) : ssetI mv mo mi sl μ = (mv sl μ).flw sl fun v μ1 => (mo sl μ1).flw sl fun o μ2 => (mi sl μ2).flw sl fun i μ3 => putF (vPut o i v μ3) sl := by
  unfold ssetI sthen Res.flw putF; rfl
theorem ev_raise (i : Nat) : sraise i sl μ = .exc ⟨i, []⟩ sl μ := rfl
theorem ev_brk : sbrk sl μ = .bk sl μ := rfl
theorem ev_cnt : scnt sl μ = .ct sl μ := rfl
theorem ev_retN : sretN sl μ = .rt .non μ := rfl
def tryK (mt : Nat → Option Bool) (f : Flow) (suite : B) : Flow := match f with
  | .exc e sl' μ' => (match mt e.c with
    | some true => (match suite sl' μ' with
      | .exc _ _ _ => .stuck
      | r => r)
    | some false => .exc e sl' μ'
    | none => .stuck)
  | r => r
theorem ev_try (mt : Nat → Option Bool) (body suite : B) : stry mt body suite sl μ = tryK mt (body sl μ) suite := rfl
theorem tryK_rt (mt : Nat → Option Bool) (v : Val) (suite : B) : tryK mt (.rt v μ) suite = .rt v μ := rfl
theorem tryK_nx (mt : Nat → Option Bool) (suite : B) : tryK mt (.nx sl μ) suite = .nx sl μ := rfl
def noX (f : Flow) : Flow := match f with
  | .exc _ _ _ => .stuck
  | r => r
theorem noX_rt (v : Val) : noX (.rt v μ) = .rt v μ := rfl
theorem noX_nx : noX (.nx sl μ) = .nx sl μ := rfl
theorem tryK_exc (mt : Nat → Option Bool) (e : Exn) (suite : B) (h : mt e.c = some true) : tryK mt (.exc e sl μ) suite = noX (suite sl μ) := by
  unfold tryK; dsimp only; rw [h]; rfl
def bindF (o : Option Sl) (μ : Mu) : Flow := match o with
  | some sl => .nx sl μ
  | none => .stuck
theorem bindF_some : bindF (some sl) μ = .nx sl μ := rfl
theorem ev_asgT (m : M Val) (ts : List Tgt) : sasg m (.tp ts) sl μ = (m sl μ).flw sl fun v μ1 => bindF (bindT (.tp ts) v sl μ1) μ1 := by
  unfold sasg sthen Res.flw bindF; rfl
def augK (f : Int → Int → Int) (i : Nat) (a : Option (Option Val)) (r : Res Val) (sl : Sl) : Flow := match a with
  | some (some (.int a)) => (match r with
    | .ok (.int b) μ1 => .nx (sl.set i (some (.int (f a b)))) μ1
    | .exc e μ1 => .exc e sl μ1
    | _ => .stuck)
  | _ => .stuck
theorem ev_aug (f : Int → Int → Int) (i : Nat) (m : M Val) : saug f i m sl μ = augK f i sl[i]? (m sl μ) sl := by
  unfold saug augK
  rcases sl[i]? with _ | _ | v
  · rfl
  · rfl
  · cases v <;> rfl
theorem augK_ok (f : Int → Int → Int) (i : Nat) (a b : Int) : augK f i (some (some (.int a))) (.ok (.int b) μ) sl = .nx (sl.set i (some (.int (f a b)))) μ := rfl
/-! ### what is walked -/
def rg1 (vs : List Val) (μ : Mu) : Res Src := match vs with
  | [.int j] => if small62 j then .ok (.vals (rgVals 0 j)) μ else .stuck
  | _ => .stuck
def rg2 (vs : List Val) (μ : Mu) : Res Src := match vs with
  | [.int i, .int j] => if small62 i && small62 j then .ok (.vals (rgVals i j)) μ else .stuck
  | _ => .stuck
theorem ev_irng1 (m : M (List Val)) : irng1 m sl μ = (m sl μ).bnd fun vs μ1 => rg1 vs μ1 := ev_then _ _ _ _
theorem ev_irng2 (m : M (List Val)) : irng2 m sl μ = (m sl μ).bnd fun vs μ1 => rg2 vs μ1 := ev_then _ _ _ _
theorem small_nat {n : Nat} (h : n ≤ LIM) : small62 (n : Int) = true := by
  unfold LIM at h
  unfold small62
  rw [Bool.and_eq_true]
  exact ⟨decide_eq_true (by omega), decide_eq_true (by omega)⟩
abbrev eN (n : Nat) : Val := .int n
theorem rg1_nat (n : Nat) (h : n ≤ LIM) : rg1 [.int (n : Int)] μ = .ok (.vals ((List.range n).map eN)) μ := by
  unfold rg1
  dsimp only
  rw [if_pos (small_nat h)]
  unfold rgVals
  have e : ((n : Int) - 0).toNat = n := by omega
  rw [e]
  congr 3
  funext i
  show Val.int (0 + (i : Int)) = .int i
  rw [Int.zero_add]
theorem rgVals_nat (a b : Nat) : rgVals (a : Int) (b : Int) = (List.range' a (b - a)).map eN := by
  unfold rgVals
  have e : ((b : Int) - (a : Int)).toNat = b - a := by omega
  rw [e, List.range'_eq_map_range, List.map_map]
  apply List.map_congr_left
  intro i _
  show Val.int ((a : Int) + i) = .int ((a + i : Nat) : Int)
  congr 1
theorem rg2_nat (a b : Nat) (ha : a ≤ LIM) (h : b ≤ LIM) : rg2 [.int (a : Int), .int (b : Int)] μ = .ok (.vals ((List.range' a (b - a)).map eN)) μ := by
  unfold rg2
  dsimp only
  rw [if_pos (by rw [small_nat ha, small_nat h]; rfl), rgVals_nat]
theorem rg2_zero (b : Nat) (h : b ≤ LIM) : rg2 [.int 0, .int (b : Int)] μ = .ok (.vals ((List.range' 0 b).map eN)) μ := rg2_nat μ 0 b (Nat.zero_le _) h
theorem rg2_one (b : Nat) (h : b ≤ LIM) : rg2 [.int 1, .int (b : Int)] μ = .ok (.vals ((List.range' 1 (b - 1)).map eN)) μ := rg2_nat μ 1 b (by unfold LIM; omega) h
def en1 (vs : List Val) (μ : Mu) : Res Src := match vs with
  | [v] => (match srcOf μ v with
    | some (.vals xs) => .ok (.vals (enums 0 xs)) μ
    | some (.live r _) => .ok (.live r true) μ
    | none => .stuck)
  | _ => .stuck
theorem ev_ienum (m : M (List Val)) : ienum m sl μ = (m sl μ).bnd fun vs μ1 => en1 vs μ1 := ev_then _ _ _ _
theorem en1_tup (xs : List Val) : en1 [.tup xs] μ = .ok (.vals (enums 0 xs)) μ := rfl
theorem en1_lst (xs : List Val) : en1 [.lst xs] μ = .ok (.vals (enums 0 xs)) μ := rfl
theorem enums_map (e : α → Val) : ∀ (xs : List α) (i : Nat), enums i (xs.map e) = (xs.zipIdx i).map fun p => .tup [.int (p.2 : Nat), e p.1]
  | [], i => rfl
  | x :: xs, i => by
    show Val.tup [.int i, e x] :: enums (i + 1) (xs.map e) = _
    rw [enums_map e xs (i + 1)]; rfl
theorem zips_map (e : α → Val) (f : β → Val) : ∀ (xs : List α) (ys : List β), zips (xs.map e) (ys.map f) = (xs.zip ys).map fun p => .tup [e p.1, f p.2]
  | [], ys => by cases ys <;> rfl
  | x :: xs, [] => rfl
  | x :: xs, y :: ys => by
    show Val.tup [e x, f y] :: zips (xs.map e) (ys.map f) = _
    rw [zips_map e f xs ys]; rfl
def zp1 (vs : List Val) (μ : Mu) : Res Src := match vs with
  | [.tup xs, .tup ys] => .ok (.vals (zips xs ys)) μ
  | [.lst xs, .lst ys] => .ok (.vals (zips xs ys)) μ
  | _ => .stuck
theorem ev_izip (m : M (List Val)) : izip m sl μ = (m sl μ).bnd fun vs μ1 => zp1 vs μ1 := ev_then _ _ _ _
theorem zp1_tup (xs ys : List Val) : zp1 [.tup xs, .tup ys] μ = .ok (.vals (zips xs ys)) μ := rfl
theorem zp1_lst (xs ys : List Val) : zp1 [.lst xs, .lst ys] μ = .ok (.vals (zips xs ys)) μ := rfl
/-! ### slices -/
theorem ev_slice (g : Val → Option Int → Option Int → Mu → Res Val) (a : M Val) (lo hi : M (Option Int)) : mslice g a lo hi sl μ = (a sl μ).bnd fun x μ1 => (lo sl μ1).bnd fun l μ2 => (hi sl μ2).bnd fun u μ3 => g x l u μ3 := by
  unfold mslice; simp only [ev_then]
theorem ev_onone : onone sl μ = .ok none μ := rfl
def asI (v : Val) (μ : Mu) : Res (Option Int) := match v with
  | .int i => .ok (some i) μ
  | _ => .stuck
theorem ev_osome (m : M Val) : osome m sl μ = (m sl μ).bnd fun v μ1 => asI v μ1 := ev_then _ _ _ _
theorem asI_int (i : Int) : asI (.int i) μ = .ok (some i) μ := rfl
theorem slice_tup (xs : List Val) (lo hi : Option Int) : vSlice (.tup xs) lo hi μ = .ok (.tup (vCut xs lo hi)) μ := rfl
theorem slice_lst (xs : List Val) (lo hi : Option Int) : vSlice (.lst xs) lo hi μ = .ok (.lst (vCut xs lo hi)) μ := rfl
theorem slice_lst' (xs : List Val) (lo hi : Option Int) : vSliceL (.lst xs) lo hi μ = .ok (vCut xs lo hi) μ := rfl
end
section
variable {α : Type} (μ : Mu)
instance : Inhabited Val := ⟨.non⟩
theorem atI_get (xs : List Val) (i : Nat) (h : i < xs.length) : L2.atI xs (i : Int) = some (xs[i]!) := by
  have := L2.atI_nat (j := i) (v := xs[i]) (List.getElem?_eq_getElem h)
  rw [this]
  congr 1
  rw [List.getElem!_eq_getElem?_getD, List.getElem?_eq_getElem h]
  try rfl
theorem map_get [Inhabited α] (e : α → Val) (xs : List α) (i : Nat) (h : i < xs.length) : (xs.map e)[i]! = e (xs[i]!) := by
  rw [List.getElem!_eq_getElem?_getD, List.getElem!_eq_getElem?_getD, List.getElem?_map, List.getElem?_eq_getElem h]
  try rfl
theorem ix_tup (xs : List Val) (i : Nat) (h : i < xs.length) : vSub2 (.tup xs) (.int (i : Int)) μ = .ok (xs[i]!) μ := by
  show (match L2.atI xs i with | some v => Res.ok v μ | none => .stuck) = _
  rw [atI_get xs i h]
theorem ix_lstN (xs : List Val) (i : Nat) (h : i < xs.length) : vSub2 (.lst xs) (.int (i : Int)) μ = .ok (xs[i]!) μ := by
  show (match L2.atI xs i with | some v => Res.ok v μ | none => .stuck) = _
  rw [atI_get xs i h]
theorem ix_tupM [Inhabited α] (e : α → Val) (xs : List α) (i : Nat) (h : i < xs.length) : vSub2 (.tup (xs.map e)) (.int (i : Int)) μ = .ok (e (xs[i]!)) μ := by
  rw [ix_tup μ _ i (by rw [List.length_map]; exact h), map_get e xs i h]
theorem ix_lstM [Inhabited α] (e : α → Val) (xs : List α) (i : Nat) (h : i < xs.length) : vSub2 (.lst (xs.map e)) (.int (i : Int)) μ = .ok (e (xs[i]!)) μ := by
  rw [ix_lstN μ _ i (by rw [List.length_map]; exact h), map_get e xs i h]
theorem len_tup (xs : List Val) : vLen [.tup xs] μ = .ok (.int (xs.length : Nat)) μ := rfl
theorem len_lst (xs : List Val) : vLen [.lst xs] μ = .ok (.int (xs.length : Nat)) μ := rfl
theorem tup_lst (xs : List Val) : vTuple [.lst xs] μ = .ok (.tup xs) μ := rfl
theorem tup_tup (xs : List Val) : vTuple [.tup xs] μ = .ok (.tup xs) μ := rfl
theorem list_lst (xs : List Val) : vList [.lst xs] μ = .ok xs μ := rfl
theorem list_tup (xs : List Val) : vList [.tup xs] μ = .ok xs μ := rfl
theorem shortOk (xs : List Val) (h : xs.length ≤ LIM) : short (.ok xs μ) = .ok xs μ := if_pos h
theorem add_tup (a b : List Val) (h : a.length + b.length ≤ LIM) : vAdd2 (.tup a) (.tup b) μ = .ok (.tup (a ++ b)) μ := if_pos h
theorem add_lst (a b : List Val) (h : a.length + b.length ≤ LIM) : vAdd2 (.lst a) (.lst b) μ = .ok (.lst (a ++ b)) μ := if_pos h
theorem add_int (i j : Int) : vAdd2 (.int i) (.int j) μ = .ok (.int (i + j)) μ := rfl
theorem sub_int (i j : Int) : vSub (.int i) (.int j) μ = .ok (.int (i - j)) μ := rfl
theorem neg_int (i : Int) : vNeg (.int i) μ = .ok (.int (-i)) μ := rfl
theorem int_int (i : Int) : vInt [.int i] μ = .ok (.int i) μ := rfl
theorem int_bl (k : Bool) : vInt [.bl k] μ = .ok (.int (if k then 1 else 0)) μ := rfl
theorem ne_int (i j : Int) : vNe (.int i) (.int j) μ = .ok (.bl (!(i == j))) μ := rfl
theorem le_int (i j : Int) : vLe (.int i) (.int j) μ = .ok (.bl (decide (i ≤ j))) μ := rfl
theorem gt_int (i j : Int) : vGt (.int i) (.int j) μ = .ok (.bl (decide (j < i))) μ := rfl
theorem ge_intE (i j : Int) : vGe (.int i) (.int j) μ = .ok (.bl (decide (j ≤ i))) μ := rfl
theorem eq_bl (i j : Bool) : vEq (.bl i) (.bl j) μ = .ok (.bl (i == j)) μ := rfl
theorem ne_bl (i j : Bool) : vNe (.bl i) (.bl j) μ = .ok (.bl (!(i == j))) μ := rfl
theorem isN_ok (v : Val) : vIsN v .non μ = .ok (.bl (isNonB v)) μ := rfl
theorem notN_ok (v : Val) : vNotN v .non μ = .ok (.bl (!isNonB v)) μ := rfl
theorem sorted_nd (v : Val) (h : ∀ ks vs, look μ v ≠ .dct ks vs) : vSorted2 [v] μ = vSorted [v] μ := by
  unfold vSorted2
  dsimp only
  cases e : look μ v with
  | dct ks vs => exact absurd e (h ks vs)
  | _ => rfl

theorem isi_tup_tuple (xs : List Val) : vIsi [(.tup xs), .ty "tuple"] μ = .ok (.bl true) μ := rfl
theorem isi_tup_list (xs : List Val) : vIsi [(.tup xs), .ty "list"] μ = .ok (.bl false) μ := rfl
theorem isi_tup_int (xs : List Val) : vIsi [(.tup xs), .ty "int"] μ = .ok (.bl false) μ := rfl
theorem isi_tup_str (xs : List Val) : vIsi [(.tup xs), .ty "str"] μ = .ok (.bl false) μ := rfl
theorem isi_tup_bool (xs : List Val) : vIsi [(.tup xs), .ty "bool"] μ = .ok (.bl false) μ := rfl
theorem isi_tup_dict (xs : List Val) : vIsi [(.tup xs), .ty "dict"] μ = .ok (.bl false) μ := rfl
theorem isi_lst_tuple (xs : List Val) : vIsi [(.lst xs), .ty "tuple"] μ = .ok (.bl false) μ := rfl
theorem isi_lst_list (xs : List Val) : vIsi [(.lst xs), .ty "list"] μ = .ok (.bl true) μ := rfl
theorem isi_lst_int (xs : List Val) : vIsi [(.lst xs), .ty "int"] μ = .ok (.bl false) μ := rfl
theorem isi_lst_str (xs : List Val) : vIsi [(.lst xs), .ty "str"] μ = .ok (.bl false) μ := rfl
theorem isi_lst_bool (xs : List Val) : vIsi [(.lst xs), .ty "bool"] μ = .ok (.bl false) μ := rfl
theorem isi_lst_dict (xs : List Val) : vIsi [(.lst xs), .ty "dict"] μ = .ok (.bl false) μ := rfl
theorem isi_int_tuple (i : Int) : vIsi [(.int i), .ty "tuple"] μ = .ok (.bl false) μ := rfl
theorem isi_int_list (i : Int) : vIsi [(.int i), .ty "list"] μ = .ok (.bl false) μ := rfl
theorem isi_int_int (i : Int) : vIsi [(.int i), .ty "int"] μ = .ok (.bl true) μ := rfl
theorem isi_int_str (i : Int) : vIsi [(.int i), .ty "str"] μ = .ok (.bl false) μ := rfl
theorem isi_int_bool (i : Int) : vIsi [(.int i), .ty "bool"] μ = .ok (.bl false) μ := rfl
theorem isi_int_dict (i : Int) : vIsi [(.int i), .ty "dict"] μ = .ok (.bl false) μ := rfl
theorem isi_str_tuple (s : Str) : vIsi [(.str s), .ty "tuple"] μ = .ok (.bl false) μ := rfl
theorem isi_str_list (s : Str) : vIsi [(.str s), .ty "list"] μ = .ok (.bl false) μ := rfl
theorem isi_str_int (s : Str) : vIsi [(.str s), .ty "int"] μ = .ok (.bl false) μ := rfl
theorem isi_str_str (s : Str) : vIsi [(.str s), .ty "str"] μ = .ok (.bl true) μ := rfl
theorem isi_str_bool (s : Str) : vIsi [(.str s), .ty "bool"] μ = .ok (.bl false) μ := rfl
theorem isi_str_dict (s : Str) : vIsi [(.str s), .ty "dict"] μ = .ok (.bl false) μ := rfl
theorem isi_bl_tuple (b : Bool) : vIsi [(.bl b), .ty "tuple"] μ = .ok (.bl false) μ := rfl
theorem isi_bl_list (b : Bool) : vIsi [(.bl b), .ty "list"] μ = .ok (.bl false) μ := rfl
theorem isi_bl_int (b : Bool) : vIsi [(.bl b), .ty "int"] μ = .ok (.bl true) μ := rfl
theorem isi_bl_str (b : Bool) : vIsi [(.bl b), .ty "str"] μ = .ok (.bl false) μ := rfl
theorem isi_bl_bool (b : Bool) : vIsi [(.bl b), .ty "bool"] μ = .ok (.bl true) μ := rfl
theorem isi_bl_dict (b : Bool) : vIsi [(.bl b), .ty "dict"] μ = .ok (.bl false) μ := rfl
theorem isi_non_tuple  : vIsi [.non, .ty "tuple"] μ = .ok (.bl false) μ := rfl
theorem isi_non_list  : vIsi [.non, .ty "list"] μ = .ok (.bl false) μ := rfl
theorem isi_non_int  : vIsi [.non, .ty "int"] μ = .ok (.bl false) μ := rfl
theorem isi_non_str  : vIsi [.non, .ty "str"] μ = .ok (.bl false) μ := rfl
theorem isi_non_bool  : vIsi [.non, .ty "bool"] μ = .ok (.bl false) μ := rfl
theorem isi_non_dict  : vIsi [.non, .ty "dict"] μ = .ok (.bl false) μ := rfl
theorem isn_tup (xs : List Val) : isNonB (.tup xs) = false := rfl
theorem isn_lst (xs : List Val) : isNonB (.lst xs) = false := rfl
theorem isn_int (i : Int) : isNonB (.int i) = false := rfl
theorem isn_str (s : Str) : isNonB (.str s) = false := rfl
theorem isn_bl (b : Bool) : isNonB (.bl b) = false := rfl
theorem isn_non  : isNonB .non = true := rfl
theorem ixt0 (a : Val) (xs : List Val) : vSub2 (.tup (a :: xs)) (.int 0) μ = .ok a μ := ix_tup μ _ 0 (by simp only [List.length_cons]; omega)
theorem ixt1 (a b : Val) (xs : List Val) : vSub2 (.tup (a :: b :: xs)) (.int 1) μ = .ok b μ := ix_tup μ _ 1 (by simp only [List.length_cons]; omega)
theorem ixt2 (a b c : Val) (xs : List Val) : vSub2 (.tup (a :: b :: c :: xs)) (.int 2) μ = .ok c μ := ix_tup μ _ 2 (by simp only [List.length_cons]; omega)
theorem ixt3 (a b c d : Val) (xs : List Val) : vSub2 (.tup (a :: b :: c :: d :: xs)) (.int 3) μ = .ok d μ := ix_tup μ _ 3 (by simp only [List.length_cons]; omega)
theorem ixt4 (a b c d e : Val) (xs : List Val) : vSub2 (.tup (a :: b :: c :: d :: e :: xs)) (.int 4) μ = .ok e μ := ix_tup μ _ 4 (by simp only [List.length_cons]; omega)
theorem ixt5 (a b c d e f : Val) (xs : List Val) : vSub2 (.tup (a :: b :: c :: d :: e :: f :: xs)) (.int 5) μ = .ok f μ := ix_tup μ _ 5 (by simp only [List.length_cons]; omega)
theorem ixl0 (a : Val) (xs : List Val) : vSub2 (.lst (a :: xs)) (.int 0) μ = .ok a μ := ix_lstN μ _ 0 (by simp only [List.length_cons]; omega)
theorem ixl1 (a b : Val) (xs : List Val) : vSub2 (.lst (a :: b :: xs)) (.int 1) μ = .ok b μ := ix_lstN μ _ 1 (by simp only [List.length_cons]; omega)
theorem ixl2 (a b c : Val) (xs : List Val) : vSub2 (.lst (a :: b :: c :: xs)) (.int 2) μ = .ok c μ := ix_lstN μ _ 2 (by simp only [List.length_cons]; omega)
theorem ixl3 (a b c d : Val) (xs : List Val) : vSub2 (.lst (a :: b :: c :: d :: xs)) (.int 3) μ = .ok d μ := ix_lstN μ _ 3 (by simp only [List.length_cons]; omega)
theorem ixl4 (a b c d e : Val) (xs : List Val) : vSub2 (.lst (a :: b :: c :: d :: e :: xs)) (.int 4) μ = .ok e μ := ix_lstN μ _ 4 (by simp only [List.length_cons]; omega)
theorem ixl5 (a b c d e f : Val) (xs : List Val) : vSub2 (.lst (a :: b :: c :: d :: e :: f :: xs)) (.int 5) μ = .ok f μ := ix_lstN μ _ 5 (by simp only [List.length_cons]; omega)
end
/-! ### the order of evaluation -/
section
variable {α β : Type}
theorem forS_vals (t : Tgt) (body : B) (xs : List Val) (sl : Sl) (μ : Mu) : forS t body (.vals xs) sl μ = forL t body xs sl μ := rfl
end
end G

/-! G32: what changes, at written places; dicts with numbers for keys. -/
namespace G
open PySem
section
variable (r : Mu)

theorem vIn2_rl0 (x : Val) (xs : List Val) : vIn2 x (.ref 0) (.lst xs :: r) = vIn2 x (.lst xs) (.lst xs :: r) := rfl
theorem vIn2_rd0 (x : Val) (ks : List DKey) (us : List Val) : vIn2 x (.ref 0) (.dct ks us :: r) = vIn2 x (.dct ks us) (.dct ks us :: r) := rfl
theorem vNotIn2_rl0 (x : Val) (xs : List Val) : vNotIn2 x (.ref 0) (.lst xs :: r) = vNotIn2 x (.lst xs) (.lst xs :: r) := rfl
theorem vNotIn2_rd0 (x : Val) (ks : List DKey) (us : List Val) : vNotIn2 x (.ref 0) (.dct ks us :: r) = vNotIn2 x (.dct ks us) (.dct ks us :: r) := rfl
theorem vSub2_rl0 (x : Val) (xs : List Val) : vSub2 (.ref 0) x (.lst xs :: r) = vSub2 (.lst xs) x (.lst xs :: r) := rfl
theorem vSub2_rd0 (x : Val) (ks : List DKey) (us : List Val) : vSub2 (.ref 0) x (.dct ks us :: r) = vSub2 (.dct ks us) x (.dct ks us :: r) := rfl
theorem vLen_rl0 (xs : List Val) : vLen [.ref 0] (.lst xs :: r) = vLen [.lst xs] (.lst xs :: r) := rfl
theorem vTuple_rl0 (xs : List Val) : vTuple [.ref 0] (.lst xs :: r) = vTuple [.lst xs] (.lst xs :: r) := rfl
theorem vList_rl0 (xs : List Val) : vList [.ref 0] (.lst xs :: r) = vList [.lst xs] (.lst xs :: r) := rfl
theorem vSum_rl0 (xs : List Val) : vSum [.ref 0] (.lst xs :: r) = vSum [.lst xs] (.lst xs :: r) := rfl
theorem vAny_rl0 (xs : List Val) : vAny [.ref 0] (.lst xs :: r) = vAny [.lst xs] (.lst xs :: r) := rfl
theorem vAll_rl0 (xs : List Val) : vAll [.ref 0] (.lst xs :: r) = vAll [.lst xs] (.lst xs :: r) := rfl
theorem vSorted2_rl0 (xs : List Val) : vSorted2 [.ref 0] (.lst xs :: r) = vSorted2 [.lst xs] (.lst xs :: r) := rfl
theorem vMin_rl0 (xs : List Val) : vMin [.ref 0] (.lst xs :: r) = vMin [.lst xs] (.lst xs :: r) := rfl
theorem vMax_rl0 (xs : List Val) : vMax [.ref 0] (.lst xs :: r) = vMax [.lst xs] (.lst xs :: r) := rfl
theorem vSorted_rl0 (xs : List Val) : vSorted [.ref 0] (.lst xs :: r) = vSorted [.lst xs] (.lst xs :: r) := rfl
theorem vSorted2_rd0 (ks : List DKey) (us : List Val) : vSorted2 [.ref 0] (.dct ks us :: r) = vSorted2 [.dct ks us] (.dct ks us :: r) := rfl
theorem vEq_rl0 (x : Val) (xs : List Val) : vEq (.ref 0) x (.lst xs :: r) = vEq (.lst xs) x (.lst xs :: r) := rfl
theorem vNe_rl0 (x : Val) (xs : List Val) : vNe (.ref 0) x (.lst xs :: r) = vNe (.lst xs) x (.lst xs :: r) := rfl
theorem asT_rl0 (xs : List Val) : asT (.ref 0) (.lst xs :: r) = asT (.lst xs) (.lst xs :: r) := rfl
theorem vAppend_r0 (y : Val) (xs : List Val) (h : xs.length < LIM) : vAppend (.ref 0) [y] (.lst xs :: r) = .ok .non (.lst (xs ++ [y]) :: r) := if_pos h
theorem vExtend_r0 (ys : List Val) (xs : List Val) (h : xs.length + ys.length ≤ LIM) : vExtend (.ref 0) [.lst ys] (.lst xs :: r) = .ok .non (.lst (xs ++ ys) :: r) := if_pos h
theorem onTy_r0 {α : Type} (xs : List Val) (k : Res α) : onTy "list" (.ref 0) (.lst xs :: r) k = k := rfl
theorem vIn2_rl1 (a : Ob) (x : Val) (xs : List Val) : vIn2 x (.ref 1) (a :: .lst xs :: r) = vIn2 x (.lst xs) (a :: .lst xs :: r) := rfl
theorem vIn2_rd1 (a : Ob) (x : Val) (ks : List DKey) (us : List Val) : vIn2 x (.ref 1) (a :: .dct ks us :: r) = vIn2 x (.dct ks us) (a :: .dct ks us :: r) := rfl
theorem vNotIn2_rl1 (a : Ob) (x : Val) (xs : List Val) : vNotIn2 x (.ref 1) (a :: .lst xs :: r) = vNotIn2 x (.lst xs) (a :: .lst xs :: r) := rfl
theorem vNotIn2_rd1 (a : Ob) (x : Val) (ks : List DKey) (us : List Val) : vNotIn2 x (.ref 1) (a :: .dct ks us :: r) = vNotIn2 x (.dct ks us) (a :: .dct ks us :: r) := rfl
theorem vSub2_rl1 (a : Ob) (x : Val) (xs : List Val) : vSub2 (.ref 1) x (a :: .lst xs :: r) = vSub2 (.lst xs) x (a :: .lst xs :: r) := rfl
theorem vSub2_rd1 (a : Ob) (x : Val) (ks : List DKey) (us : List Val) : vSub2 (.ref 1) x (a :: .dct ks us :: r) = vSub2 (.dct ks us) x (a :: .dct ks us :: r) := rfl
theorem vLen_rl1 (a : Ob) (xs : List Val) : vLen [.ref 1] (a :: .lst xs :: r) = vLen [.lst xs] (a :: .lst xs :: r) := rfl
theorem vTuple_rl1 (a : Ob) (xs : List Val) : vTuple [.ref 1] (a :: .lst xs :: r) = vTuple [.lst xs] (a :: .lst xs :: r) := rfl
theorem vList_rl1 (a : Ob) (xs : List Val) : vList [.ref 1] (a :: .lst xs :: r) = vList [.lst xs] (a :: .lst xs :: r) := rfl
theorem vSum_rl1 (a : Ob) (xs : List Val) : vSum [.ref 1] (a :: .lst xs :: r) = vSum [.lst xs] (a :: .lst xs :: r) := rfl
theorem vAny_rl1 (a : Ob) (xs : List Val) : vAny [.ref 1] (a :: .lst xs :: r) = vAny [.lst xs] (a :: .lst xs :: r) := rfl
theorem vAll_rl1 (a : Ob) (xs : List Val) : vAll [.ref 1] (a :: .lst xs :: r) = vAll [.lst xs] (a :: .lst xs :: r) := rfl
theorem vSorted2_rl1 (a : Ob) (xs : List Val) : vSorted2 [.ref 1] (a :: .lst xs :: r) = vSorted2 [.lst xs] (a :: .lst xs :: r) := rfl
theorem vMin_rl1 (a : Ob) (xs : List Val) : vMin [.ref 1] (a :: .lst xs :: r) = vMin [.lst xs] (a :: .lst xs :: r) := rfl
theorem vMax_rl1 (a : Ob) (xs : List Val) : vMax [.ref 1] (a :: .lst xs :: r) = vMax [.lst xs] (a :: .lst xs :: r) := rfl
theorem vSorted_rl1 (a : Ob) (xs : List Val) : vSorted [.ref 1] (a :: .lst xs :: r) = vSorted [.lst xs] (a :: .lst xs :: r) := rfl
theorem vSorted2_rd1 (a : Ob) (ks : List DKey) (us : List Val) : vSorted2 [.ref 1] (a :: .dct ks us :: r) = vSorted2 [.dct ks us] (a :: .dct ks us :: r) := rfl
theorem vEq_rl1 (a : Ob) (x : Val) (xs : List Val) : vEq (.ref 1) x (a :: .lst xs :: r) = vEq (.lst xs) x (a :: .lst xs :: r) := rfl
theorem vNe_rl1 (a : Ob) (x : Val) (xs : List Val) : vNe (.ref 1) x (a :: .lst xs :: r) = vNe (.lst xs) x (a :: .lst xs :: r) := rfl
theorem asT_rl1 (a : Ob) (xs : List Val) : asT (.ref 1) (a :: .lst xs :: r) = asT (.lst xs) (a :: .lst xs :: r) := rfl
theorem vAppend_r1 (a : Ob) (y : Val) (xs : List Val) (h : xs.length < LIM) : vAppend (.ref 1) [y] (a :: .lst xs :: r) = .ok .non (a :: .lst (xs ++ [y]) :: r) := if_pos h
theorem vExtend_r1 (a : Ob) (ys : List Val) (xs : List Val) (h : xs.length + ys.length ≤ LIM) : vExtend (.ref 1) [.lst ys] (a :: .lst xs :: r) = .ok .non (a :: .lst (xs ++ ys) :: r) := if_pos h
theorem onTy_r1 {α : Type} (a : Ob) (xs : List Val) (k : Res α) : onTy "list" (.ref 1) (a :: .lst xs :: r) k = k := rfl
theorem vIn2_rl2 (a b : Ob) (x : Val) (xs : List Val) : vIn2 x (.ref 2) (a :: b :: .lst xs :: r) = vIn2 x (.lst xs) (a :: b :: .lst xs :: r) := rfl
theorem vIn2_rd2 (a b : Ob) (x : Val) (ks : List DKey) (us : List Val) : vIn2 x (.ref 2) (a :: b :: .dct ks us :: r) = vIn2 x (.dct ks us) (a :: b :: .dct ks us :: r) := rfl
theorem vNotIn2_rl2 (a b : Ob) (x : Val) (xs : List Val) : vNotIn2 x (.ref 2) (a :: b :: .lst xs :: r) = vNotIn2 x (.lst xs) (a :: b :: .lst xs :: r) := rfl
theorem vNotIn2_rd2 (a b : Ob) (x : Val) (ks : List DKey) (us : List Val) : vNotIn2 x (.ref 2) (a :: b :: .dct ks us :: r) = vNotIn2 x (.dct ks us) (a :: b :: .dct ks us :: r) := rfl
theorem vSub2_rl2 (a b : Ob) (x : Val) (xs : List Val) : vSub2 (.ref 2) x (a :: b :: .lst xs :: r) = vSub2 (.lst xs) x (a :: b :: .lst xs :: r) := rfl
theorem vSub2_rd2 (a b : Ob) (x : Val) (ks : List DKey) (us : List Val) : vSub2 (.ref 2) x (a :: b :: .dct ks us :: r) = vSub2 (.dct ks us) x (a :: b :: .dct ks us :: r) := rfl
theorem vLen_rl2 (a b : Ob) (xs : List Val) : vLen [.ref 2] (a :: b :: .lst xs :: r) = vLen [.lst xs] (a :: b :: .lst xs :: r) := rfl
theorem vTuple_rl2 (a b : Ob) (xs : List Val) : vTuple [.ref 2] (a :: b :: .lst xs :: r) = vTuple [.lst xs] (a :: b :: .lst xs :: r) := rfl
theorem vList_rl2 (a b : Ob) (xs : List Val) : vList [.ref 2] (a :: b :: .lst xs :: r) = vList [.lst xs] (a :: b :: .lst xs :: r) := rfl
theorem vSum_rl2 (a b : Ob) (xs : List Val) : vSum [.ref 2] (a :: b :: .lst xs :: r) = vSum [.lst xs] (a :: b :: .lst xs :: r) := rfl
theorem vAny_rl2 (a b : Ob) (xs : List Val) : vAny [.ref 2] (a :: b :: .lst xs :: r) = vAny [.lst xs] (a :: b :: .lst xs :: r) := rfl
theorem vAll_rl2 (a b : Ob) (xs : List Val) : vAll [.ref 2] (a :: b :: .lst xs :: r) = vAll [.lst xs] (a :: b :: .lst xs :: r) := rfl
theorem vSorted2_rl2 (a b : Ob) (xs : List Val) : vSorted2 [.ref 2] (a :: b :: .lst xs :: r) = vSorted2 [.lst xs] (a :: b :: .lst xs :: r) := rfl
theorem vMin_rl2 (a b : Ob) (xs : List Val) : vMin [.ref 2] (a :: b :: .lst xs :: r) = vMin [.lst xs] (a :: b :: .lst xs :: r) := rfl
theorem vMax_rl2 (a b : Ob) (xs : List Val) : vMax [.ref 2] (a :: b :: .lst xs :: r) = vMax [.lst xs] (a :: b :: .lst xs :: r) := rfl
theorem vSorted_rl2 (a b : Ob) (xs : List Val) : vSorted [.ref 2] (a :: b :: .lst xs :: r) = vSorted [.lst xs] (a :: b :: .lst xs :: r) := rfl
theorem vSorted2_rd2 (a b : Ob) (ks : List DKey) (us : List Val) : vSorted2 [.ref 2] (a :: b :: .dct ks us :: r) = vSorted2 [.dct ks us] (a :: b :: .dct ks us :: r) := rfl
theorem vEq_rl2 (a b : Ob) (x : Val) (xs : List Val) : vEq (.ref 2) x (a :: b :: .lst xs :: r) = vEq (.lst xs) x (a :: b :: .lst xs :: r) := rfl
theorem vNe_rl2 (a b : Ob) (x : Val) (xs : List Val) : vNe (.ref 2) x (a :: b :: .lst xs :: r) = vNe (.lst xs) x (a :: b :: .lst xs :: r) := rfl
theorem asT_rl2 (a b : Ob) (xs : List Val) : asT (.ref 2) (a :: b :: .lst xs :: r) = asT (.lst xs) (a :: b :: .lst xs :: r) := rfl
theorem vAppend_r2 (a b : Ob) (y : Val) (xs : List Val) (h : xs.length < LIM) : vAppend (.ref 2) [y] (a :: b :: .lst xs :: r) = .ok .non (a :: b :: .lst (xs ++ [y]) :: r) := if_pos h
theorem vExtend_r2 (a b : Ob) (ys : List Val) (xs : List Val) (h : xs.length + ys.length ≤ LIM) : vExtend (.ref 2) [.lst ys] (a :: b :: .lst xs :: r) = .ok .non (a :: b :: .lst (xs ++ ys) :: r) := if_pos h
theorem onTy_r2 {α : Type} (a b : Ob) (xs : List Val) (k : Res α) : onTy "list" (.ref 2) (a :: b :: .lst xs :: r) k = k := rfl
theorem vIn2_rl3 (a b c : Ob) (x : Val) (xs : List Val) : vIn2 x (.ref 3) (a :: b :: c :: .lst xs :: r) = vIn2 x (.lst xs) (a :: b :: c :: .lst xs :: r) := rfl
theorem vIn2_rd3 (a b c : Ob) (x : Val) (ks : List DKey) (us : List Val) : vIn2 x (.ref 3) (a :: b :: c :: .dct ks us :: r) = vIn2 x (.dct ks us) (a :: b :: c :: .dct ks us :: r) := rfl
theorem vNotIn2_rl3 (a b c : Ob) (x : Val) (xs : List Val) : vNotIn2 x (.ref 3) (a :: b :: c :: .lst xs :: r) = vNotIn2 x (.lst xs) (a :: b :: c :: .lst xs :: r) := rfl
theorem vNotIn2_rd3 (a b c : Ob) (x : Val) (ks : List DKey) (us : List Val) : vNotIn2 x (.ref 3) (a :: b :: c :: .dct ks us :: r) = vNotIn2 x (.dct ks us) (a :: b :: c :: .dct ks us :: r) := rfl
theorem vSub2_rl3 (a b c : Ob) (x : Val) (xs : List Val) : vSub2 (.ref 3) x (a :: b :: c :: .lst xs :: r) = vSub2 (.lst xs) x (a :: b :: c :: .lst xs :: r) := rfl
theorem vSub2_rd3 (a b c : Ob) (x : Val) (ks : List DKey) (us : List Val) : vSub2 (.ref 3) x (a :: b :: c :: .dct ks us :: r) = vSub2 (.dct ks us) x (a :: b :: c :: .dct ks us :: r) := rfl
theorem vLen_rl3 (a b c : Ob) (xs : List Val) : vLen [.ref 3] (a :: b :: c :: .lst xs :: r) = vLen [.lst xs] (a :: b :: c :: .lst xs :: r) := rfl
theorem vTuple_rl3 (a b c : Ob) (xs : List Val) : vTuple [.ref 3] (a :: b :: c :: .lst xs :: r) = vTuple [.lst xs] (a :: b :: c :: .lst xs :: r) := rfl
theorem vList_rl3 (a b c : Ob) (xs : List Val) : vList [.ref 3] (a :: b :: c :: .lst xs :: r) = vList [.lst xs] (a :: b :: c :: .lst xs :: r) := rfl
theorem vSum_rl3 (a b c : Ob) (xs : List Val) : vSum [.ref 3] (a :: b :: c :: .lst xs :: r) = vSum [.lst xs] (a :: b :: c :: .lst xs :: r) := rfl
theorem vAny_rl3 (a b c : Ob) (xs : List Val) : vAny [.ref 3] (a :: b :: c :: .lst xs :: r) = vAny [.lst xs] (a :: b :: c :: .lst xs :: r) := rfl
theorem vAll_rl3 (a b c : Ob) (xs : List Val) : vAll [.ref 3] (a :: b :: c :: .lst xs :: r) = vAll [.lst xs] (a :: b :: c :: .lst xs :: r) := rfl
theorem vSorted2_rl3 (a b c : Ob) (xs : List Val) : vSorted2 [.ref 3] (a :: b :: c :: .lst xs :: r) = vSorted2 [.lst xs] (a :: b :: c :: .lst xs :: r) := rfl
theorem vMin_rl3 (a b c : Ob) (xs : List Val) : vMin [.ref 3] (a :: b :: c :: .lst xs :: r) = vMin [.lst xs] (a :: b :: c :: .lst xs :: r) := rfl
theorem vMax_rl3 (a b c : Ob) (xs : List Val) : vMax [.ref 3] (a :: b :: c :: .lst xs :: r) = vMax [.lst xs] (a :: b :: c :: .lst xs :: r) := rfl
theorem vSorted_rl3 (a b c : Ob) (xs : List Val) : vSorted [.ref 3] (a :: b :: c :: .lst xs :: r) = vSorted [.lst xs] (a :: b :: c :: .lst xs :: r) := rfl
theorem vSorted2_rd3 (a b c : Ob) (ks : List DKey) (us : List Val) : vSorted2 [.ref 3] (a :: b :: c :: .dct ks us :: r) = vSorted2 [.dct ks us] (a :: b :: c :: .dct ks us :: r) := rfl
theorem vEq_rl3 (a b c : Ob) (x : Val) (xs : List Val) : vEq (.ref 3) x (a :: b :: c :: .lst xs :: r) = vEq (.lst xs) x (a :: b :: c :: .lst xs :: r) := rfl
theorem vNe_rl3 (a b c : Ob) (x : Val) (xs : List Val) : vNe (.ref 3) x (a :: b :: c :: .lst xs :: r) = vNe (.lst xs) x (a :: b :: c :: .lst xs :: r) := rfl
theorem asT_rl3 (a b c : Ob) (xs : List Val) : asT (.ref 3) (a :: b :: c :: .lst xs :: r) = asT (.lst xs) (a :: b :: c :: .lst xs :: r) := rfl
theorem vAppend_r3 (a b c : Ob) (y : Val) (xs : List Val) (h : xs.length < LIM) : vAppend (.ref 3) [y] (a :: b :: c :: .lst xs :: r) = .ok .non (a :: b :: c :: .lst (xs ++ [y]) :: r) := if_pos h
theorem vExtend_r3 (a b c : Ob) (ys : List Val) (xs : List Val) (h : xs.length + ys.length ≤ LIM) : vExtend (.ref 3) [.lst ys] (a :: b :: c :: .lst xs :: r) = .ok .non (a :: b :: c :: .lst (xs ++ ys) :: r) := if_pos h
theorem onTy_r3 {α : Type} (a b c : Ob) (xs : List Val) (k : Res α) : onTy "list" (.ref 3) (a :: b :: c :: .lst xs :: r) k = k := rfl
theorem vIn2_rl4 (a b c d : Ob) (x : Val) (xs : List Val) : vIn2 x (.ref 4) (a :: b :: c :: d :: .lst xs :: r) = vIn2 x (.lst xs) (a :: b :: c :: d :: .lst xs :: r) := rfl
theorem vIn2_rd4 (a b c d : Ob) (x : Val) (ks : List DKey) (us : List Val) : vIn2 x (.ref 4) (a :: b :: c :: d :: .dct ks us :: r) = vIn2 x (.dct ks us) (a :: b :: c :: d :: .dct ks us :: r) := rfl
theorem vNotIn2_rl4 (a b c d : Ob) (x : Val) (xs : List Val) : vNotIn2 x (.ref 4) (a :: b :: c :: d :: .lst xs :: r) = vNotIn2 x (.lst xs) (a :: b :: c :: d :: .lst xs :: r) := rfl
theorem vNotIn2_rd4 (a b c d : Ob) (x : Val) (ks : List DKey) (us : List Val) : vNotIn2 x (.ref 4) (a :: b :: c :: d :: .dct ks us :: r) = vNotIn2 x (.dct ks us) (a :: b :: c :: d :: .dct ks us :: r) := rfl
theorem vSub2_rl4 (a b c d : Ob) (x : Val) (xs : List Val) : vSub2 (.ref 4) x (a :: b :: c :: d :: .lst xs :: r) = vSub2 (.lst xs) x (a :: b :: c :: d :: .lst xs :: r) := rfl
theorem vSub2_rd4 (a b c d : Ob) (x : Val) (ks : List DKey) (us : List Val) : vSub2 (.ref 4) x (a :: b :: c :: d :: .dct ks us :: r) = vSub2 (.dct ks us) x (a :: b :: c :: d :: .dct ks us :: r) := rfl
theorem vLen_rl4 (a b c d : Ob) (xs : List Val) : vLen [.ref 4] (a :: b :: c :: d :: .lst xs :: r) = vLen [.lst xs] (a :: b :: c :: d :: .lst xs :: r) := rfl
theorem vTuple_rl4 (a b c d : Ob) (xs : List Val) : vTuple [.ref 4] (a :: b :: c :: d :: .lst xs :: r) = vTuple [.lst xs] (a :: b :: c :: d :: .lst xs :: r) := rfl
theorem vList_rl4 (a b c d : Ob) (xs : List Val) : vList [.ref 4] (a :: b :: c :: d :: .lst xs :: r) = vList [.lst xs] (a :: b :: c :: d :: .lst xs :: r) := rfl
theorem vSum_rl4 (a b c d : Ob) (xs : List Val) : vSum [.ref 4] (a :: b :: c :: d :: .lst xs :: r) = vSum [.lst xs] (a :: b :: c :: d :: .lst xs :: r) := rfl
theorem vAny_rl4 (a b c d : Ob) (xs : List Val) : vAny [.ref 4] (a :: b :: c :: d :: .lst xs :: r) = vAny [.lst xs] (a :: b :: c :: d :: .lst xs :: r) := rfl
theorem vAll_rl4 (a b c d : Ob) (xs : List Val) : vAll [.ref 4] (a :: b :: c :: d :: .lst xs :: r) = vAll [.lst xs] (a :: b :: c :: d :: .lst xs :: r) := rfl
theorem vSorted2_rl4 (a b c d : Ob) (xs : List Val) : vSorted2 [.ref 4] (a :: b :: c :: d :: .lst xs :: r) = vSorted2 [.lst xs] (a :: b :: c :: d :: .lst xs :: r) := rfl
theorem vMin_rl4 (a b c d : Ob) (xs : List Val) : vMin [.ref 4] (a :: b :: c :: d :: .lst xs :: r) = vMin [.lst xs] (a :: b :: c :: d :: .lst xs :: r) := rfl
theorem vMax_rl4 (a b c d : Ob) (xs : List Val) : vMax [.ref 4] (a :: b :: c :: d :: .lst xs :: r) = vMax [.lst xs] (a :: b :: c :: d :: .lst xs :: r) := rfl
theorem vSorted_rl4 (a b c d : Ob) (xs : List Val) : vSorted [.ref 4] (a :: b :: c :: d :: .lst xs :: r) = vSorted [.lst xs] (a :: b :: c :: d :: .lst xs :: r) := rfl
theorem vSorted2_rd4 (a b c d : Ob) (ks : List DKey) (us : List Val) : vSorted2 [.ref 4] (a :: b :: c :: d :: .dct ks us :: r) = vSorted2 [.dct ks us] (a :: b :: c :: d :: .dct ks us :: r) := rfl
theorem vEq_rl4 (a b c d : Ob) (x : Val) (xs : List Val) : vEq (.ref 4) x (a :: b :: c :: d :: .lst xs :: r) = vEq (.lst xs) x (a :: b :: c :: d :: .lst xs :: r) := rfl
theorem vNe_rl4 (a b c d : Ob) (x : Val) (xs : List Val) : vNe (.ref 4) x (a :: b :: c :: d :: .lst xs :: r) = vNe (.lst xs) x (a :: b :: c :: d :: .lst xs :: r) := rfl
theorem asT_rl4 (a b c d : Ob) (xs : List Val) : asT (.ref 4) (a :: b :: c :: d :: .lst xs :: r) = asT (.lst xs) (a :: b :: c :: d :: .lst xs :: r) := rfl
theorem vAppend_r4 (a b c d : Ob) (y : Val) (xs : List Val) (h : xs.length < LIM) : vAppend (.ref 4) [y] (a :: b :: c :: d :: .lst xs :: r) = .ok .non (a :: b :: c :: d :: .lst (xs ++ [y]) :: r) := if_pos h
theorem vExtend_r4 (a b c d : Ob) (ys : List Val) (xs : List Val) (h : xs.length + ys.length ≤ LIM) : vExtend (.ref 4) [.lst ys] (a :: b :: c :: d :: .lst xs :: r) = .ok .non (a :: b :: c :: d :: .lst (xs ++ ys) :: r) := if_pos h
theorem onTy_r4 {α : Type} (a b c d : Ob) (xs : List Val) (k : Res α) : onTy "list" (.ref 4) (a :: b :: c :: d :: .lst xs :: r) k = k := rfl
end
/-! ### dicts with numbers for keys -/
def IK (is : List Int) : List DKey := is.map fun i => DKey.k (.inl i)
theorem isKs_IK : ∀ is : List Int, isKs (IK is) = true
  | [] => rfl
  | i :: is => by
    have := isKs_IK is
    unfold IK at *
    rw [List.map_cons]
    exact this
theorem dFind_in : ∀ (is : List Int) (vs : List Val) (i : Int), is.length = vs.length → (i ∈ is → ∃ v ∈ vs, dFind (.k (.inl i)) (IK is) vs = some v) ∧ (i ∉ is → dFind (.k (.inl i)) (IK is) vs = none)
  | [], vs, i, _ => ⟨fun h => (by cases h), fun _ => rfl⟩
  | j :: is, [], i, h => by simp at h
  | j :: is, v :: vs, i, h => by
    obtain ⟨h1, h2⟩ := dFind_in is vs i (by simpa using h)
    have e : dFind (.k (.inl i)) (IK (j :: is)) (v :: vs) = if j = i then some v else dFind (.k (.inl i)) (IK is) vs := by
      show (if DKey.k (.inl j) = DKey.k (.inl i) then some v else dFind (.k (.inl i)) (IK is) vs) = _
      by_cases hj : j = i
      · subst hj; rw [if_pos rfl, if_pos rfl]
      · rw [if_neg hj, if_neg (fun z => hj (by cases z; rfl))]
    rw [e]
    by_cases hj : j = i
    · subst hj
      rw [if_pos rfl]
      exact ⟨fun _ => ⟨v, List.mem_cons_self, rfl⟩, fun z => absurd List.mem_cons_self z⟩
    · rw [if_neg hj]
      refine ⟨fun z => ?_, fun z => h2 fun q => z (List.mem_cons_of_mem _ q)⟩
      rcases List.mem_cons.mp z with z | z
      · exact absurd z.symm hj
      · obtain ⟨v', m, q⟩ := h1 z
        exact ⟨v', List.mem_cons_of_mem _ m, q⟩
theorem dPut_new (is : List Int) (vs : List Val) (i : Int) (x : Val) (h : i ∉ is) : dPut (.k (.inl i)) x (IK is) vs = (IK (is ++ [i]), vs ++ [x]) := by
  unfold dPut
  have e : (IK is).any (fun j => decide (j = DKey.k (.inl i))) = false := by
    rw [List.any_eq_false]
    intro d hd
    unfold IK at hd
    obtain ⟨j, hj, rfl⟩ := List.mem_map.mp hd
    intro z
    have z := of_decide_eq_true z
    cases z
    exact h hj
  rw [e]
  rw [if_neg (by decide)]
  unfold IK
  rw [List.map_append]; rfl
theorem in_dct (is : List Int) (vs : List Val) (i : Int) (μ : Mu) (h : is.length = vs.length) : vIn2 (.int i) (.dct (IK is) vs) μ = .ok (.bl (decide (i ∈ is))) μ := by
  show (if isKs (IK is) then Res.ok (Val.bl (dFind (.k (.inl i)) (IK is) vs).isSome) μ else .stuck) = _
  rw [isKs_IK, if_pos rfl]
  obtain ⟨h1, h2⟩ := dFind_in is vs i h
  by_cases hi : i ∈ is
  · obtain ⟨v, _, e⟩ := h1 hi
    rw [e, decide_eq_true hi]; rfl
  · rw [h2 hi, decide_eq_false hi]; rfl
theorem notin_dct (is : List Int) (vs : List Val) (i : Int) (μ : Mu) (h : is.length = vs.length) : vNotIn2 (.int i) (.dct (IK is) vs) μ = .ok (.bl (!decide (i ∈ is))) μ := by
  show (if isKs (IK is) then Res.ok (Val.bl (!(dFind (.k (.inl i)) (IK is) vs).isSome)) μ else .stuck) = _
  rw [isKs_IK, if_pos rfl]
  obtain ⟨h1, h2⟩ := dFind_in is vs i h
  by_cases hi : i ∈ is
  · obtain ⟨v, _, e⟩ := h1 hi
    rw [e, decide_eq_true hi]; rfl
  · rw [h2 hi, decide_eq_false hi]; rfl
theorem get_dct (is : List Int) (vs : List Val) (i : Int) (h : is.length = vs.length) (hi : i ∈ is) : ∃ v ∈ vs, ∀ μ, vSub2 (.dct (IK is) vs) (.int i) μ = .ok v μ := by
  obtain ⟨v, m, e⟩ := (dFind_in is vs i h).1 hi
  refine ⟨v, m, fun μ => ?_⟩
  show (if isKs (IK is) then (match dFind (.k (.inl i)) (IK is) vs with
      | some v => Res.ok v μ
      | none => .stuck) else .stuck) = _
  rw [isKs_IK, if_pos rfl, e]
/-! ### {k: v for ..} -/
def oneD (t : Tgt) (sl : Sl) (cond : M Bool) (mk mv : M Val) (x : Val) (μ : Mu) : Res (Option (Val × Val)) :=
  bindK (bindT t x sl μ) fun s => (cond s μ).bnd fun k μ1 => if k then (mk s μ1).bnd fun a μ2 => (mv s μ2).bnd fun b μ3 => .ok (some (a, b)) μ3 else .ok none μ1
def dcp {α : Type} (g : α → Mu → Res (Option (Val × Val))) : List α → List DKey → List Val → Mu → Res (List DKey × List Val)
  | [], ks, vs, μ => .ok (ks, vs) μ
  | x :: xs, ks, vs, μ => match g x μ with
    | .ok none μ1 => dcp g xs ks vs μ1
    | .ok (some (a, b)) μ1 => (match kOf a with
      | some kk => if vs.length < LIM then dcp g xs (dPut (.k kk) b ks vs).1 (dPut (.k kk) b ks vs).2 μ1 else .stuck
      | none => .stuck)
    | _ => .stuck
theorem ev_dcL (own : List Nat) (t : Tgt) (cond : M Bool) (mk mv : M Val) (sl : Sl) : ∀ (xs : List Val) (ks : List DKey) (vs : List Val) (μ : Mu), dcL own t cond mk mv ks vs xs sl μ = dcp (oneD t (wipeS sl own) cond mk mv) xs ks vs μ
  | [], ks, vs, μ => rfl
  | x :: xs, ks, vs, μ => by
    unfold dcL dcp oneD
    cases bindT t x (wipeS sl own) μ with
    | none => rfl
    | some s =>
      dsimp only [bindK]
      cases cond s μ with
      | ok k μ1 =>
        cases k with
        | false => exact ev_dcL own t cond mk mv sl xs ks vs μ1
        | true =>
          dsimp only [Res.bnd]
          rw [if_pos rfl]
          cases mk s μ1 with
          | ok a μ2 =>
            dsimp only [Res.bnd]
            cases hk : kOf a with
            | none => dsimp only; cases mv s μ2 <;> simp [hk]
            | some kk =>
              dsimp only
              cases mv s μ2 with
              | ok b μ3 => dsimp only; rw [hk]; dsimp only; rw [ev_dcL own t cond mk mv sl xs]; rfl
              | _ => rfl
          | _ => rfl
      | _ => rfl
def dcE (mu : Bool) (r : Res (List DKey × List Val)) : Res Val := match r with
  | .ok r μ' => if mu then .ok (.ref μ'.length) (μ' ++ [.dct r.1 r.2]) else .ok (.dct r.1 r.2) μ'
  | _ => .stuck
def dcS (mu : Bool) (t : Tgt) (own : List Nat) (cond : M Bool) (mk mv : M Val) (sl : Sl) (s : Src) (μ : Mu) : Res Val := match s with
  | .vals xs => dcE mu (dcp (oneD t (wipeS sl own) cond mk mv) xs [] [] μ)
  | .live _ _ => .stuck
theorem dcS_vals (mu : Bool) (t : Tgt) (own : List Nat) (cond : M Bool) (mk mv : M Val) (sl : Sl) (xs : List Val) (μ : Mu) : dcS mu t own cond mk mv sl (.vals xs) μ = dcE mu (dcp (oneD t (wipeS sl own) cond mk mv) xs [] [] μ) := rfl
theorem ev_mdc (mu : Bool) (src : M Src) (own : List Nat) (t : Tgt) (cond : M Bool) (mk mv : M Val) (sl : Sl) (μ : Mu) : mdc mu src own t cond mk mv sl μ = (src sl μ).bnd fun s μ1 => dcS mu t own cond mk mv sl s μ1 := by
  unfold mdc; rw [ev_then]; congr 1; funext s μ1
  cases s with
  | vals xs => dsimp only; rw [ev_dcL]; rfl
  | live r e => rfl
theorem dcE_ok (mu : Bool) (ks : List DKey) (vs : List Val) (μ : Mu) : dcE mu (.ok (ks, vs) μ) = if mu then .ok (.ref μ.length) (μ ++ [.dct ks vs]) else .ok (.dct ks vs) μ := rfl
theorem dcp_map {α β : Type} (g : β → Mu → Res (Option (Val × Val))) (e : α → β) : ∀ (xs : List α) (ks : List DKey) (vs : List Val) (μ : Mu), dcp g (xs.map e) ks vs μ = dcp (fun x μ => g (e x) μ) xs ks vs μ
  | [], ks, vs, μ => rfl
  | x :: xs, ks, vs, μ => by
    have ih := dcp_map g e xs
    show (match g (e x) μ with
    | .ok none μ1 => dcp g (xs.map e) ks vs μ1
    | .ok (some (a, b)) μ1 => (match kOf a with
      | some kk => if vs.length < LIM then dcp g (xs.map e) (dPut (.k kk) b ks vs).1 (dPut (.k kk) b ks vs).2 μ1 else Res.stuck
      | none => .stuck)
    | _ => .stuck) = _
    simp only [ih]
    rfl
/-- keys that are unlike -/
theorem dcp_if {α : Type} (p : α → Bool) (k : α → Int) (f : α → Val) : ∀ (xs : List α) (is : List Int) (vs : List Val) (μ : Mu), ((xs.map k).Nodup) → (∀ x ∈ xs, k x ∉ is) → vs.length + xs.length ≤ LIM →
    dcp (fun x μ => if p x then .ok (some (.int (k x), f x)) μ else .ok none μ) xs (IK is) vs μ = .ok (IK (is ++ (xs.filter p).map k), vs ++ (xs.filter p).map f) μ
  | [], is, vs, μ, _, _, _ => by simp [dcp]
  | x :: xs, is, vs, μ, h1, h2, h3 => by
    rw [List.map_cons, List.nodup_cons] at h1
    obtain ⟨h0, h1⟩ := h1
    rw [List.length_cons] at h3
    show (match (if p x = true then Res.ok (some (Val.int (k x), f x)) μ else .ok none μ : Res (Option (Val × Val))) with
    | .ok none μ1 => dcp (fun x μ => if p x = true then Res.ok (some (Val.int (k x), f x)) μ else .ok none μ) xs (IK is) vs μ1
    | .ok (some (a, b)) μ1 => (match kOf a with
      | some kk => if vs.length < LIM then dcp (fun x μ => if p x = true then Res.ok (some (Val.int (k x), f x)) μ else .ok none μ) xs (dPut (.k kk) b (IK is) vs).1 (dPut (.k kk) b (IK is) vs).2 μ1 else Res.stuck
      | none => .stuck)
    | _ => .stuck) = _
    cases hp : p x with
    | false =>
      rw [if_neg (by decide), List.filter_cons_of_neg (by rw [hp]; decide)]
      exact dcp_if p k f xs is vs μ h1 (fun y hy => h2 y (List.mem_cons_of_mem _ hy)) (by omega)
    | true =>
      rw [if_pos rfl, List.filter_cons_of_pos hp]
      dsimp only [kOf]
      rw [if_pos (by omega), dPut_new is vs (k x) (f x) (h2 x List.mem_cons_self)]
      dsimp only
      rw [dcp_if p k f xs (is ++ [k x]) (vs ++ [f x]) μ h1 (fun y hy hm => ?_) (by rw [List.length_append]; simp; omega)]
      · simp
      · rcases List.mem_append.mp hm with hm | hm
        · exact h2 y (List.mem_cons_of_mem _ hy) hm
        · rw [List.mem_singleton] at hm
          exact h0 (by rw [← hm]; exact List.mem_map.mpr ⟨y, hy, rfl⟩)
/-! ### loops -/
/-- a for over typed things, a state that goes on -/
theorem forL_st {α S : Type} {t : Tgt} {body : B} (e : α → Val) (P : S → Sl → Mu → Prop) (step : S → α → S) : ∀ (xs : List α) (s : S) (sl : Sl) (μ : Mu), P s sl μ → (∀ x ∈ xs, ∀ s sl μ, P s sl μ → ∃ sl0, bindT t (e x) sl μ = some sl0 ∧ ∃ sl' μ', (body sl0 μ = .nx sl' μ' ∨ body sl0 μ = .ct sl' μ') ∧ P (step s x) sl' μ') →
    ∃ sl' μ', forL t body (xs.map e) sl μ = .nx sl' μ' ∧ P (xs.foldl step s) sl' μ'
  | [], s, sl, μ, h, _ => ⟨sl, μ, rfl, h⟩
  | x :: xs, s, sl, μ, h, hb => by
    obtain ⟨sl0, e0, sl1, μ1, e1, h1⟩ := hb x List.mem_cons_self s sl μ h
    obtain ⟨sl2, μ2, e2, h2⟩ := forL_st e P step xs (step s x) sl1 μ1 h1 fun y hy => hb y (List.mem_cons_of_mem _ hy)
    refine ⟨sl2, μ2, ?_, h2⟩
    rw [List.map_cons]
    unfold forL
    rw [e0]
    dsimp only
    rcases e1 with e1 | e1 <;> rw [e1] <;> exact e2
/-- .. that may hand back a value -/
theorem forL_ret {α : Type} {t : Tgt} {body : B} (e : α → Val) (P : Sl → Mu → Prop) (p : α → Bool) (R : α → Val → Mu → Prop) : ∀ (xs : List α) (sl : Sl) (μ : Mu), P sl μ → (∀ x ∈ xs, ∀ sl μ, P sl μ → ∃ sl0, bindT t (e x) sl μ = some sl0 ∧ ((p x = false ∧ ∃ sl' μ', (body sl0 μ = .nx sl' μ' ∨ body sl0 μ = .ct sl' μ') ∧ P sl' μ') ∨ (p x = true ∧ ∃ v μ', body sl0 μ = .rt v μ' ∧ R x v μ'))) →
    (xs.any p = false ∧ ∃ sl' μ', forL t body (xs.map e) sl μ = .nx sl' μ' ∧ P sl' μ') ∨ (∃ x, xs.find? p = some x ∧ ∃ v μ', forL t body (xs.map e) sl μ = .rt v μ' ∧ R x v μ')
  | [], sl, μ, h, _ => .inl ⟨rfl, sl, μ, rfl, h⟩
  | x :: xs, sl, μ, h, hb => by
    obtain ⟨sl0, e0, ⟨hp, sl1, μ1, e1, h1⟩ | ⟨hp, v, μ1, e1, h1⟩⟩ := hb x List.mem_cons_self sl μ h
    · have go : forL t body ((x :: xs).map e) sl μ = forL t body (xs.map e) sl1 μ1 := by
        rw [List.map_cons]
        conv => lhs; unfold forL
        rw [e0]
        dsimp only
        rcases e1 with e1 | e1 <;> rw [e1]
      rw [go, List.any_cons, hp, Bool.false_or, List.find?_cons_of_neg (by rw [hp]; decide)]
      exact forL_ret e P p R xs sl1 μ1 h1 fun y hy => hb y (List.mem_cons_of_mem _ hy)
    · refine .inr ⟨x, by rw [List.find?_cons_of_pos hp], v, μ1, ?_, h1⟩
      rw [List.map_cons]
      unfold forL
      rw [e0]
      dsimp only
      rw [e1]
end G

/-! G33: what is known of an item, for simp. -/
namespace G
open PySem
section
variable {α β : Type}
/-- with what is known of each item -/
def cmpM (xs : List α) (g : (x : α) → x ∈ xs → Mu → Res (Option Val)) (μ : Mu) : Res (List Val) := cmp (fun (x : {x // x ∈ xs}) μ => g x.1 x.2 μ) xs.attach μ
def catM (xs : List α) (g : (x : α) → x ∈ xs → Mu → Res (List Val)) (μ : Mu) : Res (List Val) := cat2 (fun (x : {x // x ∈ xs}) μ => g x.1 x.2 μ) xs.attach μ
def dcpM (xs : List α) (g : (x : α) → x ∈ xs → Mu → Res (Option (Val × Val))) (ks : List DKey) (vs : List Val) (μ : Mu) : Res (List DKey × List Val) := dcp (fun (x : {x // x ∈ xs}) μ => g x.1 x.2 μ) xs.attach ks vs μ
theorem cmp_mapA (g : α → Mu → Res (Option Val)) (e : β → α) : ∀ (xs : List β) (μ : Mu), cmp g (xs.map e) μ = cmp (fun x μ => g (e x) μ) xs μ
  | [], μ => rfl
  | x :: xs, μ => by
    have ih := cmp_mapA g e xs
    show (match g (e x) μ with
    | .ok none μ1 => cmp g (xs.map e) μ1
    | Res.ok (some v) μ1 => (match cmp g (xs.map e) μ1 with
      | .ok vs μ2 => Res.ok (v :: vs) μ2
      | _ => .stuck)
    | _ => .stuck) = _
    simp only [ih]
    rfl
theorem cat2_mapA (g : α → Mu → Res (List Val)) (e : β → α) : ∀ (xs : List β) (μ : Mu), cat2 g (xs.map e) μ = cat2 (fun x μ => g (e x) μ) xs μ := cat2_map g e
theorem cmpM_no (g : α → Mu → Res (Option Val)) (xs : List α) (μ : Mu) : cmpM xs (fun x _ μ => g x μ) μ = cmp g xs μ := by
  unfold cmpM
  rw [← cmp_mapA g Subtype.val xs.attach μ, List.attach_map_subtype_val]
theorem catM_no (g : α → Mu → Res (List Val)) (xs : List α) (μ : Mu) : catM xs (fun x _ μ => g x μ) μ = cat2 g xs μ := by
  unfold catM
  rw [← cat2_mapA g Subtype.val xs.attach μ, List.attach_map_subtype_val]
theorem dcpM_no (g : α → Mu → Res (Option (Val × Val))) (xs : List α) (ks : List DKey) (vs : List Val) (μ : Mu) : dcpM xs (fun x _ μ => g x μ) ks vs μ = dcp g xs ks vs μ := by
  unfold dcpM
  rw [← dcp_map g Subtype.val xs.attach ks vs μ, List.attach_map_subtype_val]
theorem cmp_mapM (g : β → Mu → Res (Option Val)) (e : α → β) (xs : List α) (μ : Mu) : cmp g (xs.map e) μ = cmpM xs (fun x _ μ => g (e x) μ) μ := by
  rw [cmpM_no (fun x μ => g (e x) μ)]
  exact cmp_mapA g e xs μ
theorem cat2_mapM (g : β → Mu → Res (List Val)) (e : α → β) (xs : List α) (μ : Mu) : cat2 g (xs.map e) μ = catM xs (fun x _ μ => g (e x) μ) μ := by
  rw [catM_no (fun x μ => g (e x) μ)]
  exact cat2_map g e xs μ
theorem dcp_mapM (g : β → Mu → Res (Option (Val × Val))) (e : α → β) (xs : List α) (ks : List DKey) (vs : List Val) (μ : Mu) : dcp g (xs.map e) ks vs μ = dcpM xs (fun x _ μ => g (e x) μ) ks vs μ := by
  rw [dcpM_no (fun x μ => g (e x) μ)]
  exact dcp_map g e xs ks vs μ
theorem dcp_cg {g g' : α → Mu → Res (Option (Val × Val))} : ∀ {xs : List α} {ks : List DKey} {vs : List Val} {μ : Mu}, (∀ x, x ∈ xs → ∀ μ, g x μ = g' x μ) → dcp g xs ks vs μ = dcp g' xs ks vs μ
  | [], _, _, _, _ => rfl
  | x :: xs, ks, vs, μ, h => by
    unfold dcp
    rw [h x List.mem_cons_self μ]
    have ih : ∀ ks vs μ, dcp g xs ks vs μ = dcp g' xs ks vs μ := fun ks vs μ => dcp_cg fun y hy => h y (List.mem_cons_of_mem _ hy)
    simp only [ih]
theorem len_filter {l : List α} {p : α → Bool} {n : Nat} (h : l.length ≤ n) : (l.filter p).length ≤ n := Nat.le_trans (List.length_filter_le _ _) h
theorem len_flat {l : List α} {f : α → List β} {n : Nat} (a b : Nat) (h1 : l.length ≤ a) (h2 : ∀ x ∈ l, (f x).length ≤ b) (h3 : a * b ≤ n) : (l.flatMap f).length ≤ n := by
  have : (l.flatMap f).length ≤ l.length * b := by
    clear h1
    induction l with
    | nil => simp
    | cons x xs ih =>
      rw [List.flatMap_cons, List.length_append, List.length_cons, Nat.succ_mul]
      have := h2 x List.mem_cons_self
      have := ih fun y hy => h2 y (List.mem_cons_of_mem _ hy)
      omega
  have := Nat.mul_le_mul_right b h1
  omega
end
end G

/-! G34: more about typed lists; draws in comprehensions. -/
namespace G
open PySem
section
variable {α β : Type}
theorem lt_range {x n : Nat} (h : x ∈ List.range n) : x < n := List.mem_range.mp h
theorem lt_rangeF {x n : Nat} {p : Nat → Bool} (h : x ∈ (List.range n).filter p) : x < n := List.mem_range.mp (List.mem_filter.mp h).1
theorem lt_range1 {x a n : Nat} (h : x ∈ List.range' a (n - a)) : x < n := by have := List.mem_range'_1.mp h; omega
theorem lt_range1F {x a n : Nat} {p : Nat → Bool} (h : x ∈ (List.range' a (n - a)).filter p) : x < n := lt_range1 (List.mem_filter.mp h).1
theorem all_mapA (f : α → Bool) (ws : List α) (μ : Mu) : vAll [.lst (ws.map fun x => Val.bl (f x))] μ = .ok (.bl (ws.all f)) μ := by
  have e : (ws.map fun x => Val.bl (f x)) = (ws.map f).map Val.bl := by rw [List.map_map]; rfl
  rw [e, all_bs]
  simp
theorem any_mapA (f : α → Bool) (ws : List α) (μ : Mu) : vAny [.lst (ws.map fun x => Val.bl (f x))] μ = .ok (.bl (ws.any f)) μ := by
  have e : (ws.map fun x => Val.bl (f x)) = (ws.map f).map Val.bl := by rw [List.map_map]; rfl
  rw [e, any_bs]
  simp
theorem all_tt (ws : List α) (μ : Mu) : vAll [.lst (ws.map fun _ => Val.bl true)] μ = .ok (.bl true) μ := by
  rw [all_mapA (fun _ => true)]
  congr 2
  rw [List.all_eq_true]; intros; rfl
theorem flat_enc {γ : Type} (e : γ → Val) (l : List α) (g : α → List β) (f : α → β → γ) : (l.flatMap fun x => (g x).map fun y => e (f x y)) = (l.flatMap fun x => (g x).map (f x)).map e := by
  rw [List.map_flatMap]
  congr 1
  funext x
  rw [List.map_map]; rfl
theorem ups_map0 (e : α → Val) (h : ∀ a, up (e a) = 0) : ∀ l : List α, ups (l.map e) = 0
  | [] => rfl
  | x :: l => by show max (up (e x)) (ups (l.map e)) = 0; rw [h x, ups_map0 e h l]; rfl
theorem cls_of {k : Nat} : ∀ {l : List Val}, (∀ v ∈ l, cl k v = true) → cls k l = true
  | [], _ => rfl
  | x :: l, h => by
    show (cl k x && cls k l) = true
    rw [h x List.mem_cons_self, cls_of fun v hv => h v (List.mem_cons_of_mem _ hv)]; rfl
theorem cls_map {k : Nat} (e : α → Val) (h : ∀ a, cl k (e a) = true) (l : List α) : cls k (l.map e) = true := cls_of fun v hv => by
  obtain ⟨x, _, rfl⟩ := List.mem_map.mp hv; exact h x
theorem fz_up {v : Val} (h : up v = 0) (μ : Mu) (k : Nat) : freeze μ k v = some v := freeze_cl (cl_zero h k)
theorem ups2 {a b : Val} (h1 : up a = 0) (h2 : up b = 0) : ups [a, b] = 0 := by show max (up a) (max (up b) 0) = 0; rw [h1, h2]; rfl
theorem ups1 {a : Val} (h1 : up a = 0) : ups [a] = 0 := by show max (up a) 0 = 0; rw [h1]; rfl
theorem ups3 {a b c : Val} (h1 : up a = 0) (h2 : up b = 0) (h3 : up c = 0) : ups [a, b, c] = 0 := by show max (up a) (max (up b) (max (up c) 0)) = 0; rw [h1, h2, h3]; rfl
theorem ups4 {a b c d : Val} (h1 : up a = 0) (h2 : up b = 0) (h3 : up c = 0) (h4 : up d = 0) : ups [a, b, c, d] = 0 := by show max (up a) (max (up b) (max (up c) (max (up d) 0))) = 0; rw [h1, h2, h3, h4]; rfl
/-- a call of a pure def -/
theorem call_rt {np nl : Nat} {b : B} {vs : List Val} {v : Val} {μ' : Mu} (h0 : ups vs = 0) (hl : vs.length = np) (h : b (startS nl vs) [] = .rt v μ') (hv : up v = 0) (μ : Mu) : callD (defB np nl b) vs μ = .ok v μ :=
  callD_pure (v := v) (μ' := μ') h0 (defB_rt hl h) (fz_up hv _ _)
theorem call_nx {np nl : Nat} {b : B} {vs : List Val} {sl : Sl} {μ' : Mu} (h0 : ups vs = 0) (hl : vs.length = np) (h : b (startS nl vs) [] = .nx sl μ') (μ : Mu) : callD (defB np nl b) vs μ = .ok .non μ :=
  callD_pure (v := .non) (μ' := μ') h0 (by unfold defB; rw [if_pos hl, h]) rfl
theorem call_exc {np nl : Nat} {b : B} {vs : List Val} {i : Nat} {sl : Sl} {μ' : Mu} (h0 : ups vs = 0) (hl : vs.length = np) (h : b (startS nl vs) [] = .exc ⟨i, []⟩ sl μ') (μ : Mu) : callD (defB np nl b) vs μ = .exc ⟨i, []⟩ μ :=
  callD_pureX h0 (by unfold defB; rw [if_pos hl, h])
/-- a call whose first argument is the draw -/
theorem call_dr {np nl : Nat} {b : B} {vs : List Val} {o o' : Ob} {v v' : Val} {rest μ' : Mu} (h0 : ups vs = 1) (hd : IsDr o) (hd' : IsDr o') (hl : vs.length = np) (h : b (startS nl vs) [o] = .rt v (o' :: μ')) (hv : freeze (o' :: μ') 1 v = some v') : callD (defB np nl b) vs (o :: rest) = .ok v' (o' :: rest) :=
  callD_one h0 (hd.cl 1) (defB_rt hl h) hv (hd'.cl 1)
/-- a for that fills a list -/
theorem forL_app {t : Tgt} {body : B} (n : Nat) (e : α → Val) (f : α → List β) (fr : Sl → Prop) (mk : List β → Mu) : ∀ (xs : List α) (acc : List β) (sl : Sl), fr sl → (acc ++ xs.flatMap f).length ≤ n →
    (∀ x ∈ xs, ∀ acc sl, fr sl → (acc ++ f x).length ≤ n → ∃ sl0, bindT t (e x) sl (mk acc) = some sl0 ∧ ∃ sl', (body sl0 (mk acc) = .nx sl' (mk (acc ++ f x)) ∨ body sl0 (mk acc) = .ct sl' (mk (acc ++ f x))) ∧ fr sl') →
    ∃ sl', forL t body (xs.map e) sl (mk acc) = .nx sl' (mk (acc ++ xs.flatMap f)) ∧ fr sl'
  | [], acc, sl, h, _, _ => ⟨sl, by simp [forL], h⟩
  | x :: xs, acc, sl, h, hn, hb => by
    rw [List.flatMap_cons, ← List.append_assoc] at hn
    obtain ⟨sl0, e0, sl1, e1, h1⟩ := hb x List.mem_cons_self acc sl h (by rw [List.length_append] at hn; omega)
    obtain ⟨sl2, e2, h2⟩ := forL_app n e f fr mk xs (acc ++ f x) sl1 h1 hn fun y hy => hb y (List.mem_cons_of_mem _ hy)
    refine ⟨sl2, ?_, h2⟩
    rw [List.map_cons, List.flatMap_cons, ← List.append_assoc]
    unfold forL
    rw [e0]
    dsimp only
    rcases e1 with e1 | e1 <;> rw [e1] <;> exact e2
theorem flat_one (f : α → β) (xs : List α) : (xs.flatMap fun x => [f x]) = xs.map f := by
  induction xs with
  | nil => rfl
  | cons x xs ih => rw [List.flatMap_cons, ih]; rfl
theorem zipIdx_map (f : Nat → β) (xs : List α) : (xs.zipIdx.map fun q => f q.2) = (List.range xs.length).map f := by
  have : xs.zipIdx.map (fun q => q.2) = List.range xs.length := by
    rw [List.range_eq_range', ← List.zipIdx_map_snd 0 xs]
  rw [← this, List.map_map]; rfl
theorem mem_zipIdx [Inhabited α] {xs : List α} {q : α × Nat} (h : q ∈ xs.zipIdx) : q.2 < xs.length ∧ q.1 = xs[q.2]! := by
  have h2 := List.mem_zipIdx_iff_getElem?.mp h
  obtain ⟨h3, h4⟩ := List.getElem?_eq_some_iff.mp h2
  refine ⟨h3, ?_⟩
  rw [List.getElem!_eq_getElem?_getD, h2]; rfl
/-- a comprehension that draws -/
theorem cmp_draw {g : α → Mu → Res (Option Val)} (e : β → Val) (P : β → Prop) (rest : Mu) : ∀ (xs : List α) (o : Ob), IsDr o → (∀ x ∈ xs, ∀ o, IsDr o → ∃ (a : β) (o' : Ob), IsDr o' ∧ P a ∧ g x (o :: rest) = .ok (some (e a)) (o' :: rest)) →
    ∃ (as : List β) (o' : Ob), IsDr o' ∧ as.length = xs.length ∧ (∀ a ∈ as, P a) ∧ cmp g xs (o :: rest) = .ok (as.map e) (o' :: rest)
  | [], o, h, _ => ⟨[], o, h, rfl, fun _ h => (by cases h), rfl⟩
  | x :: xs, o, h, hg => by
    obtain ⟨a, o1, h1, p, e1⟩ := hg x List.mem_cons_self o h
    obtain ⟨as, o2, h2, l, q, e2⟩ := cmp_draw e P rest xs o1 h1 fun y hy => hg y (List.mem_cons_of_mem _ hy)
    refine ⟨a :: as, o2, h2, by rw [List.length_cons, List.length_cons, l], fun b hb => ?_, ?_⟩
    · rcases List.mem_cons.mp hb with rfl | hb
      · exact p
      · exact q b hb
    · unfold cmp
      rw [e1]
      dsimp only
      rw [e2]; rfl
/-- with a test that draws -/
theorem cmp_drawO {g : α → Mu → Res (Option Val)} (e : β → Val) (P : β → Prop) (rest : Mu) : ∀ (xs : List α) (o : Ob), IsDr o → (∀ x ∈ xs, ∀ o, IsDr o → ∃ (a : Option β) (o' : Ob), IsDr o' ∧ (∀ b, a = some b → P b) ∧ g x (o :: rest) = .ok (a.map e) (o' :: rest)) →
    ∃ (as : List β) (o' : Ob), IsDr o' ∧ as.length ≤ xs.length ∧ (∀ a ∈ as, P a) ∧ cmp g xs (o :: rest) = .ok (as.map e) (o' :: rest)
  | [], o, h, _ => ⟨[], o, h, Nat.le_refl _, fun _ h => (by cases h), rfl⟩
  | x :: xs, o, h, hg => by
    obtain ⟨a, o1, h1, p, e1⟩ := hg x List.mem_cons_self o h
    obtain ⟨as, o2, h2, l, q, e2⟩ := cmp_drawO e P rest xs o1 h1 fun y hy => hg y (List.mem_cons_of_mem _ hy)
    cases a with
    | none =>
      refine ⟨as, o2, h2, by rw [List.length_cons]; omega, q, ?_⟩
      unfold cmp
      rw [e1]
      exact e2
    | some a =>
      refine ⟨a :: as, o2, h2, by rw [List.length_cons, List.length_cons]; omega, fun b hb => ?_, ?_⟩
      · rcases List.mem_cons.mp hb with rfl | hb
        · exact p _ rfl
        · exact q b hb
      · unfold cmp
        rw [e1]
        dsimp only [Option.map_some]
        rw [e2]; rfl
theorem takeN {o : Ob} {rest : Mu} (m : Nat) (h : IsDr o) (h0 : 0 < m) (h1 : m < 1073741824) : ∃ (r : Nat) (o' : Ob), r < m ∧ IsDr o' ∧ callD f_take [.ref 0, .int (m : Int)] (o :: rest) = .ok (.int (r : Int)) (o' :: rest) := by
  obtain ⟨r, o', a, b, c, d⟩ := takeD_ok (rest := rest) (m := (m : Int)) h (by omega) (by omega)
  refine ⟨r.toNat, o', by omega, c, ?_⟩
  rw [d, Int.toNat_of_nonneg a]
theorem sub_get [Inhabited α] {xs : List α} {i : Nat} (h : i < xs.length) : xs[i]! ∈ xs := by
  rw [List.getElem!_eq_getElem?_getD, List.getElem?_eq_getElem h]
  exact List.getElem_mem h
end
section
open PySem.Spec PyProof.Rows L2
theorem cut_from (xs : List Val) (a : Nat) : vCut xs (some (a : Int)) none = xs.drop a := by
  unfold vCut
  rw [HT.sIx_nat, HT.sIx_none]
  by_cases h : a ≤ xs.length
  · rw [Nat.min_eq_left h]
    exact List.take_of_length_le (by rw [List.length_drop]; omega)
  · rw [Nat.min_eq_right (by omega), List.drop_length, List.drop_eq_nil_of_le (by omega)]; simp
theorem cut_to (xs : List Val) (b : Nat) : vCut xs none (some (b : Int)) = xs.take b := by
  unfold vCut
  rw [HT.sIx_nat, HT.sIx_none]
  by_cases h : b ≤ xs.length
  · rw [Nat.min_eq_left h]; rfl
  · rw [Nat.min_eq_right (by omega), List.take_of_length_le (by omega : xs.length ≤ b)]
    exact List.take_of_length_le (by simp)
theorem cut_ab (xs : List Val) (a b : Nat) (h : b ≤ xs.length) : vCut xs (some (a : Int)) (some (b : Int)) = (xs.drop a).take (b - a) := by
  unfold vCut
  rw [HT.sIx_nat, HT.sIx_nat, Nat.min_eq_left h]
  by_cases h2 : a ≤ xs.length
  · rw [Nat.min_eq_left h2]
  · rw [Nat.min_eq_right (by omega), List.drop_length, List.drop_eq_nil_of_le (by omega)]; simp
theorem cut1 (xs : List Val) : vCut xs (some 1) none = xs.drop 1 := cut_from xs 1
end
end G

/-! G35: in, == over typed things. -/
namespace G
open PySem
section
variable {α β : Type}
theorem deps_le {n : Nat} : ∀ {l : List Val}, (∀ v ∈ l, ∃ k, dep v = some k ∧ k ≤ n) → ∃ k, deps l = some k ∧ k ≤ n
  | [], _ => ⟨0, rfl, Nat.zero_le _⟩
  | x :: l, h => by
    obtain ⟨a, ha, la⟩ := h x List.mem_cons_self
    obtain ⟨b, hb, lb⟩ := deps_le (l := l) fun v hv => h v (List.mem_cons_of_mem _ hv)
    refine ⟨max a b, ?_, by omega⟩
    show (match dep x, deps l with
    | some a, some b => some (max a b)
    | _, _ => none) = _
    rw [ha, hb]
theorem deps_map {n : Nat} (e : α → Val) (h : ∀ a, ∃ k, dep (e a) = some k ∧ k ≤ n) (l : List α) : ∃ k, deps (l.map e) = some k ∧ k ≤ n := deps_le fun v hv => by
  obtain ⟨x, _, rfl⟩ := List.mem_map.mp hv; exact h x
theorem shps_map {n : Nat} (hn : n ≤ 59) (e : α → Val) (h : ∀ a, ∃ k, dep (e a) = some k ∧ k ≤ n) (l : List α) : shps (l.map e) = true := by
  obtain ⟨k, hk, lk⟩ := deps_map e h l
  unfold shps; rw [hk]; exact decide_eq_true (by omega)
theorem shp_of {v : Val} {n : Nat} (hn : n ≤ 60) (h : ∃ k, dep v = some k ∧ k ≤ n) : shp v = true := by
  obtain ⟨k, hk, lk⟩ := h
  unfold shp; rw [hk]; exact decide_eq_true (by omega)
theorem dep_tupM {n : Nat} (e : α → Val) (h : ∀ a, ∃ k, dep (e a) = some k ∧ k ≤ n) (l : List α) : ∃ k, dep (.tup (l.map e)) = some k ∧ k ≤ n + 1 := by
  obtain ⟨k, hk, lk⟩ := deps_map e h l
  exact ⟨k + 1, by show (deps (l.map e)).map (· + 1) = _; rw [hk]; rfl, by omega⟩
theorem dep_lstM {n : Nat} (e : α → Val) (h : ∀ a, ∃ k, dep (e a) = some k ∧ k ≤ n) (l : List α) : ∃ k, dep (.lst (l.map e)) = some k ∧ k ≤ n + 1 := by
  obtain ⟨k, hk, lk⟩ := deps_map e h l
  exact ⟨k + 1, by show (deps (l.map e)).map (· + 1) = _; rw [hk]; rfl, by omega⟩
theorem veqs_map (e : α → Val) (h : ∀ a b, veq (e a) (e b) = true ↔ a = b) : ∀ xs ys : List α, veqs (xs.map e) (ys.map e) = true ↔ xs = ys
  | [], [] => ⟨fun _ => rfl, fun _ => rfl⟩
  | [], y :: ys => ⟨fun z => (by cases z), fun z => (by cases z)⟩
  | x :: xs, [] => ⟨fun z => (by cases z), fun z => (by cases z)⟩
  | x :: xs, y :: ys => by
    have ih := veqs_map e h xs ys
    show (veq (e x) (e y) && veqs (xs.map e) (ys.map e)) = true ↔ _
    rw [Bool.and_eq_true, ih, h]
    constructor
    · rintro ⟨rfl, rfl⟩; rfl
    · intro z; cases z; exact ⟨rfl, rfl⟩
theorem isIn_map [DecidableEq α] (e : α → Val) (h : ∀ a b, veq (e a) (e b) = true ↔ a = b) (x : α) (l : List α) : isIn (e x) (l.map e) = decide (x ∈ l) := by
  unfold isIn
  rw [List.any_map]
  by_cases hx : x ∈ l
  · rw [decide_eq_true hx]
    exact List.any_eq_true.mpr ⟨x, hx, (h x x).mpr rfl⟩
  · rw [decide_eq_false hx, List.any_eq_false]
    intro y hy z
    exact hx ((h y x).mp z ▸ hy)
theorem in_tupM [DecidableEq α] {n : Nat} (hn : n ≤ 59) (e : α → Val) (hl : ∀ a μ, look μ (e a) = e a) (h : ∀ a b, veq (e a) (e b) = true ↔ a = b) (hd : ∀ a, ∃ k, dep (e a) = some k ∧ k ≤ n) (x : α) (l : List α) (μ : Mu) : vIn2 (e x) (.tup (l.map e)) μ = .ok (.bl (decide (x ∈ l))) μ := by
  show (match (if shp (look μ (e x)) && shps (l.map e) then some (isIn (look μ (e x)) (l.map e)) else none) with
    | some b => Res.ok (Val.bl b) μ
    | none => .stuck) = _
  rw [hl, shp_of (by omega) (hd x), shps_map hn e hd l, isIn_map e h]; rfl
theorem in_lstM [DecidableEq α] {n : Nat} (hn : n ≤ 59) (e : α → Val) (hl : ∀ a μ, look μ (e a) = e a) (h : ∀ a b, veq (e a) (e b) = true ↔ a = b) (hd : ∀ a, ∃ k, dep (e a) = some k ∧ k ≤ n) (x : α) (l : List α) (μ : Mu) : vIn2 (e x) (.lst (l.map e)) μ = .ok (.bl (decide (x ∈ l))) μ := by
  show (match (if shp (look μ (e x)) && shps (l.map e) then some (isIn (look μ (e x)) (l.map e)) else none) with
    | some b => Res.ok (Val.bl b) μ
    | none => .stuck) = _
  rw [hl, shp_of (by omega) (hd x), shps_map hn e hd l, isIn_map e h]; rfl
theorem notin_tupM [DecidableEq α] {n : Nat} (hn : n ≤ 59) (e : α → Val) (hl : ∀ a μ, look μ (e a) = e a) (h : ∀ a b, veq (e a) (e b) = true ↔ a = b) (hd : ∀ a, ∃ k, dep (e a) = some k ∧ k ≤ n) (x : α) (l : List α) (μ : Mu) : vNotIn2 (e x) (.tup (l.map e)) μ = .ok (.bl (!decide (x ∈ l))) μ := by
  show (match (if shp (look μ (e x)) && shps (l.map e) then some (isIn (look μ (e x)) (l.map e)) else none) with
    | some b => Res.ok (Val.bl (!b)) μ
    | none => .stuck) = _
  rw [hl, shp_of (by omega) (hd x), shps_map hn e hd l, isIn_map e h]; rfl
theorem notin_lstM [DecidableEq α] {n : Nat} (hn : n ≤ 59) (e : α → Val) (hl : ∀ a μ, look μ (e a) = e a) (h : ∀ a b, veq (e a) (e b) = true ↔ a = b) (hd : ∀ a, ∃ k, dep (e a) = some k ∧ k ≤ n) (x : α) (l : List α) (μ : Mu) : vNotIn2 (e x) (.lst (l.map e)) μ = .ok (.bl (!decide (x ∈ l))) μ := by
  show (match (if shp (look μ (e x)) && shps (l.map e) then some (isIn (look μ (e x)) (l.map e)) else none) with
    | some b => Res.ok (Val.bl (!b)) μ
    | none => .stuck) = _
  rw [hl, shp_of (by omega) (hd x), shps_map hn e hd l, isIn_map e h]; rfl
/-- numbers -/
theorem veq_N (a b : Nat) : veq (eN a) (eN b) = true ↔ a = b := by
  show ((a : Int) == (b : Int)) = true ↔ _
  rw [beq_iff_eq]; omega
theorem dep_N (a : Nat) : ∃ k, dep (eN a) = some k ∧ k ≤ 0 := ⟨0, rfl, Nat.le_refl _⟩
theorem in_tupN (x : Nat) (l : List Nat) (μ : Mu) : vIn2 (.int (x : Int)) (.tup (l.map eN)) μ = .ok (.bl (decide (x ∈ l))) μ := in_tupM (n := 0) (by omega) eN (fun _ _ => rfl) veq_N dep_N x l μ
theorem in_lstN (x : Nat) (l : List Nat) (μ : Mu) : vIn2 (.int (x : Int)) (.lst (l.map eN)) μ = .ok (.bl (decide (x ∈ l))) μ := in_lstM (n := 0) (by omega) eN (fun _ _ => rfl) veq_N dep_N x l μ
theorem notin_tupN (x : Nat) (l : List Nat) (μ : Mu) : vNotIn2 (.int (x : Int)) (.tup (l.map eN)) μ = .ok (.bl (!decide (x ∈ l))) μ := notin_tupM (n := 0) (by omega) eN (fun _ _ => rfl) veq_N dep_N x l μ
theorem notin_lstN (x : Nat) (l : List Nat) (μ : Mu) : vNotIn2 (.int (x : Int)) (.lst (l.map eN)) μ = .ok (.bl (!decide (x ∈ l))) μ := notin_lstM (n := 0) (by omega) eN (fun _ _ => rfl) veq_N dep_N x l μ
theorem veq_tupM (e : α → Val) (h : ∀ a b, veq (e a) (e b) = true ↔ a = b) (xs ys : List α) : veq (.tup (xs.map e)) (.tup (ys.map e)) = true ↔ xs = ys := veqs_map e h xs ys
theorem veq_lstM (e : α → Val) (h : ∀ a b, veq (e a) (e b) = true ↔ a = b) (xs ys : List α) : veq (.lst (xs.map e)) (.lst (ys.map e)) = true ↔ xs = ys := veqs_map e h xs ys
/-- == by what is stood for -/
theorem eq_M [DecidableEq α] {n : Nat} (hn : n ≤ 60) (e : α → Val) (hl : ∀ a μ, look μ (e a) = e a) (h : ∀ a b, veq (e a) (e b) = true ↔ a = b) (hd : ∀ a, ∃ k, dep (e a) = some k ∧ k ≤ n) (x y : α) (μ : Mu) : vEq (e x) (e y) μ = .ok (.bl (decide (x = y))) μ := by
  unfold vEq
  rw [hl, hl, shp_of hn (hd x), shp_of hn (hd y)]
  show Res.ok (Val.bl (veq (e x) (e y))) μ = _
  congr 2
  by_cases hx : x = y
  · rw [decide_eq_true hx]; exact (h x y).mpr hx
  · rw [decide_eq_false hx]
    cases q : veq (e x) (e y) with
    | false => rfl
    | true => exact absurd ((h x y).mp q) hx
theorem ne_M [DecidableEq α] {n : Nat} (hn : n ≤ 60) (e : α → Val) (hl : ∀ a μ, look μ (e a) = e a) (h : ∀ a b, veq (e a) (e b) = true ↔ a = b) (hd : ∀ a, ∃ k, dep (e a) = some k ∧ k ≤ n) (x y : α) (μ : Mu) : vNe (e x) (e y) μ = .ok (.bl (!decide (x = y))) μ := by
  have := eq_M hn e hl h hd x y μ
  unfold vEq at this
  unfold vNe
  rw [hl, hl, shp_of hn (hd x), shp_of hn (hd y)] at *
  have e2 : veq (e x) (e y) = decide (x = y) := by
    have : Res.ok (Val.bl (veq (e x) (e y))) μ = .ok (.bl (decide (x = y))) μ := this
    injection this with h1 h2; injection h1
  show Res.ok (Val.bl (!veq (e x) (e y))) μ = _
  rw [e2]
end
theorem forL_nx {i : Nat} {body : B} {x : Val} {xs : List Val} {sl sl' : Sl} {μ μ' : Mu} (h : body (sl.set i (some x)) μ = .nx sl' μ') : forL (.nm i) body (x :: xs) sl μ = forL (.nm i) body xs sl' μ' := by
  show (match bindT (.nm i) x sl μ with
    | none => Flow.stuck
    | some sl' => match body sl' μ with
      | .nx sl2 μ2 => forL (.nm i) body xs sl2 μ2
      | .ct sl2 μ2 => forL (.nm i) body xs sl2 μ2
      | .bk sl2 μ2 => .nx sl2 μ2
      | r => r) = _
  rw [bindT_nm]
  dsimp only
  rw [h]
end G

/-! the program, its constants -/
namespace Y
open G PySem PySem.Spec PyProof.Rows L2
def v_MOST_VARIABLES : Val := .int 5
def v_MOST_DEEDS : Val := .int 5
def v_MOST_PROGRAMS : Val := .int 4
def mt_Malformed : Nat → Option Bool
  | 0 => some false
  | 1 => some true
  | _ => none
abbrev l1__law_draw : B :=
  sseq (sasg (mop2 vMod (mcall vInt (acons (mop2 vAdd2 (mop2 vAdd2 (mop2 vMul2 (mvar 1) (mcst (.int 48271))) (mop2 vMod (mcall vAbs (acons (mcall vInt (acons (mvar 2) (anil))) (anil))) (mcst (.int 65521)))) (mcst (.int 1))) (anil))) (mcst (.int 2147483647))) (.nm 1))
  (sskip)
def b__law_draw : B :=
  sseq (sasg (mcst (.int 7)) (.nm 1))
  (sseq (sfor (iseq (mvar 0)) (.nm 2) l1__law_draw)
  (sseq (sret (mmut (mlst (acons (mimm (mlc (iseq (mvar 0)) ([2] : List Nat) (.nm 2) (tyes) (mcall vAbs (acons (mcall vInt (acons (mvar 2) (anil))) (anil))))) (acons (mop1 vNeg (mcst (.int 1))) (acons (mcst (.int 0)) (acons (mvar 1) (anil))))))))
  (sskip)))
def f__law_draw : Sem := defB 1 3 b__law_draw
def b__law_take : B :=
  sseq (sif (mbool (mop2 vEq (mop2 vSub2 (mvar 0) (mcst (.int 2))) (mcst (.int 0))))
    (sseq (ssetI (mop2 vAdd2 (mop2 vSub2 (mvar 0) (mcst (.int 1))) (mcst (.int 1))) (mvar 0) (mcst (.int 1)))
    (sseq (sif (mbool (mop2 vLt (mop2 vSub2 (mvar 0) (mcst (.int 1))) (mcall vLen (acons (mop2 vSub2 (mvar 0) (mcst (.int 0))) (anil)))))
      (sseq (ssetI (mop2 vSub2 (mop2 vSub2 (mvar 0) (mcst (.int 0))) (mop2 vSub2 (mvar 0) (mcst (.int 1)))) (mvar 0) (mcst (.int 2)))
      (sskip))
      (sskip))
    (sseq (sif (mbool (mop2 vEq (mop2 vSub2 (mvar 0) (mcst (.int 2))) (mcst (.int 0))))
      (sseq (ssetI (mop2 vMod (mcall vInt (acons (mop2 vAdd2 (mop2 vMul2 (mop2 vSub2 (mvar 0) (mcst (.int 3))) (mcst (.int 48271))) (mcst (.int 11))) (anil))) (mcst (.int 2147483647))) (mvar 0) (mcst (.int 3)))
      (sseq (ssetI (mop2 vSub2 (mvar 0) (mcst (.int 3))) (mvar 0) (mcst (.int 2)))
      (sskip)))
      (sskip))
    (sskip))))
    (sskip))
  (sseq (sasg (mop2 vMod (mcall vInt (acons (mop2 vSub2 (mvar 0) (mcst (.int 2))) (anil))) (mvar 1)) (.nm 2))
  (sseq (ssetI (mop2 vFdiv (mop2 vSub2 (mvar 0) (mcst (.int 2))) (mvar 1)) (mvar 0) (mcst (.int 2)))
  (sseq (sret (mvar 2))
  (sskip))))
def f__law_take : Sem := defB 2 3 b__law_take
abbrev l1__law_texts : B :=
  sseq (sdrop (mmeth "list" vAppend (mvar 3) (acons (mcall vTuple (acons (mimm (mlc (irng1 (acons (mop2 vAdd2 (mcst (.int 1)) (mcall (callD f__law_take) (acons (mvar 0) (acons (mcst (.int 3)) (anil))))) (anil))) ([5] : List Nat) (.nm 5) (tyes) (mtup (acons (mop2 vSub2 (mimm (mlst (acons (mcst (.str "r")) (acons (mcst (.str "w")) (anil))))) (mcall (callD f__law_take) (acons (mvar 0) (acons (mcst (.int 2)) (anil))))) (acons (mcall (callD f__law_take) (acons (mvar 0) (acons (mvar 2) (anil)))) (anil)))))) (anil))) (anil))))
  (sskip)
def b__law_texts : B :=
  sseq (sasg (mtup (acons (mop2 vAdd2 (mcst (.int 2)) (mcall (callD f__law_take) (acons (mvar 0) (acons (mcst (.int 4)) (anil))))) (acons (mmut (mlst (anil))) (anil)))) (.tp [.nm 2, .nm 3]))
  (sseq (sfor (irng1 (acons (mop2 vAdd2 (mcst (.int 1)) (mcall (callD f__law_take) (acons (mvar 0) (acons (mvar 1) (anil))))) (anil))) (.nm 4) l1__law_texts)
  (sseq (sret (mcall vTuple (acons (mvar 3) (anil))))
  (sskip)))
def f__law_texts : Sem := defB 2 6 b__law_texts
def b_is_whole : B :=
  sseq (sret (mand (mcall vIsi (acons (mvar 0) (acons (mcst (.ty "int")) (anil)))) (mnot (mcall vIsi (acons (mvar 0) (acons (mcst (.ty "bool")) (anil)))))))
  (sskip)
def f_is_whole : Sem := defB 1 1 b_is_whole
def b_is_deed : B :=
  sseq (sif (tor (tnot (mtruth (mcall vIsi (acons (mvar 0) (acons (mcst (.ty "tuple")) (anil)))))) (tor (mbool (mop2 vNe (mcall vLen (acons (mvar 0) (anil))) (mcst (.int 2)))) (tor (tnot (mtruth (mcall vIsi (acons (mop2 vSub2 (mvar 0) (mcst (.int 0))) (acons (mcst (.ty "str")) (anil)))))) (mbool (mop2 vNotIn2 (mop2 vSub2 (mvar 0) (mcst (.int 0))) (mtup (acons (mcst (.str "r")) (acons (mcst (.str "w")) (anil)))))))))
    (sseq (sret (mcst (.bl false)))
    (sskip))
    (sskip))
  (sseq (sret (mand (mcall (callD f_is_whole) (acons (mop2 vSub2 (mvar 0) (mcst (.int 1))) (anil))) (mchain vLe vLt (mcst (.int 0)) (mop2 vSub2 (mvar 0) (mcst (.int 1))) (mcst v_MOST_VARIABLES))))
  (sskip))
def f_is_deed : Sem := defB 1 1 b_is_deed
def b_is_text : B :=
  sseq (sret (mand (mcall vIsi (acons (mvar 0) (acons (mcst (.ty "tuple")) (anil)))) (mand (mchain vLe vLe (mcst (.int 1)) (mcall vLen (acons (mvar 0) (anil))) (mcst v_MOST_DEEDS)) (mcall vAll (acons (mimm (mlc (iseq (mvar 0)) ([1] : List Nat) (.nm 1) (tyes) (mcall (callD f_is_deed) (acons (mvar 1) (anil))))) (anil))))))
  (sskip)
def f_is_text : Sem := defB 1 2 b_is_text
def b_is_texts : B :=
  sseq (sret (mand (mcall vIsi (acons (mvar 0) (acons (mcst (.ty "tuple")) (anil)))) (mand (mchain vLe vLe (mcst (.int 1)) (mcall vLen (acons (mvar 0) (anil))) (mcst v_MOST_PROGRAMS)) (mcall vAll (acons (mimm (mlc (iseq (mvar 0)) ([1] : List Nat) (.nm 1) (tyes) (mcall (callD f_is_text) (acons (mvar 1) (anil))))) (anil))))))
  (sskip)
def f_is_texts : Sem := defB 1 2 b_is_texts
def b_check_texts : B :=
  sseq (sif (tnot (mtruth (mcall (callD f_is_texts) (acons (mvar 0) (anil)))))
    (sseq (sraise 1)
    (sskip))
    (sskip))
  (sskip)
def f_check_texts : Sem := defB 1 1 b_check_texts
def b_do_touch : B :=
  sseq (sret (mand (mop2 vEq (mop2 vSub2 (mvar 0) (mcst (.int 1))) (mop2 vSub2 (mvar 1) (mcst (.int 1)))) (mop2 vIn2 (mcst (.str "w")) (mtup (acons (mop2 vSub2 (mvar 0) (mcst (.int 0))) (acons (mop2 vSub2 (mvar 1) (mcst (.int 0))) (anil)))))))
  (sskip)
def f_do_touch : Sem := defB 2 2 b_do_touch
def b_rows_touch : B :=
  sseq (sret (mcall vAny (acons (mimm (mlc2 (iseq (mvar 0)) ([2, 3] : List Nat) (.nm 2) (tyes) (mraw (iseq (mvar 1)) ([3]) (.nm 3) (tyes) (mcall (callD f_do_touch) (acons (mvar 2) (acons (mvar 3) (anil))))))) (anil))))
  (sskip)
def f_rows_touch : Sem := defB 2 4 b_rows_touch
abbrev l1_joined_to : B :=
  sseq (sif (tand (mbool (mop2 vNotIn2 (mvar 7) (mvar 4))) (mtruth (mcall (callD f_rows_touch) (acons (mop2 vSub2 (mvar 0) (mop2 vSub2 (mvar 5) (mvar 6))) (acons (mop2 vSub2 (mvar 0) (mvar 7)) (anil))))))
    (sseq (ssetI (mop2 vAdd2 (mop2 vSub2 (mvar 4) (mop2 vSub2 (mvar 5) (mvar 6))) (mtup (acons (mvar 7) (anil)))) (mvar 4) (mvar 7))
    (sseq (sdrop (mmeth "list" vAppend (mvar 5) (acons (mvar 7) (anil))))
    (sskip)))
    (sskip))
  (sskip)
abbrev c2_joined_to : M Bool := mbool (mop2 vLt (mvar 6) (mcall vLen (acons (mvar 5) (anil))))
abbrev l2_joined_to : B :=
  sseq (sfor (iseq (mvar 3)) (.nm 7) l1_joined_to)
  (sseq (saug (fun i j => i + j) 6 (mcst (.int 1)))
  (sskip))
def b_joined_to : B :=
  sseq (sasg (mimm (mlc (irng1 (acons (mcall vLen (acons (mvar 0) (anil))) (anil))) ([7] : List Nat) (.nm 7) (mbool (mop2 vNe (mvar 7) (mvar 1))) (mvar 7))) (.nm 3))
  (sseq (sasg (mdc true (iseq (mvar 3)) ([7] : List Nat) (.nm 7) (mtruth (mcall (callD f_rows_touch) (acons (mimm (mlst (acons (mop2 vSub2 (mop2 vSub2 (mvar 0) (mvar 1)) (mvar 2)) (anil)))) (acons (mop2 vSub2 (mvar 0) (mvar 7)) (anil))))) (mvar 7) (mtup (acons (mvar 7) (anil)))) (.nm 4))
  (sseq (sasg (mmut (mcall vSorted2 (acons (mvar 4) (anil)))) (.nm 5))
  (sseq (sasg (mcst (.int 0)) (.nm 6))
  (sseq (swhile c2_joined_to l2_joined_to FUEL)
  (sseq (sret (mvar 4))
  (sskip))))))
def f_joined_to : Sem := defB 3 8 b_joined_to
def b_ring_between : B :=
  sseq (sasg (mcall (callD f_joined_to) (acons (mvar 0) (acons (mvar 1) (acons (mvar 2) (anil))))) (.nm 4))
  (sseq (sasg (mimm (mlc (iseq (mimm (mcall vSorted2 (acons (mvar 4) (anil))))) ([6] : List Nat) (.nm 6) (mtruth (mcall (callD f_rows_touch) (acons (mimm (mlst (acons (mop2 vSub2 (mop2 vSub2 (mvar 0) (mvar 1)) (mvar 3)) (anil)))) (acons (mop2 vSub2 (mvar 0) (mvar 6)) (anil))))) (mop2 vSub2 (mvar 4) (mvar 6)))) (.nm 5))
  (sseq (sret (mife (mbool (mop2 vGt (mcall vLen (acons (mvar 5) (anil))) (mcst (.int 0)))) (mop2 vSub2 (mvar 5) (mcst (.int 0))) (mcst .non)))
  (sskip)))
def f_ring_between : Sem := defB 4 7 b_ring_between
abbrev l1_finest_cut : B :=
  sseq (sasg (mimm (mlc2 (irng1 (acons (mcall vLen (acons (mvar 3) (anil))) (anil))) ([5, 6] : List Nat) (.nm 5) (tyes) (mraw (irng1 (acons (mvar 5) (anil))) ([6]) (.nm 6) (mbool (mop2 vNotN (mcall (callD f_ring_between) (acons (mvar 0) (acons (mvar 2) (acons (mvar 6) (acons (mvar 5) (anil)))))) (mcst .non))) (mtup (acons (mvar 6) (acons (mvar 5) (anil))))))) (.nm 4))
  (sseq (sdrop (mmeth "list" vAppend (mvar 1) (acons (mcall vTuple (acons (mimm (mlc (irng2 (acons (mcst (.int 1)) (acons (mcall vLen (acons (mvar 3) (anil))) (anil)))) ([7] : List Nat) (.nm 7) (tnot (mtruth (mcall vAny (acons (mimm (mlc (iseq (mvar 4)) ([6, 5] : List Nat) (.tp [.nm 6, .nm 5]) (tyes) (mchain vLt vLe (mvar 6) (mvar 7) (mvar 5)))) (anil))))) (mvar 7))) (anil))) (anil))))
  (sskip))
def b_finest_cut : B :=
  sseq (sdrop (mcall (callD f_check_texts) (acons (mvar 0) (anil))))
  (sseq (sasg (mmut (mlst (anil))) (.nm 1))
  (sseq (sfor (ienum (acons (mvar 0) (anil))) (.tp [.nm 2, .nm 3]) l1_finest_cut)
  (sseq (sret (mcall vTuple (acons (mvar 1) (anil))))
  (sskip))))
def f_finest_cut : Sem := defB 1 8 b_finest_cut
def b__law_told : B :=
  sseq (stry mt_Malformed
    (sseq (sret (mcall (callD f_finest_cut) (acons (mvar 0) (anil))))
    (sskip))
    (sseq (sret (mcst (.str "<malformed>")))
    (sskip)))
  (sskip)
def f__law_told : Sem := defB 1 1 b__law_told
abbrev l1__law_cuts : B :=
  sseq (sasg (mop2 vAdd2 (mvar 5) (mimm (mlc (iseq (mvar 3)) ([7] : List Nat) (.nm 7) (tyes) (mop2 vAdd2 (mvar 6) (mtup (acons (mvar 7) (anil))))))) (.nm 5))
  (sskip)
abbrev l2__law_cuts : B :=
  sseq (sasg (mop2 vAdd2 (mvar 3) (mimm (mlc (iseq (mvar 3)) ([7] : List Nat) (.nm 7) (tyes) (mop2 vAdd2 (mvar 7) (mtup (acons (mvar 4) (anil))))))) (.nm 3))
  (sskip)
abbrev l3__law_cuts : B :=
  sseq (sasg (mimm (mlst (acons (mtup (anil)) (anil)))) (.nm 3))
  (sseq (sfor (irng2 (acons (mcst (.int 1)) (acons (mcall vLen (acons (mvar 2) (anil))) (anil)))) (.nm 4) l2__law_cuts)
  (sseq (sasg (mimm (mlst (anil))) (.nm 5))
  (sseq (sfor (iseq (mvar 1)) (.nm 6) l1__law_cuts)
  (sseq (sasg (mvar 5) (.nm 1))
  (sskip)))))
def b__law_cuts : B :=
  sseq (sasg (mimm (mlst (acons (mtup (anil)) (anil)))) (.nm 1))
  (sseq (sfor (iseq (mvar 0)) (.nm 2) l3__law_cuts)
  (sseq (sret (mvar 1))
  (sskip)))
def f__law_cuts : Sem := defB 1 8 b__law_cuts
def b__law_odd_texts : B :=
  sseq (sasg (mimm (mlst (acons (mcst .non) (acons (mtup (anil)) (acons (mcst (.int 5)) (acons (mimm (mcall vList (acons (mvar 1) (anil)))) (acons (mtup (acons (mtup (anil)) (anil))) (acons (mtup (acons (mtup (acons (mtup (acons (mcst (.str "x")) (acons (mcst (.int 0)) (anil)))) (anil))) (anil))) (acons (mtup (acons (mtup (acons (mtup (acons (mcst (.str "r")) (acons (mcst (.int 5)) (anil)))) (anil))) (anil))) (acons (mtup (acons (mtup (acons (mtup (acons (mcst (.str "r")) (acons (mcst (.bl true)) (anil)))) (anil))) (anil))) (acons (mtup (acons (mtup (acons (mtup (acons (mcst (.str "r")) (acons (mcst (.int 0)) (acons (mcst (.int 0)) (anil))))) (anil))) (anil))) (acons (mtup (acons (mimm (mlst (acons (mtup (acons (mcst (.str "r")) (acons (mcst (.int 0)) (anil)))) (anil)))) (anil))) (acons (mtup (acons (mtup (acons (mimm (mlst (acons (mcst (.str "r")) (acons (mcst (.int 0)) (anil))))) (anil))) (anil))) (anil)))))))))))))) (.nm 2))
  (sseq (sret (mop2 vSub2 (mop2 vAdd2 (mvar 2) (mimm (mlst (acons (mop2 vAdd2 (mvar 1) (mtup (acons (mcst .non) (anil)))) (acons (mop2 vMul2 (mtup (acons (mtup (acons (mtup (acons (mcst (.str "r")) (acons (mcst (.int 0)) (anil)))) (anil))) (anil))) (mcst (.int 5))) (acons (mtup (acons (mop2 vMul2 (mtup (acons (mtup (acons (mcst (.str "r")) (acons (mcst (.int 0)) (anil)))) (anil))) (mcst (.int 6))) (anil))) (acons (mtup (acons (mtup (acons (mcst (.str "r")) (acons (mcst (.int 0)) (anil)))) (anil))) (anil)))))))) (mcall (callD f__law_take) (acons (mvar 0) (acons (mcst (.int 15)) (anil))))))
  (sskip))
def f__law_odd_texts : Sem := defB 2 3 b__law_odd_texts
def b_is_places : B :=
  sseq (sif (tor (tnot (mtruth (mcall vIsi (acons (mvar 1) (acons (mcst (.ty "tuple")) (anil)))))) (tnot (mtruth (mcall vAll (acons (mimm (mlc (iseq (mvar 1)) ([4] : List Nat) (.nm 4) (tyes) (mand (mcall (callD f_is_whole) (acons (mvar 4) (anil))) (mchain vLe vLt (mcst (.int 1)) (mvar 4) (mcall vLen (acons (mvar 0) (anil))))))) (anil))))))
    (sseq (sret (mcst (.bl false)))
    (sskip))
    (sskip))
  (sseq (sret (mcall vAll (acons (mimm (mlc (izip (acons (mvar 1) (acons (mslice vSlice (mvar 1) (osome (mcst (.int 1))) (onone)) (anil)))) ([2, 3] : List Nat) (.tp [.nm 2, .nm 3]) (tyes) (mop2 vLt (mvar 2) (mvar 3)))) (anil))))
  (sskip))
def f_is_places : Sem := defB 2 5 b_is_places
def b_is_cut : B :=
  sseq (sdrop (mcall (callD f_check_texts) (acons (mvar 0) (anil))))
  (sseq (sif (tor (tnot (mtruth (mcall vIsi (acons (mvar 1) (acons (mcst (.ty "tuple")) (anil)))))) (mbool (mop2 vNe (mcall vLen (acons (mvar 1) (anil))) (mcall vLen (acons (mvar 0) (anil))))))
    (sseq (sret (mcst (.bl false)))
    (sskip))
    (sskip))
  (sseq (sret (mcall vAll (acons (mimm (mlc (izip (acons (mvar 0) (acons (mvar 1) (anil)))) ([2, 3] : List Nat) (.tp [.nm 2, .nm 3]) (tyes) (mcall (callD f_is_places) (acons (mvar 2) (acons (mvar 3) (anil)))))) (anil))))
  (sskip)))
def f_is_cut : Sem := defB 2 4 b_is_cut
def b_check_cut : B :=
  sseq (sif (tnot (mtruth (mcall (callD f_is_cut) (acons (mvar 0) (acons (mvar 1) (anil))))))
    (sseq (sraise 1)
    (sskip))
    (sskip))
  (sskip)
def f_check_cut : Sem := defB 2 2 b_check_cut
def b_piece_of : B :=
  sseq (sret (mcall vLen (acons (mimm (mlc (iseq (mvar 0)) ([2] : List Nat) (.nm 2) (mbool (mop2 vLe (mvar 2) (mvar 1))) (mvar 2))) (anil))))
  (sskip)
def f_piece_of : Sem := defB 2 3 b_piece_of
abbrev l1_first_ring : B :=
  sseq (sasg (mcall (callD f_ring_between) (acons (mvar 0) (acons (mvar 2) (acons (mvar 5) (acons (mvar 4) (anil)))))) (.nm 6))
  (sseq (sif (tand (mbool (mop2 vNotN (mvar 6) (mcst .non))) (mbool (mop2 vNe (mcall (callD f_piece_of) (acons (mop2 vSub2 (mvar 1) (mvar 2)) (acons (mvar 5) (anil)))) (mcall (callD f_piece_of) (acons (mop2 vSub2 (mvar 1) (mvar 2)) (acons (mvar 4) (anil)))))))
    (sseq (sret (mtup (acons (mcst (.str "ring")) (acons (mvar 2) (acons (mvar 5) (acons (mvar 6) (acons (mvar 4) (anil))))))))
    (sskip))
    (sskip))
  (sskip))
abbrev l2_first_ring : B :=
  sseq (sfor (irng1 (acons (mvar 4) (anil))) (.nm 5) l1_first_ring)
  (sskip)
abbrev l3_first_ring : B :=
  sseq (sfor (irng1 (acons (mcall vLen (acons (mvar 3) (anil))) (anil))) (.nm 4) l2_first_ring)
  (sskip)
def b_first_ring : B :=
  sseq (sfor (ienum (acons (mvar 0) (anil))) (.tp [.nm 2, .nm 3]) l3_first_ring)
  (sseq (sret (mcst .non))
  (sskip))
def f_first_ring : Sem := defB 2 7 b_first_ring
def b_cut_ring : B :=
  sseq (sdrop (mcall (callD f_check_cut) (acons (mvar 0) (acons (mvar 1) (anil)))))
  (sseq (sret (mcall (callD f_first_ring) (acons (mvar 0) (acons (mvar 1) (anil)))))
  (sskip))
def f_cut_ring : Sem := defB 2 2 b_cut_ring
abbrev l1_law : B :=
  sseq (sasg (mcall vAll (acons (mimm (mlc (irng1 (acons (mcall vLen (acons (mvar 3) (anil))) (anil))) ([7] : List Nat) (.nm 7) (tyes) (mcall vAll (acons (mimm (mlc (iseq (mop2 vSub2 (mvar 5) (mvar 7))) ([8] : List Nat) (.nm 8) (tyes) (mop2 vIn2 (mvar 8) (mop2 vSub2 (mvar 4) (mvar 7))))) (anil))))) (anil))) (.nm 6))
  (sseq (sif (mbool (mop2 vNe (mop2 vIsN (mcall (callD f_cut_ring) (acons (mvar 3) (acons (mvar 5) (anil)))) (mcst .non)) (mvar 6)))
    (sseq (sret (mcst (.bl false)))
    (sskip))
    (sskip))
  (sskip))
abbrev l2_law : B :=
  sseq (sasg (mcall (callD f__law_texts) (acons (mvar 1) (acons (mcst (.int 4)) (anil)))) (.nm 3))
  (sseq (sasg (mcall (callD f_finest_cut) (acons (mvar 3) (anil))) (.nm 4))
  (sseq (sif (tor (tnot (mtruth (mcall (callD f_is_cut) (acons (mvar 3) (acons (mvar 4) (anil)))))) (mbool (mop2 vNotN (mcall (callD f_cut_ring) (acons (mvar 3) (acons (mvar 4) (anil)))) (mcst .non))))
    (sseq (sret (mcst (.bl false)))
    (sskip))
    (sskip))
  (sseq (sfor (iseq (mslice vSlice (mcall (callD f__law_cuts) (acons (mvar 3) (anil))) (onone) (osome (mcst (.int 64))))) (.nm 5) l1_law)
  (sskip))))
def b_law : B :=
  sseq (sasg (mcall (callM f__law_draw) (acons (mvar 0) (anil))) (.nm 1))
  (sseq (sfor (irng1 (acons (mcst (.int 2)) (anil))) (.nm 2) l2_law)
  (sseq (sret (mop2 vEq (mcall (callD f__law_told) (acons (mcall (callD f__law_odd_texts) (acons (mvar 1) (acons (mvar 3) (anil)))) (anil))) (mcst (.str "<malformed>"))))
  (sskip)))
def f_law : Sem := defB 1 9 b_law
end Y

/-! the walk -/
namespace Y
open G PySem PySem.Spec PyProof.Rows L2
def top (i : Nat) : Stmt := PySem.Challenge.pw_schedkinds_k67_whole_finest_cuts.main.body.getD i (.Pass ⟨0, 0, 0, 0⟩)
abbrev s__law_draw : Stmt := top 25
theorem sc__law_draw : FnScope ["script", "seed", "cell"] ["script"] (defScope s__law_draw) := ⟨rfl, rfl, rfl, by decide +kernel, rfl, by decide +kernel, by decide +kernel⟩
abbrev s__law_take : Stmt := top 26
theorem sc__law_take : FnScope ["draw", "many", "found"] ["draw", "many"] (defScope s__law_take) := ⟨rfl, rfl, rfl, by decide +kernel, rfl, by decide +kernel, by decide +kernel⟩
abbrev s__law_texts : Stmt := top 27
theorem sc__law_texts : FnScope ["draw", "most", "top", "found", "turn", "k"] ["draw", "most"] (defScope s__law_texts) := ⟨rfl, rfl, rfl, by decide +kernel, rfl, by decide +kernel, by decide +kernel⟩
abbrev s_is_whole : Stmt := top 4
theorem sc_is_whole : FnScope ["value"] ["value"] (defScope s_is_whole) := ⟨rfl, rfl, rfl, by decide +kernel, rfl, by decide +kernel, by decide +kernel⟩
abbrev s_is_deed : Stmt := top 9
theorem sc_is_deed : FnScope ["value"] ["value"] (defScope s_is_deed) := ⟨rfl, rfl, rfl, by decide +kernel, rfl, by decide +kernel, by decide +kernel⟩
abbrev s_is_text : Stmt := top 10
theorem sc_is_text : FnScope ["value", "deed"] ["value"] (defScope s_is_text) := ⟨rfl, rfl, rfl, by decide +kernel, rfl, by decide +kernel, by decide +kernel⟩
abbrev s_is_texts : Stmt := top 11
theorem sc_is_texts : FnScope ["value", "text"] ["value"] (defScope s_is_texts) := ⟨rfl, rfl, rfl, by decide +kernel, rfl, by decide +kernel, by decide +kernel⟩
abbrev s_check_texts : Stmt := top 12
theorem sc_check_texts : FnScope ["value"] ["value"] (defScope s_check_texts) := ⟨rfl, rfl, rfl, by decide +kernel, rfl, by decide +kernel, by decide +kernel⟩
abbrev s_do_touch : Stmt := top 16
theorem sc_do_touch : FnScope ["one", "two"] ["one", "two"] (defScope s_do_touch) := ⟨rfl, rfl, rfl, by decide +kernel, rfl, by decide +kernel, by decide +kernel⟩
abbrev s_rows_touch : Stmt := top 17
theorem sc_rows_touch : FnScope ["one", "two", "a", "b"] ["one", "two"] (defScope s_rows_touch) := ⟨rfl, rfl, rfl, by decide +kernel, rfl, by decide +kernel, by decide +kernel⟩
abbrev s_joined_to : Stmt := top 19
theorem sc_joined_to : FnScope ["texts", "p", "i", "others", "found", "row", "place", "t"] ["texts", "p", "i"] (defScope s_joined_to) := ⟨rfl, rfl, rfl, by decide +kernel, rfl, by decide +kernel, by decide +kernel⟩
abbrev s_ring_between : Stmt := top 20
theorem sc_ring_between : FnScope ["texts", "p", "i", "k", "found", "good", "t"] ["texts", "p", "i", "k"] (defScope s_ring_between) := ⟨rfl, rfl, rfl, by decide +kernel, rfl, by decide +kernel, by decide +kernel⟩
abbrev s_finest_cut : Stmt := top 23
theorem sc_finest_cut : FnScope ["texts", "found", "p", "text", "spans", "k", "i", "place"] ["texts"] (defScope s_finest_cut) := ⟨rfl, rfl, rfl, by decide +kernel, rfl, by decide +kernel, by decide +kernel⟩
abbrev s__law_told : Stmt := top 30
theorem sc__law_told : FnScope ["texts"] ["texts"] (defScope s__law_told) := ⟨rfl, rfl, rfl, by decide +kernel, rfl, by decide +kernel, by decide +kernel⟩
abbrev s__law_cuts : Stmt := top 29
theorem sc__law_cuts : FnScope ["texts", "found", "text", "rows", "k", "longer", "cut", "row"] ["texts"] (defScope s__law_cuts) := ⟨rfl, rfl, rfl, by decide +kernel, rfl, by decide +kernel, by decide +kernel⟩
abbrev s__law_odd_texts : Stmt := top 28
theorem sc__law_odd_texts : FnScope ["draw", "texts", "odd"] ["draw", "texts"] (defScope s__law_odd_texts) := ⟨rfl, rfl, rfl, by decide +kernel, rfl, by decide +kernel, by decide +kernel⟩
abbrev s_is_places : Stmt := top 13
theorem sc_is_places : FnScope ["text", "value", "one", "two", "k"] ["text", "value"] (defScope s_is_places) := ⟨rfl, rfl, rfl, by decide +kernel, rfl, by decide +kernel, by decide +kernel⟩
abbrev s_is_cut : Stmt := top 14
theorem sc_is_cut : FnScope ["texts", "value", "text", "places"] ["texts", "value"] (defScope s_is_cut) := ⟨rfl, rfl, rfl, by decide +kernel, rfl, by decide +kernel, by decide +kernel⟩
abbrev s_check_cut : Stmt := top 15
theorem sc_check_cut : FnScope ["texts", "cut"] ["texts", "cut"] (defScope s_check_cut) := ⟨rfl, rfl, rfl, by decide +kernel, rfl, by decide +kernel, by decide +kernel⟩
abbrev s_piece_of : Stmt := top 18
theorem sc_piece_of : FnScope ["places", "i", "k"] ["places", "i"] (defScope s_piece_of) := ⟨rfl, rfl, rfl, by decide +kernel, rfl, by decide +kernel, by decide +kernel⟩
abbrev s_first_ring : Stmt := top 21
theorem sc_first_ring : FnScope ["texts", "cut", "p", "text", "k", "i", "names"] ["texts", "cut"] (defScope s_first_ring) := ⟨rfl, rfl, rfl, by decide +kernel, rfl, by decide +kernel, by decide +kernel⟩
abbrev s_cut_ring : Stmt := top 22
theorem sc_cut_ring : FnScope ["texts", "cut"] ["texts", "cut"] (defScope s_cut_ring) := ⟨rfl, rfl, rfl, by decide +kernel, rfl, by decide +kernel, by decide +kernel⟩
abbrev s_law : Stmt := top 31
theorem sc_law : FnScope ["script", "draw", "turn", "texts", "told", "cut", "within", "t", "k"] ["script"] (defScope s_law) := ⟨rfl, rfl, rfl, by decide +kernel, rfl, by decide +kernel, by decide +kernel⟩
structure Txt (c : Ct) (w : World) (mg : Str → Option Value) : Prop where
  d__law_draw : DefT c mg "_law_draw" s__law_draw ["script"]
  d__law_take : DefT c mg "_law_take" s__law_take ["draw", "many"]
  d__law_texts : DefT c mg "_law_texts" s__law_texts ["draw", "most"]
  d_is_whole : DefT c mg "is_whole" s_is_whole ["value"]
  d_is_deed : DefT c mg "is_deed" s_is_deed ["value"]
  d_is_text : DefT c mg "is_text" s_is_text ["value"]
  d_is_texts : DefT c mg "is_texts" s_is_texts ["value"]
  d_check_texts : DefT c mg "check_texts" s_check_texts ["value"]
  d_do_touch : DefT c mg "do_touch" s_do_touch ["one", "two"]
  d_rows_touch : DefT c mg "rows_touch" s_rows_touch ["one", "two"]
  d_joined_to : DefT c mg "joined_to" s_joined_to ["texts", "p", "i"]
  d_ring_between : DefT c mg "ring_between" s_ring_between ["texts", "p", "i", "k"]
  d_finest_cut : DefT c mg "finest_cut" s_finest_cut ["texts"]
  d__law_told : DefT c mg "_law_told" s__law_told ["texts"]
  d__law_cuts : DefT c mg "_law_cuts" s__law_cuts ["texts"]
  d__law_odd_texts : DefT c mg "_law_odd_texts" s__law_odd_texts ["draw", "texts"]
  d_is_places : DefT c mg "is_places" s_is_places ["text", "value"]
  d_is_cut : DefT c mg "is_cut" s_is_cut ["texts", "value"]
  d_check_cut : DefT c mg "check_cut" s_check_cut ["texts", "cut"]
  d_piece_of : DefT c mg "piece_of" s_piece_of ["places", "i"]
  d_first_ring : DefT c mg "first_ring" s_first_ring ["texts", "cut"]
  d_cut_ring : DefT c mg "cut_ring" s_cut_ring ["texts", "cut"]
  d_law : DefT c mg "law" s_law ["script"]
  z_abs : mg "abs" = none
  z_int : mg "int" = none
  z_len : mg "len" = none
  z_tuple : mg "tuple" = none
  z_range : mg "range" = none
  z_isinstance : mg "isinstance" = none
  z_bool : mg "bool" = none
  z_str : mg "str" = none
  z_all : mg "all" = none
  z_any : mg "any" = none
  z_sorted : mg "sorted" = none
  z_enumerate : mg "enumerate" = none
  z_list : mg "list" = none
  z_zip : mg "zip" = none
  k_MOST_VARIABLES : GlobT c mg "MOST_VARIABLES" v_MOST_VARIABLES
  k_MOST_DEEDS : GlobT c mg "MOST_DEEDS" v_MOST_DEEDS
  k_MOST_PROGRAMS : GlobT c mg "MOST_PROGRAMS" v_MOST_PROGRAMS
  x_Malformed : ExcT c mg "Malformed" 1
  h_Malformed : HdlT c mg "Malformed" mt_Malformed
section
variable {c : Ct} {P : Program} {w : World} {mg : Str → Option Value} {base : Heap}
theorem fn__law_draw (T : Txt c w mg) {f : Addr} {fd : FuncData} (F : Fun c.K "_law_draw" "_law_draw" s__law_draw f fd) : FnOk P w c.K mg base (L2.CX P w) 1 f fd ["script"] (spG c f__law_draw) := by
  refine def_ok (b := b__law_draw) F sc__law_draw rfl rfl fun cdv A outer s H E hr tk hp => ?_
  have hu := u65 hr
  exact
  (gs_cons (set_ 1 sc__law_draw.nd ge_int)
  (gs_cons (for_ hp (in_ (v_ 0)) (n_ 2 sc__law_draw.nd)
    (gs_cons (set_ 1 sc__law_draw.nd (bin_ b_Mod (ct_ f_int T.z_int hu (ga_cons (bin_ b_Add (bin_ b_Add (bin_ b_Mult (v_ 1) ge_int) (bin_ b_Mod (cb_ f_abs T.z_abs hu (ga_cons (ct_ f_int T.z_int hu (ga_cons (v_ 2) ga_nil)) ga_nil)) ge_int)) ge_int) ga_nil)) ge_int))
  gs_nil))
  (gs_cons (gs_ret (ge_mut (gf_lst (ga_cons (ge_imm (lc_ [("cell", 2)] sc__law_draw.nd (in_ (v_ 0)) (fun _ _ _ _ _ => (n_ 2 sc__law_draw.nd)) (fun _ _ _ _ _ => gts_nil) (fun _ _ _ _ _ => (cb_ f_abs T.z_abs hu (ga_cons (ct_ f_int T.z_int hu (ga_cons (v_ 2) ga_nil)) ga_nil))))) (ga_cons (ge_neg ge_int) (ga_cons ge_int (ga_cons (v_ 1) ga_nil)))))))
  gs_nil)))
theorem ok__law_draw (T : Txt c w mg) : Cal c P w mg base 1 "_law_draw" f__law_draw := by
  obtain ⟨f, fd, F, hm, hk, hb⟩ := T.d__law_draw.ex
  exact ⟨f, fd, _, fn__law_draw T F, hm, hk, hb⟩
theorem fn__law_take (T : Txt c w mg) {f : Addr} {fd : FuncData} (F : Fun c.K "_law_take" "_law_take" s__law_take f fd) : FnOk P w c.K mg base (L2.CX P w) 1 f fd ["draw", "many"] (spG c f__law_take) := by
  refine def_ok (b := b__law_take) F sc__law_take rfl rfl fun cdv A outer s H E hr tk hp => ?_
  have hu := u65 hr
  exact
  (gs_cons (gs_if (tcmp_ c_Eq hu (ix_ hu (v_ 0) ge_int) ge_int)
    (gs_cons (gs_setI (u64 hu) (bin_ b_Add (ix_ hu (v_ 0) ge_int) ge_int) (v_ 0) ge_int)
    (gs_cons (gs_if (tcmp_ c_Lt hu (ix_ hu (v_ 0) ge_int) (cb_ f_len T.z_len hu (ga_cons (ix_ hu (v_ 0) ge_int) ga_nil)))
      (gs_cons (gs_setI (u64 hu) (ix_ hu (ix_ hu (v_ 0) ge_int) (ix_ hu (v_ 0) ge_int)) (v_ 0) ge_int)
      gs_nil)
      gs_nil)
    (gs_cons (gs_if (tcmp_ c_Eq hu (ix_ hu (v_ 0) ge_int) ge_int)
      (gs_cons (gs_setI (u64 hu) (bin_ b_Mod (ct_ f_int T.z_int hu (ga_cons (bin_ b_Add (bin_ b_Mult (ix_ hu (v_ 0) ge_int) ge_int) ge_int) ga_nil)) ge_int) (v_ 0) ge_int)
      (gs_cons (gs_setI (u64 hu) (ix_ hu (v_ 0) ge_int) (v_ 0) ge_int)
      gs_nil))
      gs_nil)
    gs_nil)))
    gs_nil)
  (gs_cons (set_ 2 sc__law_take.nd (bin_ b_Mod (ct_ f_int T.z_int hu (ga_cons (ix_ hu (v_ 0) ge_int) ga_nil)) (v_ 1)))
  (gs_cons (gs_setI (u64 hu) (bin_ b_FloorDiv (ix_ hu (v_ 0) ge_int) (v_ 1)) (v_ 0) ge_int)
  (gs_cons (gs_ret (v_ 2))
  gs_nil))))
theorem ok__law_take (T : Txt c w mg) : Cal c P w mg base 1 "_law_take" f__law_take := by
  obtain ⟨f, fd, F, hm, hk, hb⟩ := T.d__law_take.ex
  exact ⟨f, fd, _, fn__law_take T F, hm, hk, hb⟩
theorem fn__law_texts (T : Txt c w mg) {f : Addr} {fd : FuncData} (F : Fun c.K "_law_texts" "_law_texts" s__law_texts f fd) : FnOk P w c.K mg base (L2.CX P w) 2 f fd ["draw", "most"] (spG c f__law_texts) := by
  refine def_ok (b := b__law_texts) F sc__law_texts rfl rfl fun cdv A outer s H E hr tk hp => ?_
  have hu := u65 hr
  exact
  (gs_cons (gs_asg (ge_tup (ga_cons (bin_ b_Add ge_int (ge_call (ok__law_take T) (hr.mono (by decide)) tk (ga_cons (v_ 0) (ga_cons ge_int ga_nil)))) (ga_cons (ge_mut (gf_lst ga_nil)) ga_nil))) (tp_ (ggs_cons (n_ 2 sc__law_texts.nd) (ggs_cons (n_ 3 sc__law_texts.nd) ggs_nil))))
  (gs_cons (for_ hp (gi_rng1 T.z_range (ga_cons (bin_ b_Add ge_int (ge_call (ok__law_take T) (hr.mono (by decide)) tk (ga_cons (v_ 0) (ga_cons (v_ 1) ga_nil)))) ga_nil)) (n_ 4 sc__law_texts.nd)
    (gs_cons (gs_expr (ge_bm PySem.F.plainAttrs_list PySem.F.slot_list_append PySem.F.type_list_append mg_Append nx_Append (v_ 3) (ga_cons (ct_ f_tuple T.z_tuple hu (ga_cons (ge_imm (lc_ [("k", 5)] sc__law_texts.nd (gi_rng1 T.z_range (ga_cons (bin_ b_Add ge_int (ge_call (ok__law_take T) (hr.mono (by decide)) tk (ga_cons (v_ 0) (ga_cons ge_int ga_nil)))) ga_nil)) (fun _ _ _ _ _ => (n_ 5 sc__law_texts.nd)) (fun _ _ _ _ _ => gts_nil) (fun _ _ _ _ _ => (ge_tup (ga_cons (ix_ hu (ge_imm (gf_lst (ga_cons ge_str (ga_cons ge_str ga_nil)))) (ge_call (ok__law_take T) (hr.mono (by decide)) tk0 (ga_cons (v_ 0) (ga_cons ge_int ga_nil)))) (ga_cons (ge_call (ok__law_take T) (hr.mono (by decide)) tk0 (ga_cons (v_ 0) (ga_cons (v_ 2) ga_nil))) ga_nil)))))) ga_nil)) ga_nil)))
  gs_nil))
  (gs_cons (gs_ret (ct_ f_tuple T.z_tuple hu (ga_cons (v_ 3) ga_nil)))
  gs_nil)))
theorem ok__law_texts (T : Txt c w mg) : Cal c P w mg base 2 "_law_texts" f__law_texts := by
  obtain ⟨f, fd, F, hm, hk, hb⟩ := T.d__law_texts.ex
  exact ⟨f, fd, _, fn__law_texts T F, hm, hk, hb⟩
theorem fn_is_whole (T : Txt c w mg) {f : Addr} {fd : FuncData} (F : Fun c.K "is_whole" "is_whole" s_is_whole f fd) : FnOk P w c.K mg base (L2.CX P w) 1 f fd ["value"] (spG c f_is_whole) := by
  refine def_ok (b := b_is_whole) F sc_is_whole rfl rfl fun cdv A outer s H E hr tk hp => ?_
  have hu := u65 hr
  exact
  (gs_cons (gs_ret (and_ (cb_ f_isinstance T.z_isinstance hu (ga_cons (v_ 0) (ga_cons (ge_ty T.z_int) ga_nil))) (ge_one (not_ (cb_ f_isinstance T.z_isinstance hu (ga_cons (v_ 0) (ga_cons (ge_ty T.z_bool) ga_nil)))))))
  gs_nil)
theorem ok_is_whole (T : Txt c w mg) : Cal c P w mg base 1 "is_whole" f_is_whole := by
  obtain ⟨f, fd, F, hm, hk, hb⟩ := T.d_is_whole.ex
  exact ⟨f, fd, _, fn_is_whole T F, hm, hk, hb⟩
theorem fn_is_deed (T : Txt c w mg) {f : Addr} {fd : FuncData} (F : Fun c.K "is_deed" "is_deed" s_is_deed f fd) : FnOk P w c.K mg base (L2.CX P w) 2 f fd ["value"] (spG c f_is_deed) := by
  refine def_ok (b := b_is_deed) F sc_is_deed rfl rfl fun cdv A outer s H E hr tk hp => ?_
  have hu := u65 hr
  exact
  (gs_cons (gs_if (gw_or (gt_not (tr_ (cb_ f_isinstance T.z_isinstance hu (ga_cons (v_ 0) (ga_cons (ge_ty T.z_tuple) ga_nil))))) (gw_or (tcmp_ c_NotEq hu (cb_ f_len T.z_len hu (ga_cons (v_ 0) ga_nil)) ge_int) (gw_or (gt_not (tr_ (cb_ f_isinstance T.z_isinstance hu (ga_cons (ix_ hu (v_ 0) ge_int) (ga_cons (ge_ty T.z_str) ga_nil))))) (gw_or1 (tcmp_ c_NotIn hu (ix_ hu (v_ 0) ge_int) (ge_tup (ga_cons ge_str (ga_cons ge_str ga_nil)))))))).pt
    (gs_cons (gs_ret ge_bl)
    gs_nil)
    gs_nil)
  (gs_cons (gs_ret (and_ (ge_call (ok_is_whole T) (hr.mono (by decide)) tk (ga_cons (ix_ hu (v_ 0) ge_int) ga_nil)) (ge_one (chain_ c_LtE c_Lt hu ge_int (ix_ hu (v_ 0) ge_int) (k_ T.k_MOST_VARIABLES)))))
  gs_nil))
theorem ok_is_deed (T : Txt c w mg) : Cal c P w mg base 2 "is_deed" f_is_deed := by
  obtain ⟨f, fd, F, hm, hk, hb⟩ := T.d_is_deed.ex
  exact ⟨f, fd, _, fn_is_deed T F, hm, hk, hb⟩
theorem fn_is_text (T : Txt c w mg) {f : Addr} {fd : FuncData} (F : Fun c.K "is_text" "is_text" s_is_text f fd) : FnOk P w c.K mg base (L2.CX P w) 3 f fd ["value"] (spG c f_is_text) := by
  refine def_ok (b := b_is_text) F sc_is_text rfl rfl fun cdv A outer s H E hr tk hp => ?_
  have hu := u65 hr
  exact
  (gs_cons (gs_ret (and_ (cb_ f_isinstance T.z_isinstance hu (ga_cons (v_ 0) (ga_cons (ge_ty T.z_tuple) ga_nil))) (and_ (chain_ c_LtE c_LtE hu ge_int (cb_ f_len T.z_len hu (ga_cons (v_ 0) ga_nil)) (k_ T.k_MOST_DEEDS)) (ge_one (cb_ f_all T.z_all hu (ga_cons (ge_imm (lc_ [("deed", 1)] sc_is_text.nd (in_ (v_ 0)) (fun _ _ _ _ _ => (n_ 1 sc_is_text.nd)) (fun _ _ _ _ _ => gts_nil) (fun _ _ _ _ _ => (ge_call (ok_is_deed T) (hr.mono (by decide)) tk0 (ga_cons (v_ 1) ga_nil))))) ga_nil))))))
  gs_nil)
theorem ok_is_text (T : Txt c w mg) : Cal c P w mg base 3 "is_text" f_is_text := by
  obtain ⟨f, fd, F, hm, hk, hb⟩ := T.d_is_text.ex
  exact ⟨f, fd, _, fn_is_text T F, hm, hk, hb⟩
theorem fn_is_texts (T : Txt c w mg) {f : Addr} {fd : FuncData} (F : Fun c.K "is_texts" "is_texts" s_is_texts f fd) : FnOk P w c.K mg base (L2.CX P w) 4 f fd ["value"] (spG c f_is_texts) := by
  refine def_ok (b := b_is_texts) F sc_is_texts rfl rfl fun cdv A outer s H E hr tk hp => ?_
  have hu := u65 hr
  exact
  (gs_cons (gs_ret (and_ (cb_ f_isinstance T.z_isinstance hu (ga_cons (v_ 0) (ga_cons (ge_ty T.z_tuple) ga_nil))) (and_ (chain_ c_LtE c_LtE hu ge_int (cb_ f_len T.z_len hu (ga_cons (v_ 0) ga_nil)) (k_ T.k_MOST_PROGRAMS)) (ge_one (cb_ f_all T.z_all hu (ga_cons (ge_imm (lc_ [("text", 1)] sc_is_texts.nd (in_ (v_ 0)) (fun _ _ _ _ _ => (n_ 1 sc_is_texts.nd)) (fun _ _ _ _ _ => gts_nil) (fun _ _ _ _ _ => (ge_call (ok_is_text T) (hr.mono (by decide)) tk0 (ga_cons (v_ 1) ga_nil))))) ga_nil))))))
  gs_nil)
theorem ok_is_texts (T : Txt c w mg) : Cal c P w mg base 4 "is_texts" f_is_texts := by
  obtain ⟨f, fd, F, hm, hk, hb⟩ := T.d_is_texts.ex
  exact ⟨f, fd, _, fn_is_texts T F, hm, hk, hb⟩
theorem fn_check_texts (T : Txt c w mg) {f : Addr} {fd : FuncData} (F : Fun c.K "check_texts" "check_texts" s_check_texts f fd) : FnOk P w c.K mg base (L2.CX P w) 5 f fd ["value"] (spG c f_check_texts) := by
  refine def_ok (b := b_check_texts) F sc_check_texts rfl rfl fun cdv A outer s H E hr tk hp => ?_
  have hu := u65 hr
  exact
  (gs_cons (gs_if (gt_not (tr_ (ge_call (ok_is_texts T) (hr.mono (by decide)) tk (ga_cons (v_ 0) ga_nil))))
    (gs_cons (gs_raise T.x_Malformed tk)
    gs_nil)
    gs_nil)
  gs_nil)
theorem ok_check_texts (T : Txt c w mg) : Cal c P w mg base 5 "check_texts" f_check_texts := by
  obtain ⟨f, fd, F, hm, hk, hb⟩ := T.d_check_texts.ex
  exact ⟨f, fd, _, fn_check_texts T F, hm, hk, hb⟩
theorem fn_do_touch (T : Txt c w mg) {f : Addr} {fd : FuncData} (F : Fun c.K "do_touch" "do_touch" s_do_touch f fd) : FnOk P w c.K mg base (L2.CX P w) 1 f fd ["one", "two"] (spG c f_do_touch) := by
  refine def_ok (b := b_do_touch) F sc_do_touch rfl rfl fun cdv A outer s H E hr tk hp => ?_
  have hu := u65 hr
  exact
  (gs_cons (gs_ret (and_ (cmp_ c_Eq hu (ix_ hu (v_ 0) ge_int) (ix_ hu (v_ 1) ge_int)) (ge_one (cmp_ c_In hu ge_str (ge_tup (ga_cons (ix_ hu (v_ 0) ge_int) (ga_cons (ix_ hu (v_ 1) ge_int) ga_nil)))))))
  gs_nil)
theorem ok_do_touch (T : Txt c w mg) : Cal c P w mg base 1 "do_touch" f_do_touch := by
  obtain ⟨f, fd, F, hm, hk, hb⟩ := T.d_do_touch.ex
  exact ⟨f, fd, _, fn_do_touch T F, hm, hk, hb⟩
theorem fn_rows_touch (T : Txt c w mg) {f : Addr} {fd : FuncData} (F : Fun c.K "rows_touch" "rows_touch" s_rows_touch f fd) : FnOk P w c.K mg base (L2.CX P w) 2 f fd ["one", "two"] (spG c f_rows_touch) := by
  refine def_ok (b := b_rows_touch) F sc_rows_touch rfl rfl fun cdv A outer s H E hr tk hp => ?_
  have hu := u65 hr
  exact
  (gs_cons (gs_ret (cb_ f_any T.z_any hu (ga_cons (ge_imm (lc2_ [("a", 2), ("b", 3)] [3] sc_rows_touch.nd (in_ (v_ 0)) (fun _ _ _ _ _ => (n_ 2 sc_rows_touch.nd)) (fun _ _ _ _ _ => gts_nil) (fun _ _ _ _ _ => (in_ (v_ 1))) (fun _ _ _ _ _ => (n_ 3 sc_rows_touch.nd)) (fun _ _ _ _ _ => gts_nil) (fun _ _ _ _ _ => (ge_call (ok_do_touch T) (hr.mono (by decide)) tk0 (ga_cons (v_ 2) (ga_cons (v_ 3) ga_nil)))))) ga_nil)))
  gs_nil)
theorem ok_rows_touch (T : Txt c w mg) : Cal c P w mg base 2 "rows_touch" f_rows_touch := by
  obtain ⟨f, fd, F, hm, hk, hb⟩ := T.d_rows_touch.ex
  exact ⟨f, fd, _, fn_rows_touch T F, hm, hk, hb⟩
theorem fn_joined_to (T : Txt c w mg) {f : Addr} {fd : FuncData} (F : Fun c.K "joined_to" "joined_to" s_joined_to f fd) : FnOk P w c.K mg base (L2.CX P w) 3 f fd ["texts", "p", "i"] (spG c f_joined_to) := by
  refine def_ok (b := b_joined_to) F sc_joined_to rfl rfl fun cdv A outer s H E hr tk hp => ?_
  have hu := u65 hr
  exact
  (gs_cons (setlc_ false 3 [("t", 7)] sc_joined_to.nd (gi_rng1 T.z_range (ga_cons (cb_ f_len T.z_len hu (ga_cons (v_ 0) ga_nil)) ga_nil)) (fun _ _ _ _ _ => (n_ 7 sc_joined_to.nd)) (fun _ _ _ _ _ => (gts_one (tcmp_ c_NotEq hu (v_ 7) (v_ 1)))) (fun _ _ _ _ _ => (v_ 7)))
  (gs_cons (setdc_ true 4 [("t", 7)] sc_joined_to.nd (in_ (v_ 3)) (fun _ _ _ _ _ => (n_ 7 sc_joined_to.nd)) (fun _ _ _ _ _ => (gts_one (tr_ (ge_call (ok_rows_touch T) (hr.mono (by decide)) tk0 (ga_cons (ge_imm (gf_lst (ga_cons (ix_ hu (ix_ hu (v_ 0) (v_ 1)) (v_ 2)) ga_nil))) (ga_cons (ix_ hu (v_ 0) (v_ 7)) ga_nil)))))) (fun _ _ _ _ _ => (v_ 7)) (fun _ _ _ _ _ => (ge_tup (ga_cons (v_ 7) ga_nil))))
  (gs_cons (set_ 5 sc_joined_to.nd (ge_mut (fb_ f_sorted2 T.z_sorted hu (ga_cons (v_ 4) ga_nil))))
  (gs_cons (set_ 6 sc_joined_to.nd ge_int)
  (gs_cons (gs_while FUEL hp (tcmp_ c_Lt hu (v_ 6) (cb_ f_len T.z_len hu (ga_cons (v_ 5) ga_nil)))
    (gs_cons (for_ hp (in_ (v_ 3)) (n_ 7 sc_joined_to.nd)
    (gs_cons (gs_if (gw_and (tcmp_ c_NotIn hu (v_ 7) (v_ 4)) (gw_and1 (tr_ (ge_call (ok_rows_touch T) (hr.mono (by decide)) tk (ga_cons (ix_ hu (v_ 0) (ix_ hu (v_ 5) (v_ 6))) (ga_cons (ix_ hu (v_ 0) (v_ 7)) ga_nil)))))).pt
    (gs_cons (gs_setI (u64 hu) (bin_ b_Add (ix_ hu (v_ 4) (ix_ hu (v_ 5) (v_ 6))) (ge_tup (ga_cons (v_ 7) ga_nil))) (v_ 4) (v_ 7))
    (gs_cons (gs_expr (ge_bm PySem.F.plainAttrs_list PySem.F.slot_list_append PySem.F.type_list_append mg_Append nx_Append (v_ 5) (ga_cons (v_ 7) ga_nil)))
    gs_nil))
    gs_nil)
  gs_nil))
  (gs_cons (gs_aug L2.ip_add 6 sc_joined_to.nd ge_int)
  gs_nil)))
  (gs_cons (gs_ret (v_ 4))
  gs_nil))))))
theorem ok_joined_to (T : Txt c w mg) : Cal c P w mg base 3 "joined_to" f_joined_to := by
  obtain ⟨f, fd, F, hm, hk, hb⟩ := T.d_joined_to.ex
  exact ⟨f, fd, _, fn_joined_to T F, hm, hk, hb⟩
theorem fn_ring_between (T : Txt c w mg) {f : Addr} {fd : FuncData} (F : Fun c.K "ring_between" "ring_between" s_ring_between f fd) : FnOk P w c.K mg base (L2.CX P w) 4 f fd ["texts", "p", "i", "k"] (spG c f_ring_between) := by
  refine def_ok (b := b_ring_between) F sc_ring_between rfl rfl fun cdv A outer s H E hr tk hp => ?_
  have hu := u65 hr
  exact
  (gs_cons (set_ 4 sc_ring_between.nd (ge_call (ok_joined_to T) (hr.mono (by decide)) tk (ga_cons (v_ 0) (ga_cons (v_ 1) (ga_cons (v_ 2) ga_nil)))))
  (gs_cons (setlc_ false 5 [("t", 6)] sc_ring_between.nd (in_ (ge_imm (fb_ f_sorted2 T.z_sorted hu (ga_cons (v_ 4) ga_nil)))) (fun _ _ _ _ _ => (n_ 6 sc_ring_between.nd)) (fun _ _ _ _ _ => (gts_one (tr_ (ge_call (ok_rows_touch T) (hr.mono (by decide)) tk0 (ga_cons (ge_imm (gf_lst (ga_cons (ix_ hu (ix_ hu (v_ 0) (v_ 1)) (v_ 3)) ga_nil))) (ga_cons (ix_ hu (v_ 0) (v_ 6)) ga_nil)))))) (fun _ _ _ _ _ => (ix_ hu (v_ 4) (v_ 6))))
  (gs_cons (gs_ret (ge_ife (tcmp_ c_Gt hu (cb_ f_len T.z_len hu (ga_cons (v_ 5) ga_nil)) ge_int) (ix_ hu (v_ 5) ge_int) ge_non))
  gs_nil)))
theorem ok_ring_between (T : Txt c w mg) : Cal c P w mg base 4 "ring_between" f_ring_between := by
  obtain ⟨f, fd, F, hm, hk, hb⟩ := T.d_ring_between.ex
  exact ⟨f, fd, _, fn_ring_between T F, hm, hk, hb⟩
theorem fn_finest_cut (T : Txt c w mg) {f : Addr} {fd : FuncData} (F : Fun c.K "finest_cut" "finest_cut" s_finest_cut f fd) : FnOk P w c.K mg base (L2.CX P w) 6 f fd ["texts"] (spG c f_finest_cut) := by
  refine def_ok (b := b_finest_cut) F sc_finest_cut rfl rfl fun cdv A outer s H E hr tk hp => ?_
  have hu := u65 hr
  exact
  (gs_cons (gs_expr (ge_call (ok_check_texts T) (hr.mono (by decide)) tk (ga_cons (v_ 0) ga_nil)))
  (gs_cons (set_ 1 sc_finest_cut.nd (ge_mut (gf_lst ga_nil)))
  (gs_cons (for_ hp (gi_enum T.z_enumerate (ga_cons (v_ 0) ga_nil)) (tp_ (ggs_cons (n_ 2 sc_finest_cut.nd) (ggs_cons (n_ 3 sc_finest_cut.nd) ggs_nil)))
    (gs_cons (set_ 4 sc_finest_cut.nd (ge_imm (lc2_ [("k", 5), ("i", 6)] [6] sc_finest_cut.nd (gi_rng1 T.z_range (ga_cons (cb_ f_len T.z_len hu (ga_cons (v_ 3) ga_nil)) ga_nil)) (fun _ _ _ _ _ => (n_ 5 sc_finest_cut.nd)) (fun _ _ _ _ _ => gts_nil) (fun _ _ _ _ _ => (gi_rng1 T.z_range (ga_cons (v_ 5) ga_nil))) (fun _ _ _ _ _ => (n_ 6 sc_finest_cut.nd)) (fun _ _ _ _ _ => (gts_one (tcmp_ c_IsNot hu (ge_call (ok_ring_between T) (hr.mono (by decide)) tk0 (ga_cons (v_ 0) (ga_cons (v_ 2) (ga_cons (v_ 6) (ga_cons (v_ 5) ga_nil))))) ge_non))) (fun _ _ _ _ _ => (ge_tup (ga_cons (v_ 6) (ga_cons (v_ 5) ga_nil)))))))
  (gs_cons (gs_expr (ge_bm PySem.F.plainAttrs_list PySem.F.slot_list_append PySem.F.type_list_append mg_Append nx_Append (v_ 1) (ga_cons (ct_ f_tuple T.z_tuple hu (ga_cons (ge_imm (lc_ [("place", 7)] sc_finest_cut.nd (gi_rng2 T.z_range (ga_cons ge_int (ga_cons (cb_ f_len T.z_len hu (ga_cons (v_ 3) ga_nil)) ga_nil))) (fun _ _ _ _ _ => (n_ 7 sc_finest_cut.nd)) (fun _ _ _ _ _ => (gts_one (gt_not (tr_ (cb_ f_any T.z_any hu (ga_cons (ge_imm (lc_ [("i", 6), ("k", 5)] sc_finest_cut.nd (in_ (v_ 4)) (fun _ _ _ _ _ => (tp_ (ggs_cons (n_ 6 sc_finest_cut.nd) (ggs_cons (n_ 5 sc_finest_cut.nd) ggs_nil)))) (fun _ _ _ _ _ => gts_nil) (fun _ _ _ _ _ => (chain_ c_Lt c_LtE hu (v_ 6) (v_ 7) (v_ 5))))) ga_nil)))))) (fun _ _ _ _ _ => (v_ 7)))) ga_nil)) ga_nil)))
  gs_nil)))
  (gs_cons (gs_ret (ct_ f_tuple T.z_tuple hu (ga_cons (v_ 1) ga_nil)))
  gs_nil))))
theorem ok_finest_cut (T : Txt c w mg) : Cal c P w mg base 6 "finest_cut" f_finest_cut := by
  obtain ⟨f, fd, F, hm, hk, hb⟩ := T.d_finest_cut.ex
  exact ⟨f, fd, _, fn_finest_cut T F, hm, hk, hb⟩
theorem fn__law_told (T : Txt c w mg) {f : Addr} {fd : FuncData} (F : Fun c.K "_law_told" "_law_told" s__law_told f fd) : FnOk P w c.K mg base (L2.CX P w) 7 f fd ["texts"] (spG c f__law_told) := by
  refine def_ok (b := b__law_told) F sc__law_told rfl rfl fun cdv A outer s H E hr tk hp => ?_
  have hu := u65 hr
  exact
  (gs_cons (gs_try T.h_Malformed tk rfl rfl (fun _ _ _ tk' hp' =>
    (gs_cons (gs_ret (ge_call (ok_finest_cut T) (hr.mono (by decide)) tk' (ga_cons (v_ 0) ga_nil)))
    gs_nil))
    (fun _ _ => (gs_cons (gs_ret ge_str)
    gs_nil)))
  gs_nil)
theorem ok__law_told (T : Txt c w mg) : Cal c P w mg base 7 "_law_told" f__law_told := by
  obtain ⟨f, fd, F, hm, hk, hb⟩ := T.d__law_told.ex
  exact ⟨f, fd, _, fn__law_told T F, hm, hk, hb⟩
theorem fn__law_cuts (T : Txt c w mg) {f : Addr} {fd : FuncData} (F : Fun c.K "_law_cuts" "_law_cuts" s__law_cuts f fd) : FnOk P w c.K mg base (L2.CX P w) 1 f fd ["texts"] (spG c f__law_cuts) := by
  refine def_ok (b := b__law_cuts) F sc__law_cuts rfl rfl fun cdv A outer s H E hr tk hp => ?_
  have hu := u65 hr
  exact
  (gs_cons (set_ 1 sc__law_cuts.nd (ge_imm (gf_lst (ga_cons (ge_tup ga_nil) ga_nil))))
  (gs_cons (for_ hp (in_ (v_ 0)) (n_ 2 sc__law_cuts.nd)
    (gs_cons (set_ 3 sc__law_cuts.nd (ge_imm (gf_lst (ga_cons (ge_tup ga_nil) ga_nil))))
  (gs_cons (for_ hp (gi_rng2 T.z_range (ga_cons ge_int (ga_cons (cb_ f_len T.z_len hu (ga_cons (v_ 2) ga_nil)) ga_nil))) (n_ 4 sc__law_cuts.nd)
    (gs_cons (set_ 3 sc__law_cuts.nd (bin_ b_Add (v_ 3) (ge_imm (lc_ [("row", 7)] sc__law_cuts.nd (in_ (v_ 3)) (fun _ _ _ _ _ => (n_ 7 sc__law_cuts.nd)) (fun _ _ _ _ _ => gts_nil) (fun _ _ _ _ _ => (bin_ b_Add (v_ 7) (ge_tup (ga_cons (v_ 4) ga_nil))))))))
  gs_nil))
  (gs_cons (set_ 5 sc__law_cuts.nd (ge_imm (gf_lst ga_nil)))
  (gs_cons (for_ hp (in_ (v_ 1)) (n_ 6 sc__law_cuts.nd)
    (gs_cons (set_ 5 sc__law_cuts.nd (bin_ b_Add (v_ 5) (ge_imm (lc_ [("row", 7)] sc__law_cuts.nd (in_ (v_ 3)) (fun _ _ _ _ _ => (n_ 7 sc__law_cuts.nd)) (fun _ _ _ _ _ => gts_nil) (fun _ _ _ _ _ => (bin_ b_Add (v_ 6) (ge_tup (ga_cons (v_ 7) ga_nil))))))))
  gs_nil))
  (gs_cons (set_ 1 sc__law_cuts.nd (v_ 5))
  gs_nil))))))
  (gs_cons (gs_ret (v_ 1))
  gs_nil)))
theorem ok__law_cuts (T : Txt c w mg) : Cal c P w mg base 1 "_law_cuts" f__law_cuts := by
  obtain ⟨f, fd, F, hm, hk, hb⟩ := T.d__law_cuts.ex
  exact ⟨f, fd, _, fn__law_cuts T F, hm, hk, hb⟩
theorem fn__law_odd_texts (T : Txt c w mg) {f : Addr} {fd : FuncData} (F : Fun c.K "_law_odd_texts" "_law_odd_texts" s__law_odd_texts f fd) : FnOk P w c.K mg base (L2.CX P w) 2 f fd ["draw", "texts"] (spG c f__law_odd_texts) := by
  refine def_ok (b := b__law_odd_texts) F sc__law_odd_texts rfl rfl fun cdv A outer s H E hr tk hp => ?_
  have hu := u65 hr
  exact
  (gs_cons (set_ 2 sc__law_odd_texts.nd (ge_imm (gf_lst (ga_cons ge_non (ga_cons (ge_tup ga_nil) (ga_cons ge_int (ga_cons (ge_imm (ft_ f_list T.z_list hu (ga_cons (v_ 1) ga_nil))) (ga_cons (ge_tup (ga_cons (ge_tup ga_nil) ga_nil)) (ga_cons (ge_tup (ga_cons (ge_tup (ga_cons (ge_tup (ga_cons ge_str (ga_cons ge_int ga_nil))) ga_nil)) ga_nil)) (ga_cons (ge_tup (ga_cons (ge_tup (ga_cons (ge_tup (ga_cons ge_str (ga_cons ge_int ga_nil))) ga_nil)) ga_nil)) (ga_cons (ge_tup (ga_cons (ge_tup (ga_cons (ge_tup (ga_cons ge_str (ga_cons ge_bl ga_nil))) ga_nil)) ga_nil)) (ga_cons (ge_tup (ga_cons (ge_tup (ga_cons (ge_tup (ga_cons ge_str (ga_cons ge_int (ga_cons ge_int ga_nil)))) ga_nil)) ga_nil)) (ga_cons (ge_tup (ga_cons (ge_imm (gf_lst (ga_cons (ge_tup (ga_cons ge_str (ga_cons ge_int ga_nil))) ga_nil))) ga_nil)) (ga_cons (ge_tup (ga_cons (ge_tup (ga_cons (ge_imm (gf_lst (ga_cons ge_str (ga_cons ge_int ga_nil)))) ga_nil)) ga_nil)) ga_nil))))))))))))))
  (gs_cons (gs_ret (ix_ hu (bin_ b_Add (v_ 2) (ge_imm (gf_lst (ga_cons (bin_ b_Add (v_ 1) (ge_tup (ga_cons ge_non ga_nil))) (ga_cons (bin_ b_Mult (ge_tup (ga_cons (ge_tup (ga_cons (ge_tup (ga_cons ge_str (ga_cons ge_int ga_nil))) ga_nil)) ga_nil)) ge_int) (ga_cons (ge_tup (ga_cons (bin_ b_Mult (ge_tup (ga_cons (ge_tup (ga_cons ge_str (ga_cons ge_int ga_nil))) ga_nil)) ge_int) ga_nil)) (ga_cons (ge_tup (ga_cons (ge_tup (ga_cons ge_str (ga_cons ge_int ga_nil))) ga_nil)) ga_nil))))))) (ge_call (ok__law_take T) (hr.mono (by decide)) tk (ga_cons (v_ 0) (ga_cons ge_int ga_nil)))))
  gs_nil))
theorem ok__law_odd_texts (T : Txt c w mg) : Cal c P w mg base 2 "_law_odd_texts" f__law_odd_texts := by
  obtain ⟨f, fd, F, hm, hk, hb⟩ := T.d__law_odd_texts.ex
  exact ⟨f, fd, _, fn__law_odd_texts T F, hm, hk, hb⟩
theorem fn_is_places (T : Txt c w mg) {f : Addr} {fd : FuncData} (F : Fun c.K "is_places" "is_places" s_is_places f fd) : FnOk P w c.K mg base (L2.CX P w) 2 f fd ["text", "value"] (spG c f_is_places) := by
  refine def_ok (b := b_is_places) F sc_is_places rfl rfl fun cdv A outer s H E hr tk hp => ?_
  have hu := u65 hr
  exact
  (gs_cons (gs_if (gw_or (gt_not (tr_ (cb_ f_isinstance T.z_isinstance hu (ga_cons (v_ 1) (ga_cons (ge_ty T.z_tuple) ga_nil))))) (gw_or1 (gt_not (tr_ (cb_ f_all T.z_all hu (ga_cons (ge_imm (lc_ [("k", 4)] sc_is_places.nd (in_ (v_ 1)) (fun _ _ _ _ _ => (n_ 4 sc_is_places.nd)) (fun _ _ _ _ _ => gts_nil) (fun _ _ _ _ _ => (and_ (ge_call (ok_is_whole T) (hr.mono (by decide)) tk0 (ga_cons (v_ 4) ga_nil)) (ge_one (chain_ c_LtE c_Lt hu ge_int (v_ 4) (cb_ f_len T.z_len hu (ga_cons (v_ 0) ga_nil)))))))) ga_nil)))))).pt
    (gs_cons (gs_ret ge_bl)
    gs_nil)
    gs_nil)
  (gs_cons (gs_ret (cb_ f_all T.z_all hu (ga_cons (ge_imm (lc_ [("one", 2), ("two", 3)] sc_is_places.nd (gi_zip T.z_zip (ga_cons (v_ 1) (ga_cons (sl_ (v_ 1) (go_some ge_int) go_none) ga_nil))) (fun _ _ _ _ _ => (tp_ (ggs_cons (n_ 2 sc_is_places.nd) (ggs_cons (n_ 3 sc_is_places.nd) ggs_nil)))) (fun _ _ _ _ _ => gts_nil) (fun _ _ _ _ _ => (cmp_ c_Lt hu (v_ 2) (v_ 3))))) ga_nil)))
  gs_nil))
theorem ok_is_places (T : Txt c w mg) : Cal c P w mg base 2 "is_places" f_is_places := by
  obtain ⟨f, fd, F, hm, hk, hb⟩ := T.d_is_places.ex
  exact ⟨f, fd, _, fn_is_places T F, hm, hk, hb⟩
theorem fn_is_cut (T : Txt c w mg) {f : Addr} {fd : FuncData} (F : Fun c.K "is_cut" "is_cut" s_is_cut f fd) : FnOk P w c.K mg base (L2.CX P w) 6 f fd ["texts", "value"] (spG c f_is_cut) := by
  refine def_ok (b := b_is_cut) F sc_is_cut rfl rfl fun cdv A outer s H E hr tk hp => ?_
  have hu := u65 hr
  exact
  (gs_cons (gs_expr (ge_call (ok_check_texts T) (hr.mono (by decide)) tk (ga_cons (v_ 0) ga_nil)))
  (gs_cons (gs_if (gw_or (gt_not (tr_ (cb_ f_isinstance T.z_isinstance hu (ga_cons (v_ 1) (ga_cons (ge_ty T.z_tuple) ga_nil))))) (gw_or1 (tcmp_ c_NotEq hu (cb_ f_len T.z_len hu (ga_cons (v_ 1) ga_nil)) (cb_ f_len T.z_len hu (ga_cons (v_ 0) ga_nil))))).pt
    (gs_cons (gs_ret ge_bl)
    gs_nil)
    gs_nil)
  (gs_cons (gs_ret (cb_ f_all T.z_all hu (ga_cons (ge_imm (lc_ [("text", 2), ("places", 3)] sc_is_cut.nd (gi_zip T.z_zip (ga_cons (v_ 0) (ga_cons (v_ 1) ga_nil))) (fun _ _ _ _ _ => (tp_ (ggs_cons (n_ 2 sc_is_cut.nd) (ggs_cons (n_ 3 sc_is_cut.nd) ggs_nil)))) (fun _ _ _ _ _ => gts_nil) (fun _ _ _ _ _ => (ge_call (ok_is_places T) (hr.mono (by decide)) tk0 (ga_cons (v_ 2) (ga_cons (v_ 3) ga_nil)))))) ga_nil)))
  gs_nil)))
theorem ok_is_cut (T : Txt c w mg) : Cal c P w mg base 6 "is_cut" f_is_cut := by
  obtain ⟨f, fd, F, hm, hk, hb⟩ := T.d_is_cut.ex
  exact ⟨f, fd, _, fn_is_cut T F, hm, hk, hb⟩
theorem fn_check_cut (T : Txt c w mg) {f : Addr} {fd : FuncData} (F : Fun c.K "check_cut" "check_cut" s_check_cut f fd) : FnOk P w c.K mg base (L2.CX P w) 7 f fd ["texts", "cut"] (spG c f_check_cut) := by
  refine def_ok (b := b_check_cut) F sc_check_cut rfl rfl fun cdv A outer s H E hr tk hp => ?_
  have hu := u65 hr
  exact
  (gs_cons (gs_if (gt_not (tr_ (ge_call (ok_is_cut T) (hr.mono (by decide)) tk (ga_cons (v_ 0) (ga_cons (v_ 1) ga_nil)))))
    (gs_cons (gs_raise T.x_Malformed tk)
    gs_nil)
    gs_nil)
  gs_nil)
theorem ok_check_cut (T : Txt c w mg) : Cal c P w mg base 7 "check_cut" f_check_cut := by
  obtain ⟨f, fd, F, hm, hk, hb⟩ := T.d_check_cut.ex
  exact ⟨f, fd, _, fn_check_cut T F, hm, hk, hb⟩
theorem fn_piece_of (T : Txt c w mg) {f : Addr} {fd : FuncData} (F : Fun c.K "piece_of" "piece_of" s_piece_of f fd) : FnOk P w c.K mg base (L2.CX P w) 1 f fd ["places", "i"] (spG c f_piece_of) := by
  refine def_ok (b := b_piece_of) F sc_piece_of rfl rfl fun cdv A outer s H E hr tk hp => ?_
  have hu := u65 hr
  exact
  (gs_cons (gs_ret (cb_ f_len T.z_len hu (ga_cons (ge_imm (lc_ [("k", 2)] sc_piece_of.nd (in_ (v_ 0)) (fun _ _ _ _ _ => (n_ 2 sc_piece_of.nd)) (fun _ _ _ _ _ => (gts_one (tcmp_ c_LtE hu (v_ 2) (v_ 1)))) (fun _ _ _ _ _ => (v_ 2)))) ga_nil)))
  gs_nil)
theorem ok_piece_of (T : Txt c w mg) : Cal c P w mg base 1 "piece_of" f_piece_of := by
  obtain ⟨f, fd, F, hm, hk, hb⟩ := T.d_piece_of.ex
  exact ⟨f, fd, _, fn_piece_of T F, hm, hk, hb⟩
theorem fn_first_ring (T : Txt c w mg) {f : Addr} {fd : FuncData} (F : Fun c.K "first_ring" "first_ring" s_first_ring f fd) : FnOk P w c.K mg base (L2.CX P w) 5 f fd ["texts", "cut"] (spG c f_first_ring) := by
  refine def_ok (b := b_first_ring) F sc_first_ring rfl rfl fun cdv A outer s H E hr tk hp => ?_
  have hu := u65 hr
  exact
  (gs_cons (for_ hp (gi_enum T.z_enumerate (ga_cons (v_ 0) ga_nil)) (tp_ (ggs_cons (n_ 2 sc_first_ring.nd) (ggs_cons (n_ 3 sc_first_ring.nd) ggs_nil)))
    (gs_cons (for_ hp (gi_rng1 T.z_range (ga_cons (cb_ f_len T.z_len hu (ga_cons (v_ 3) ga_nil)) ga_nil)) (n_ 4 sc_first_ring.nd)
    (gs_cons (for_ hp (gi_rng1 T.z_range (ga_cons (v_ 4) ga_nil)) (n_ 5 sc_first_ring.nd)
    (gs_cons (set_ 6 sc_first_ring.nd (ge_call (ok_ring_between T) (hr.mono (by decide)) tk (ga_cons (v_ 0) (ga_cons (v_ 2) (ga_cons (v_ 5) (ga_cons (v_ 4) ga_nil))))))
  (gs_cons (gs_if (gw_and (tcmp_ c_IsNot hu (v_ 6) ge_non) (gw_and1 (tcmp_ c_NotEq hu (ge_call (ok_piece_of T) (hr.mono (by decide)) tk (ga_cons (ix_ hu (v_ 1) (v_ 2)) (ga_cons (v_ 5) ga_nil))) (ge_call (ok_piece_of T) (hr.mono (by decide)) tk (ga_cons (ix_ hu (v_ 1) (v_ 2)) (ga_cons (v_ 4) ga_nil)))))).pt
    (gs_cons (gs_ret (ge_tup (ga_cons ge_str (ga_cons (v_ 2) (ga_cons (v_ 5) (ga_cons (v_ 6) (ga_cons (v_ 4) ga_nil)))))))
    gs_nil)
    gs_nil)
  gs_nil)))
  gs_nil))
  gs_nil))
  (gs_cons (gs_ret ge_non)
  gs_nil))
theorem ok_first_ring (T : Txt c w mg) : Cal c P w mg base 5 "first_ring" f_first_ring := by
  obtain ⟨f, fd, F, hm, hk, hb⟩ := T.d_first_ring.ex
  exact ⟨f, fd, _, fn_first_ring T F, hm, hk, hb⟩
theorem fn_cut_ring (T : Txt c w mg) {f : Addr} {fd : FuncData} (F : Fun c.K "cut_ring" "cut_ring" s_cut_ring f fd) : FnOk P w c.K mg base (L2.CX P w) 8 f fd ["texts", "cut"] (spG c f_cut_ring) := by
  refine def_ok (b := b_cut_ring) F sc_cut_ring rfl rfl fun cdv A outer s H E hr tk hp => ?_
  have hu := u65 hr
  exact
  (gs_cons (gs_expr (ge_call (ok_check_cut T) (hr.mono (by decide)) tk (ga_cons (v_ 0) (ga_cons (v_ 1) ga_nil))))
  (gs_cons (gs_ret (ge_call (ok_first_ring T) (hr.mono (by decide)) tk (ga_cons (v_ 0) (ga_cons (v_ 1) ga_nil))))
  gs_nil))
theorem ok_cut_ring (T : Txt c w mg) : Cal c P w mg base 8 "cut_ring" f_cut_ring := by
  obtain ⟨f, fd, F, hm, hk, hb⟩ := T.d_cut_ring.ex
  exact ⟨f, fd, _, fn_cut_ring T F, hm, hk, hb⟩
theorem fn_law (T : Txt c w mg) {f : Addr} {fd : FuncData} (F : Fun c.K "law" "law" s_law f fd) : FnOk P w c.K mg base (L2.CX P w) 9 f fd ["script"] (spG c f_law) := by
  refine def_ok (b := b_law) F sc_law rfl rfl fun cdv A outer s H E hr tk hp => ?_
  have hu := u65 hr
  exact
  (gs_cons (set_ 1 sc_law.nd (ge_callMu (ok__law_draw T) (hr.mono (by decide)) tk (ga_cons (v_ 0) ga_nil)))
  (gs_cons (for_ hp (gi_rng1 T.z_range (ga_cons ge_int ga_nil)) (n_ 2 sc_law.nd)
    (gs_cons (set_ 3 sc_law.nd (ge_call (ok__law_texts T) (hr.mono (by decide)) tk (ga_cons (v_ 1) (ga_cons ge_int ga_nil))))
  (gs_cons (set_ 4 sc_law.nd (ge_call (ok_finest_cut T) (hr.mono (by decide)) tk (ga_cons (v_ 3) ga_nil)))
  (gs_cons (gs_if (gw_or (gt_not (tr_ (ge_call (ok_is_cut T) (hr.mono (by decide)) tk (ga_cons (v_ 3) (ga_cons (v_ 4) ga_nil))))) (gw_or1 (tcmp_ c_IsNot hu (ge_call (ok_cut_ring T) (hr.mono (by decide)) tk (ga_cons (v_ 3) (ga_cons (v_ 4) ga_nil))) ge_non))).pt
    (gs_cons (gs_ret ge_bl)
    gs_nil)
    gs_nil)
  (gs_cons (for_ hp (in_ (sl_ (ge_call (ok__law_cuts T) (hr.mono (by decide)) tk (ga_cons (v_ 3) ga_nil)) go_none (go_some ge_int))) (n_ 5 sc_law.nd)
    (gs_cons (set_ 6 sc_law.nd (cb_ f_all T.z_all hu (ga_cons (ge_imm (lc_ [("t", 7)] sc_law.nd (gi_rng1 T.z_range (ga_cons (cb_ f_len T.z_len hu (ga_cons (v_ 3) ga_nil)) ga_nil)) (fun _ _ _ _ _ => (n_ 7 sc_law.nd)) (fun _ _ _ _ _ => gts_nil) (fun _ _ _ _ _ => (cb_ f_all T.z_all hu (ga_cons (ge_imm (lc_ [("k", 8)] sc_law.nd (in_ (ix_ hu (v_ 5) (v_ 7))) (fun _ _ _ _ _ => (n_ 8 sc_law.nd)) (fun _ _ _ _ _ => gts_nil) (fun _ _ _ _ _ => (cmp_ c_In hu (v_ 8) (ix_ hu (v_ 4) (v_ 7)))))) ga_nil))))) ga_nil)))
  (gs_cons (gs_if (tcmp_ c_NotEq hu (cmp_ c_Is hu (ge_call (ok_cut_ring T) (hr.mono (by decide)) tk (ga_cons (v_ 3) (ga_cons (v_ 5) ga_nil))) ge_non) (v_ 6))
    (gs_cons (gs_ret ge_bl)
    gs_nil)
    gs_nil)
  gs_nil)))
  gs_nil)))))
  (gs_cons (gs_ret (cmp_ c_Eq hu (ge_call (ok__law_told T) (hr.mono (by decide)) tk (ga_cons (ge_call (ok__law_odd_texts T) (hr.mono (by decide)) tk (ga_cons (v_ 1) (ga_cons (v_ 3) ga_nil))) ga_nil)) ge_str))
  gs_nil)))
theorem ok_law (T : Txt c w mg) : Cal c P w mg base 9 "law" f_law := by
  obtain ⟨f, fd, F, hm, hk, hb⟩ := T.d_law.ex
  exact ⟨f, fd, _, fn_law T F, hm, hk, hb⟩
end
end Y

namespace Y
open G PySem
structure Deed where
  w : Bool
  x : Nat
  deriving DecidableEq, Inhabited
def eD (d : Deed) : Val := .tup [.str (if d.w then "w" else "r"), .int d.x]
def touch (a b : Deed) : Bool := ((a.x : Int) == b.x) && (a.w || b.w)
theorem up_eD (d : Deed) : up (eD d) = 0 := rfl
theorem in_w (a b : Bool) (μ : Mu) : vIn2 (.str "w") (.tup [.str (if a then "w" else "r"), .str (if b then "w" else "r")]) μ = .ok (.bl (a || b)) μ := by
  cases a <;> cases b <;> kernel_rfl
theorem do_touch_ok (a b : Deed) (μ : Mu) : callD f_do_touch [eD a, eD b] μ = .ok (.bl (touch a b)) μ := by
  refine callD_pure (v := .bl (touch a b)) (μ' := []) rfl (defB_rt rfl ?_) rfl
  show b_do_touch [some (eD a), some (eD b)] [] = _
  unfold b_do_touch eD
  simp (config := {implicitDefEqProofs := false}) (disch := (first | (with_reducible assumption) | omega | (with_reducible solve_by_elim (maxDepth := 3)) | (with_reducible exact lt_range (by with_reducible assumption)) | (with_reducible exact lt_rangeF (by with_reducible assumption)) | (with_reducible exact lt_range1 (by with_reducible assumption)) | (with_reducible exact lt_range1F (by with_reducible assumption)) | (simp only [List.length_map, List.length_range, List.length_range', List.length_cons, List.length_nil, List.length_append, LIM]; omega) | (simp only [List.length_map]; with_reducible assumption) | (simp only [List.length_map]; with_reducible solve_by_elim (maxDepth := 3)) | (simp only [List.length_map]; refine len_filter ?_; simp only [List.length_map, List.length_range, List.length_range', LIM]; omega))) only [ev_op2, ev_op1, ev_imm, ev_mut, ev_call, ev_anil, ev_acons, ev_cst, ev_seq, ev_skip, ev_asg, ev_ret, ev_drop, ev_if, ev_not, ev_and, ev_or, ev_ife, ev_bool, ev_truth, ev_mvar, lookR_ok, bnd_ok, bnd_exc, flw_ok, flw_exc, seq_nx', seq_rt', seq_exc', asB_bl, asT_bl, List.getElem?_cons_zero, List.getElem?_cons_succ, List.set_cons_zero, List.set_cons_succ, if_true, if_false, Bool.false_eq_true, bindK_some, cmpS_vals, catS_vals, ev_mlc, ev_mlc2, bndS_ok, ev_mraw, ↓cmp_mapM, ↓cat2_mapM, cmpM_no, catM_no, dcpM_no, cmp_pure, cmp_if, cat2_pure, cat2_if, bindT_nm, bindT_tup, bindT_lst, bindTs_nil, bindO_some, bindTs_cons, wipe_nil, wipe_cons, ev_iseq, asSrc_lst, asSrc_rol, asSrc_tup, oneC, oneI, List.map_cons, List.map_nil, ev_mand, ev_mor, ev_mnot, ev_tife, ev_tyes, ev_chain, ev_op2F, ev_op1F, ev_meth, ev_tupT, ev_lstL, ev_for, ev_setI, ev_raise, ev_brk, ev_cnt, ev_retN, ev_try, ev_asgT, ev_aug, ev_irng1, ev_irng2, ev_ienum, ev_izip, ev_slice, ev_onone, ev_osome, mkT_ok, mkL_ok, and_bl, or_bl, and_blF, and_t, or_t, chB_bl, putF_some, tryK_rt, tryK_nx, noX_rt, noX_nx, bindF_some, augK_ok, rg1_nat, rg2_zero, rg2_one, en1_tup, en1_lst, enums_map, zips_map, zp1_tup, zp1_lst, asI_int, slice_tup, slice_lst, slice_lst', ix_tupM, ix_lstM, len_tup, len_lst, tup_lst, tup_tup, list_lst, list_tup, shortOk, add_tup, add_lst, add_int, sub_int, neg_int, int_int, int_bl, eq_int, ne_int, lt_int, le_int, gt_int, ge_intE, eq_bl, ne_bl, isN_ok, notN_ok, List.length_map, List.map_map, List.length_cons, List.length_nil, isi_tup_tuple, isi_tup_list, isi_tup_int, isi_tup_str, isi_tup_bool, isi_tup_dict, isi_lst_tuple, isi_lst_list, isi_lst_int, isi_lst_str, isi_lst_bool, isi_lst_dict, isi_int_tuple, isi_int_list, isi_int_int, isi_int_str, isi_int_bool, isi_int_dict, isi_str_tuple, isi_str_list, isi_str_int, isi_str_str, isi_str_bool, isi_str_dict, isi_bl_tuple, isi_bl_list, isi_bl_int, isi_bl_str, isi_bl_bool, isi_bl_dict, isi_non_tuple, isi_non_list, isi_non_int, isi_non_str, isi_non_bool, isi_non_dict, isn_tup, isn_lst, isn_int, isn_str, isn_bl, isn_non, ixt0, ixt1, ixt2, ixt3, ixt4, ixt5, ixl0, ixl1, ixl2, ixl3, ixl4, ixl5, in_tupN, in_lstN, notin_tupN, notin_lstN, forS_vals, Bool.not_true, Bool.not_false, Bool.false_or, Bool.true_or, Bool.or_false, Bool.or_true, Bool.and_true, Bool.true_and, Bool.and_false, Bool.false_and, List.nil_append, List.cons_append, vIn2_rl0, vIn2_rd0, vNotIn2_rl0, vNotIn2_rd0, vSub2_rl0, vSub2_rd0, vLen_rl0, vTuple_rl0, vList_rl0, vSum_rl0, vAny_rl0, vAll_rl0, vSorted2_rl0, vMin_rl0, vMax_rl0, vSorted_rl0, vSorted2_rd0, vEq_rl0, vNe_rl0, asT_rl0, vAppend_r0, vExtend_r0, onTy_r0, vIn2_rl1, vIn2_rd1, vNotIn2_rl1, vNotIn2_rd1, vSub2_rl1, vSub2_rd1, vLen_rl1, vTuple_rl1, vList_rl1, vSum_rl1, vAny_rl1, vAll_rl1, vSorted2_rl1, vMin_rl1, vMax_rl1, vSorted_rl1, vSorted2_rd1, vEq_rl1, vNe_rl1, asT_rl1, vAppend_r1, vExtend_r1, onTy_r1, vIn2_rl2, vIn2_rd2, vNotIn2_rl2, vNotIn2_rd2, vSub2_rl2, vSub2_rd2, vLen_rl2, vTuple_rl2, vList_rl2, vSum_rl2, vAny_rl2, vAll_rl2, vSorted2_rl2, vMin_rl2, vMax_rl2, vSorted_rl2, vSorted2_rd2, vEq_rl2, vNe_rl2, asT_rl2, vAppend_r2, vExtend_r2, onTy_r2, vIn2_rl3, vIn2_rd3, vNotIn2_rl3, vNotIn2_rd3, vSub2_rl3, vSub2_rd3, vLen_rl3, vTuple_rl3, vList_rl3, vSum_rl3, vAny_rl3, vAll_rl3, vSorted2_rl3, vMin_rl3, vMax_rl3, vSorted_rl3, vSorted2_rd3, vEq_rl3, vNe_rl3, asT_rl3, vAppend_r3, vExtend_r3, onTy_r3, vIn2_rl4, vIn2_rd4, vNotIn2_rl4, vNotIn2_rd4, vSub2_rl4, vSub2_rd4, vLen_rl4, vTuple_rl4, vList_rl4, vSum_rl4, vAny_rl4, vAll_rl4, vSorted2_rl4, vMin_rl4, vMax_rl4, vSorted_rl4, vSorted2_rd4, vEq_rl4, vNe_rl4, asT_rl4, vAppend_r4, vExtend_r4, onTy_r4, all_tt, all_mapA, any_mapA, cut1, oneD, in_dct, notin_dct, dcS_vals, ev_mdc, dcE_ok, ↓dcp_mapM, in_w]
  rfl
abbrev eR (r : List Deed) : Val := .tup (r.map eD)
def rt (as bs : List Deed) : Bool := as.any fun a => bs.any fun b => touch a b
theorem up_eR (r : List Deed) : up (eR r) = 0 := ups_map0 eD up_eD r
theorem any_flat (as bs : List Deed) (μ : Mu) : vAny [.lst (as.flatMap fun a => bs.map fun b => Val.bl (touch a b))] μ = .ok (.bl (rt as bs)) μ := by
  have e : (as.flatMap fun a => bs.map fun b => Val.bl (touch a b)) = (as.flatMap fun a => bs.map fun b => touch a b).map Val.bl := by
    rw [List.map_flatMap]; simp only [List.map_map]; rfl
  rw [e, any_bs, List.any_flatMap]
  simp only [List.any_map]
  rfl
theorem flat_len {α : Type} (as : List α) (f : α → List Val) (n m : Nat) (h1 : as.length ≤ n) (h2 : ∀ a, (f a).length ≤ m) (h3 : n * m ≤ LIM) : (as.flatMap f).length ≤ LIM := by
  have : (as.flatMap f).length ≤ as.length * m := by
    clear h1
    induction as with
    | nil => simp
    | cons x xs ih => rw [List.flatMap_cons, List.length_append, List.length_cons]; have := h2 x; rw [Nat.succ_mul]; omega
  have := Nat.mul_le_mul_right m h1
  omega
theorem rows_ok (one : Val) (as bs : List Deed) (h1 : one = .lst (as.map eD) ∨ one = eR as) (la : as.length ≤ 6) (lb : bs.length ≤ 6) (μ : Mu) : callD f_rows_touch [one, eR bs] μ = .ok (.bl (rt as bs)) μ := by
  refine callD_pure (v := .bl (rt as bs)) (μ' := []) ?_ (defB_rt rfl ?_) rfl
  · rcases h1 with rfl | rfl <;> exact Nat.max_eq_zero_iff.mpr ⟨ups_map0 eD up_eD as, Nat.max_eq_zero_iff.mpr ⟨up_eR bs, rfl⟩⟩
  have hl : (as.flatMap fun a => bs.map fun b => Val.bl (touch a b)).length ≤ LIM := flat_len _ _ 6 6 la (fun a => by rw [List.length_map]; exact lb) (by unfold LIM; omega)
  rcases h1 with rfl | rfl
  · show b_rows_touch [some (.lst (as.map eD)), some (eR bs), none, none] [] = _
    unfold b_rows_touch
    simp (config := {implicitDefEqProofs := false}) (disch := (first | (with_reducible assumption) | omega | (with_reducible solve_by_elim (maxDepth := 3)) | (with_reducible exact lt_range (by with_reducible assumption)) | (with_reducible exact lt_rangeF (by with_reducible assumption)) | (with_reducible exact lt_range1 (by with_reducible assumption)) | (with_reducible exact lt_range1F (by with_reducible assumption)) | (simp only [List.length_map, List.length_range, List.length_range', List.length_cons, List.length_nil, List.length_append, LIM]; omega) | (simp only [List.length_map]; with_reducible assumption) | (simp only [List.length_map]; with_reducible solve_by_elim (maxDepth := 3)) | (simp only [List.length_map]; refine len_filter ?_; simp only [List.length_map, List.length_range, List.length_range', LIM]; omega))) only [ev_op2, ev_op1, ev_imm, ev_mut, ev_call, ev_anil, ev_acons, ev_cst, ev_seq, ev_skip, ev_asg, ev_ret, ev_drop, ev_if, ev_not, ev_and, ev_or, ev_ife, ev_bool, ev_truth, ev_mvar, lookR_ok, bnd_ok, bnd_exc, flw_ok, flw_exc, seq_nx', seq_rt', seq_exc', asB_bl, asT_bl, List.getElem?_cons_zero, List.getElem?_cons_succ, List.set_cons_zero, List.set_cons_succ, if_true, if_false, Bool.false_eq_true, bindK_some, cmpS_vals, catS_vals, ev_mlc, ev_mlc2, bndS_ok, ev_mraw, ↓cmp_mapM, ↓cat2_mapM, cmpM_no, catM_no, dcpM_no, cmp_pure, cmp_if, cat2_pure, cat2_if, bindT_nm, bindT_tup, bindT_lst, bindTs_nil, bindO_some, bindTs_cons, wipe_nil, wipe_cons, ev_iseq, asSrc_lst, asSrc_rol, asSrc_tup, oneC, oneI, List.map_cons, List.map_nil, ev_mand, ev_mor, ev_mnot, ev_tife, ev_tyes, ev_chain, ev_op2F, ev_op1F, ev_meth, ev_tupT, ev_lstL, ev_for, ev_setI, ev_raise, ev_brk, ev_cnt, ev_retN, ev_try, ev_asgT, ev_aug, ev_irng1, ev_irng2, ev_ienum, ev_izip, ev_slice, ev_onone, ev_osome, mkT_ok, mkL_ok, and_bl, or_bl, and_blF, and_t, or_t, chB_bl, putF_some, tryK_rt, tryK_nx, noX_rt, noX_nx, bindF_some, augK_ok, rg1_nat, rg2_zero, rg2_one, en1_tup, en1_lst, enums_map, zips_map, zp1_tup, zp1_lst, asI_int, slice_tup, slice_lst, slice_lst', ix_tupM, ix_lstM, len_tup, len_lst, tup_lst, tup_tup, list_lst, list_tup, shortOk, add_tup, add_lst, add_int, sub_int, neg_int, int_int, int_bl, eq_int, ne_int, lt_int, le_int, gt_int, ge_intE, eq_bl, ne_bl, isN_ok, notN_ok, List.length_map, List.map_map, List.length_cons, List.length_nil, isi_tup_tuple, isi_tup_list, isi_tup_int, isi_tup_str, isi_tup_bool, isi_tup_dict, isi_lst_tuple, isi_lst_list, isi_lst_int, isi_lst_str, isi_lst_bool, isi_lst_dict, isi_int_tuple, isi_int_list, isi_int_int, isi_int_str, isi_int_bool, isi_int_dict, isi_str_tuple, isi_str_list, isi_str_int, isi_str_str, isi_str_bool, isi_str_dict, isi_bl_tuple, isi_bl_list, isi_bl_int, isi_bl_str, isi_bl_bool, isi_bl_dict, isi_non_tuple, isi_non_list, isi_non_int, isi_non_str, isi_non_bool, isi_non_dict, isn_tup, isn_lst, isn_int, isn_str, isn_bl, isn_non, ixt0, ixt1, ixt2, ixt3, ixt4, ixt5, ixl0, ixl1, ixl2, ixl3, ixl4, ixl5, in_tupN, in_lstN, notin_tupN, notin_lstN, forS_vals, Bool.not_true, Bool.not_false, Bool.false_or, Bool.true_or, Bool.or_false, Bool.or_true, Bool.and_true, Bool.true_and, Bool.and_false, Bool.false_and, List.nil_append, List.cons_append, vIn2_rl0, vIn2_rd0, vNotIn2_rl0, vNotIn2_rd0, vSub2_rl0, vSub2_rd0, vLen_rl0, vTuple_rl0, vList_rl0, vSum_rl0, vAny_rl0, vAll_rl0, vSorted2_rl0, vMin_rl0, vMax_rl0, vSorted_rl0, vSorted2_rd0, vEq_rl0, vNe_rl0, asT_rl0, vAppend_r0, vExtend_r0, onTy_r0, vIn2_rl1, vIn2_rd1, vNotIn2_rl1, vNotIn2_rd1, vSub2_rl1, vSub2_rd1, vLen_rl1, vTuple_rl1, vList_rl1, vSum_rl1, vAny_rl1, vAll_rl1, vSorted2_rl1, vMin_rl1, vMax_rl1, vSorted_rl1, vSorted2_rd1, vEq_rl1, vNe_rl1, asT_rl1, vAppend_r1, vExtend_r1, onTy_r1, vIn2_rl2, vIn2_rd2, vNotIn2_rl2, vNotIn2_rd2, vSub2_rl2, vSub2_rd2, vLen_rl2, vTuple_rl2, vList_rl2, vSum_rl2, vAny_rl2, vAll_rl2, vSorted2_rl2, vMin_rl2, vMax_rl2, vSorted_rl2, vSorted2_rd2, vEq_rl2, vNe_rl2, asT_rl2, vAppend_r2, vExtend_r2, onTy_r2, vIn2_rl3, vIn2_rd3, vNotIn2_rl3, vNotIn2_rd3, vSub2_rl3, vSub2_rd3, vLen_rl3, vTuple_rl3, vList_rl3, vSum_rl3, vAny_rl3, vAll_rl3, vSorted2_rl3, vMin_rl3, vMax_rl3, vSorted_rl3, vSorted2_rd3, vEq_rl3, vNe_rl3, asT_rl3, vAppend_r3, vExtend_r3, onTy_r3, vIn2_rl4, vIn2_rd4, vNotIn2_rl4, vNotIn2_rd4, vSub2_rl4, vSub2_rd4, vLen_rl4, vTuple_rl4, vList_rl4, vSum_rl4, vAny_rl4, vAll_rl4, vSorted2_rl4, vMin_rl4, vMax_rl4, vSorted_rl4, vSorted2_rd4, vEq_rl4, vNe_rl4, asT_rl4, vAppend_r4, vExtend_r4, onTy_r4, all_tt, all_mapA, any_mapA, cut1, oneD, in_dct, notin_dct, dcS_vals, ev_mdc, dcE_ok, ↓dcp_mapM, do_touch_ok, any_flat]
  · show b_rows_touch [some (eR as), some (eR bs), none, none] [] = _
    unfold b_rows_touch
    simp (config := {implicitDefEqProofs := false}) (disch := (first | (with_reducible assumption) | omega | (with_reducible solve_by_elim (maxDepth := 3)) | (with_reducible exact lt_range (by with_reducible assumption)) | (with_reducible exact lt_rangeF (by with_reducible assumption)) | (with_reducible exact lt_range1 (by with_reducible assumption)) | (with_reducible exact lt_range1F (by with_reducible assumption)) | (simp only [List.length_map, List.length_range, List.length_range', List.length_cons, List.length_nil, List.length_append, LIM]; omega) | (simp only [List.length_map]; with_reducible assumption) | (simp only [List.length_map]; with_reducible solve_by_elim (maxDepth := 3)) | (simp only [List.length_map]; refine len_filter ?_; simp only [List.length_map, List.length_range, List.length_range', LIM]; omega))) only [ev_op2, ev_op1, ev_imm, ev_mut, ev_call, ev_anil, ev_acons, ev_cst, ev_seq, ev_skip, ev_asg, ev_ret, ev_drop, ev_if, ev_not, ev_and, ev_or, ev_ife, ev_bool, ev_truth, ev_mvar, lookR_ok, bnd_ok, bnd_exc, flw_ok, flw_exc, seq_nx', seq_rt', seq_exc', asB_bl, asT_bl, List.getElem?_cons_zero, List.getElem?_cons_succ, List.set_cons_zero, List.set_cons_succ, if_true, if_false, Bool.false_eq_true, bindK_some, cmpS_vals, catS_vals, ev_mlc, ev_mlc2, bndS_ok, ev_mraw, ↓cmp_mapM, ↓cat2_mapM, cmpM_no, catM_no, dcpM_no, cmp_pure, cmp_if, cat2_pure, cat2_if, bindT_nm, bindT_tup, bindT_lst, bindTs_nil, bindO_some, bindTs_cons, wipe_nil, wipe_cons, ev_iseq, asSrc_lst, asSrc_rol, asSrc_tup, oneC, oneI, List.map_cons, List.map_nil, ev_mand, ev_mor, ev_mnot, ev_tife, ev_tyes, ev_chain, ev_op2F, ev_op1F, ev_meth, ev_tupT, ev_lstL, ev_for, ev_setI, ev_raise, ev_brk, ev_cnt, ev_retN, ev_try, ev_asgT, ev_aug, ev_irng1, ev_irng2, ev_ienum, ev_izip, ev_slice, ev_onone, ev_osome, mkT_ok, mkL_ok, and_bl, or_bl, and_blF, and_t, or_t, chB_bl, putF_some, tryK_rt, tryK_nx, noX_rt, noX_nx, bindF_some, augK_ok, rg1_nat, rg2_zero, rg2_one, en1_tup, en1_lst, enums_map, zips_map, zp1_tup, zp1_lst, asI_int, slice_tup, slice_lst, slice_lst', ix_tupM, ix_lstM, len_tup, len_lst, tup_lst, tup_tup, list_lst, list_tup, shortOk, add_tup, add_lst, add_int, sub_int, neg_int, int_int, int_bl, eq_int, ne_int, lt_int, le_int, gt_int, ge_intE, eq_bl, ne_bl, isN_ok, notN_ok, List.length_map, List.map_map, List.length_cons, List.length_nil, isi_tup_tuple, isi_tup_list, isi_tup_int, isi_tup_str, isi_tup_bool, isi_tup_dict, isi_lst_tuple, isi_lst_list, isi_lst_int, isi_lst_str, isi_lst_bool, isi_lst_dict, isi_int_tuple, isi_int_list, isi_int_int, isi_int_str, isi_int_bool, isi_int_dict, isi_str_tuple, isi_str_list, isi_str_int, isi_str_str, isi_str_bool, isi_str_dict, isi_bl_tuple, isi_bl_list, isi_bl_int, isi_bl_str, isi_bl_bool, isi_bl_dict, isi_non_tuple, isi_non_list, isi_non_int, isi_non_str, isi_non_bool, isi_non_dict, isn_tup, isn_lst, isn_int, isn_str, isn_bl, isn_non, ixt0, ixt1, ixt2, ixt3, ixt4, ixt5, ixl0, ixl1, ixl2, ixl3, ixl4, ixl5, in_tupN, in_lstN, notin_tupN, notin_lstN, forS_vals, Bool.not_true, Bool.not_false, Bool.false_or, Bool.true_or, Bool.or_false, Bool.or_true, Bool.and_true, Bool.true_and, Bool.and_false, Bool.false_and, List.nil_append, List.cons_append, vIn2_rl0, vIn2_rd0, vNotIn2_rl0, vNotIn2_rd0, vSub2_rl0, vSub2_rd0, vLen_rl0, vTuple_rl0, vList_rl0, vSum_rl0, vAny_rl0, vAll_rl0, vSorted2_rl0, vMin_rl0, vMax_rl0, vSorted_rl0, vSorted2_rd0, vEq_rl0, vNe_rl0, asT_rl0, vAppend_r0, vExtend_r0, onTy_r0, vIn2_rl1, vIn2_rd1, vNotIn2_rl1, vNotIn2_rd1, vSub2_rl1, vSub2_rd1, vLen_rl1, vTuple_rl1, vList_rl1, vSum_rl1, vAny_rl1, vAll_rl1, vSorted2_rl1, vMin_rl1, vMax_rl1, vSorted_rl1, vSorted2_rd1, vEq_rl1, vNe_rl1, asT_rl1, vAppend_r1, vExtend_r1, onTy_r1, vIn2_rl2, vIn2_rd2, vNotIn2_rl2, vNotIn2_rd2, vSub2_rl2, vSub2_rd2, vLen_rl2, vTuple_rl2, vList_rl2, vSum_rl2, vAny_rl2, vAll_rl2, vSorted2_rl2, vMin_rl2, vMax_rl2, vSorted_rl2, vSorted2_rd2, vEq_rl2, vNe_rl2, asT_rl2, vAppend_r2, vExtend_r2, onTy_r2, vIn2_rl3, vIn2_rd3, vNotIn2_rl3, vNotIn2_rd3, vSub2_rl3, vSub2_rd3, vLen_rl3, vTuple_rl3, vList_rl3, vSum_rl3, vAny_rl3, vAll_rl3, vSorted2_rl3, vMin_rl3, vMax_rl3, vSorted_rl3, vSorted2_rd3, vEq_rl3, vNe_rl3, asT_rl3, vAppend_r3, vExtend_r3, onTy_r3, vIn2_rl4, vIn2_rd4, vNotIn2_rl4, vNotIn2_rd4, vSub2_rl4, vSub2_rd4, vLen_rl4, vTuple_rl4, vList_rl4, vSum_rl4, vAny_rl4, vAll_rl4, vSorted2_rl4, vMin_rl4, vMax_rl4, vSorted_rl4, vSorted2_rd4, vEq_rl4, vNe_rl4, asT_rl4, vAppend_r4, vExtend_r4, onTy_r4, all_tt, all_mapA, any_mapA, cut1, oneD, in_dct, notin_dct, dcS_vals, ev_mdc, dcE_ok, ↓dcp_mapM, do_touch_ok, any_flat]
end Y

namespace Y
open G PySem
abbrev eX (ts : List (List Deed)) : Val := .tup (ts.map eR)
structure Small (ts : List (List Deed)) : Prop where
  n : ts.length ≤ 4
  r : ∀ t ∈ ts, t.length ≤ 5
theorem Small.get {ts : List (List Deed)} (h : Small ts) {p : Nat} (hp : p < ts.length) : (ts[p]!).length ≤ 5 := by
  refine h.r _ ?_
  rw [List.getElem!_eq_getElem?_getD, List.getElem?_eq_getElem hp]
  exact List.getElem_mem hp
/-- the programs but one -/
def oth (n p : Nat) : List Nat := (List.range n).filter fun (t : Nat) => !((t : Int) == (p : Int))
theorem mem_oth {n p t : Nat} (h : t ∈ oth n p) : t < n := by
  unfold oth at h
  exact List.mem_range.mp (List.mem_filter.mp h).1
theorem oth_len (n p : Nat) : (oth n p).length ≤ n := by
  unfold oth
  have := List.length_filter_le (fun (t : Nat) => !((t : Int) == (p : Int))) (List.range n)
  rwa [List.length_range] at this
theorem oth_nd (n p : Nat) : (oth n p).Nodup := List.nodup_range.filter _
theorem rt_ix {ts : List (List Deed)} (h : Small ts) {a b : Nat} (ha : a < ts.length) (hb : b < ts.length) (μ : Mu) : callD f_rows_touch [eR (ts[a]!), eR (ts[b]!)] μ = .ok (.bl (rt (ts[a]!) (ts[b]!))) μ :=
  rows_ok _ _ _ (.inr rfl) (by have := h.get ha; omega) (by have := h.get hb; omega) μ
theorem rt_one {ts : List (List Deed)} (h : Small ts) (d : Deed) {b : Nat} (hb : b < ts.length) (μ : Mu) : callD f_rows_touch [.lst [eD d], eR (ts[b]!)] μ = .ok (.bl (rt [d] (ts[b]!))) μ :=
  rows_ok _ [d] _ (.inl rfl) (by simp) (by have := h.get hb; omega) μ
/-- what is known of the walk's dict and row -/
structure JI (n p : Nat) (is : List Nat) (vs : List Val) (row : List Nat) : Prop where
  l : is.length = vs.length
  nd : row.Nodup
  o : ∀ t ∈ row, t ∈ oth n p
  k : ∀ t, t ∈ is ↔ t ∈ row
  ki : is.Nodup
  v : ∀ v ∈ vs, ∃ l : List Nat, v = .tup (l.map eN) ∧ l.length ≤ is.length
def eK (is : List Nat) : List DKey := IK (is.map fun (t : Nat) => (t : Int))
theorem nodup_len : ∀ (a b : List Nat), a.Nodup → (∀ x ∈ a, x ∈ b) → a.length ≤ b.length
  | [], b, _, _ => Nat.zero_le _
  | x :: a, b, h, hs => by
    rw [List.nodup_cons] at h
    have hx := hs x List.mem_cons_self
    have ih := nodup_len a (b.erase x) h.2 fun y hy => by
      have : y ≠ x := fun z => h.1 (z ▸ hy)
      exact (List.mem_erase_of_ne this).mpr (hs y (List.mem_cons_of_mem _ hy))
    have e := List.length_erase_of_mem hx
    have : 0 < b.length := List.length_pos_of_mem hx
    rw [List.length_cons]
    omega
theorem JI.len {n p : Nat} {is : List Nat} {vs : List Val} {row : List Nat} (h : JI n p is vs row) : row.length ≤ n := Nat.le_trans (nodup_len _ _ h.nd h.o) (oth_len n p)
theorem JI.leni {n p : Nat} {is : List Nat} {vs : List Val} {row : List Nat} (h : JI n p is vs row) : is.length ≤ n := Nat.le_trans (nodup_len _ _ h.ki fun x hx => h.o x ((h.k x).mp hx)) (oth_len n p)
theorem mem_cast {t : Nat} {is : List Nat} : ((t : Int) ∈ is.map fun (t : Nat) => (t : Int)) ↔ t ∈ is := by
  rw [List.mem_map]
  constructor
  · rintro ⟨a, h, e⟩
    have : a = t := by omega
    exact this ▸ h
  · intro h; exact ⟨t, h, rfl⟩
theorem sub_eK (is : List Nat) (vs : List Val) (t : Nat) (h : is.length = vs.length) (ht : t ∈ is) : ∃ v ∈ vs, ∀ μ, vSub2 (.dct (eK is) vs) (.int (t : Int)) μ = .ok v μ :=
  get_dct _ vs _ (by rw [List.length_map]; exact h) (mem_cast.mpr ht)
theorem notin_eK (is : List Nat) (vs : List Val) (t : Nat) (μ : Mu) (h : is.length = vs.length) : vNotIn2 (.int (t : Int)) (.dct (eK is) vs) μ = .ok (.bl (!decide (t ∈ is))) μ := by
  unfold eK
  rw [notin_dct _ _ _ _ (by rw [List.length_map]; exact h)]
  congr 3
  exact decide_eq_decide.mpr mem_cast
/-- one turn of the inner walk -/
theorem join_turn {ts : List (List Deed)} (hs : Small ts) {p a t : Nat} {is : List Nat} {vs : List Val} {row : List Nat} (J : JI ts.length p is vs row) (ht : t ∈ oth ts.length p) (hp : a < row.length) (X Y Z : Option Val) :
    ∃ is' vs' row', JI ts.length p is' vs' row' ∧ a < row'.length ∧ l1_joined_to [some (eX ts), X, Y, Z, some (.ref 0), some (.ref 1), some (.int (a : Nat)), some (eN t)] [.dct (eK is) vs, .lst (row.map eN)] = .nx [some (eX ts), X, Y, Z, some (.ref 0), some (.ref 1), some (.int (a : Nat)), some (eN t)] [.dct (eK is') vs', .lst (row'.map eN)] := by
  have htl := mem_oth ht
  have hrm : row[a]! ∈ row := by
    rw [List.getElem!_eq_getElem?_getD, List.getElem?_eq_getElem hp]; exact List.getElem_mem hp
  have hr := mem_oth (J.o _ hrm)
  have hc := notin_eK is vs t [.dct (eK is) vs, .lst (row.map eN)] J.l
  by_cases h1 : t ∈ is
  · refine ⟨is, vs, row, J, hp, ?_⟩
    rw [decide_eq_true h1] at hc
    simp (config := {implicitDefEqProofs := false}) (disch := (first | (with_reducible assumption) | omega | (with_reducible solve_by_elim (maxDepth := 3)) | (with_reducible exact lt_range (by with_reducible assumption)) | (with_reducible exact lt_rangeF (by with_reducible assumption)) | (with_reducible exact lt_range1 (by with_reducible assumption)) | (with_reducible exact lt_range1F (by with_reducible assumption)) | (simp only [List.length_map, List.length_range, List.length_range', List.length_cons, List.length_nil, List.length_append, LIM]; omega) | (simp only [List.length_map]; with_reducible assumption) | (simp only [List.length_map]; with_reducible solve_by_elim (maxDepth := 3)) | (simp only [List.length_map]; refine len_filter ?_; simp only [List.length_map, List.length_range, List.length_range', LIM]; omega))) only [ev_op2, ev_op1, ev_imm, ev_mut, ev_call, ev_anil, ev_acons, ev_cst, ev_seq, ev_skip, ev_asg, ev_ret, ev_drop, ev_if, ev_not, ev_and, ev_or, ev_ife, ev_bool, ev_truth, ev_mvar, lookR_ok, bnd_ok, bnd_exc, flw_ok, flw_exc, seq_nx', seq_rt', seq_exc', asB_bl, asT_bl, List.getElem?_cons_zero, List.getElem?_cons_succ, List.set_cons_zero, List.set_cons_succ, if_true, if_false, Bool.false_eq_true, bindK_some, cmpS_vals, catS_vals, ev_mlc, ev_mlc2, bndS_ok, ev_mraw, ↓cmp_mapM, ↓cat2_mapM, cmpM_no, catM_no, dcpM_no, cmp_pure, cmp_if, cat2_pure, cat2_if, bindT_nm, bindT_tup, bindT_lst, bindTs_nil, bindO_some, bindTs_cons, wipe_nil, wipe_cons, ev_iseq, asSrc_lst, asSrc_rol, asSrc_tup, oneC, oneI, List.map_cons, List.map_nil, ev_mand, ev_mor, ev_mnot, ev_tife, ev_tyes, ev_chain, ev_op2F, ev_op1F, ev_meth, ev_tupT, ev_lstL, ev_for, ev_setI, ev_raise, ev_brk, ev_cnt, ev_retN, ev_try, ev_asgT, ev_aug, ev_irng1, ev_irng2, ev_ienum, ev_izip, ev_slice, ev_onone, ev_osome, mkT_ok, mkL_ok, and_bl, or_bl, and_blF, and_t, or_t, chB_bl, putF_some, tryK_rt, tryK_nx, noX_rt, noX_nx, bindF_some, augK_ok, rg1_nat, rg2_zero, rg2_one, en1_tup, en1_lst, enums_map, zips_map, zp1_tup, zp1_lst, asI_int, slice_tup, slice_lst, slice_lst', ix_tupM, ix_lstM, len_tup, len_lst, tup_lst, tup_tup, list_lst, list_tup, shortOk, add_tup, add_lst, add_int, sub_int, neg_int, int_int, int_bl, eq_int, ne_int, lt_int, le_int, gt_int, ge_intE, eq_bl, ne_bl, isN_ok, notN_ok, List.length_map, List.map_map, List.length_cons, List.length_nil, isi_tup_tuple, isi_tup_list, isi_tup_int, isi_tup_str, isi_tup_bool, isi_tup_dict, isi_lst_tuple, isi_lst_list, isi_lst_int, isi_lst_str, isi_lst_bool, isi_lst_dict, isi_int_tuple, isi_int_list, isi_int_int, isi_int_str, isi_int_bool, isi_int_dict, isi_str_tuple, isi_str_list, isi_str_int, isi_str_str, isi_str_bool, isi_str_dict, isi_bl_tuple, isi_bl_list, isi_bl_int, isi_bl_str, isi_bl_bool, isi_bl_dict, isi_non_tuple, isi_non_list, isi_non_int, isi_non_str, isi_non_bool, isi_non_dict, isn_tup, isn_lst, isn_int, isn_str, isn_bl, isn_non, ixt0, ixt1, ixt2, ixt3, ixt4, ixt5, ixl0, ixl1, ixl2, ixl3, ixl4, ixl5, in_tupN, in_lstN, notin_tupN, notin_lstN, forS_vals, Bool.not_true, Bool.not_false, Bool.false_or, Bool.true_or, Bool.or_false, Bool.or_true, Bool.and_true, Bool.true_and, Bool.and_false, Bool.false_and, List.nil_append, List.cons_append, vIn2_rl0, vIn2_rd0, vNotIn2_rl0, vNotIn2_rd0, vSub2_rl0, vSub2_rd0, vLen_rl0, vTuple_rl0, vList_rl0, vSum_rl0, vAny_rl0, vAll_rl0, vSorted2_rl0, vMin_rl0, vMax_rl0, vSorted_rl0, vSorted2_rd0, vEq_rl0, vNe_rl0, asT_rl0, vAppend_r0, vExtend_r0, onTy_r0, vIn2_rl1, vIn2_rd1, vNotIn2_rl1, vNotIn2_rd1, vSub2_rl1, vSub2_rd1, vLen_rl1, vTuple_rl1, vList_rl1, vSum_rl1, vAny_rl1, vAll_rl1, vSorted2_rl1, vMin_rl1, vMax_rl1, vSorted_rl1, vSorted2_rd1, vEq_rl1, vNe_rl1, asT_rl1, vAppend_r1, vExtend_r1, onTy_r1, vIn2_rl2, vIn2_rd2, vNotIn2_rl2, vNotIn2_rd2, vSub2_rl2, vSub2_rd2, vLen_rl2, vTuple_rl2, vList_rl2, vSum_rl2, vAny_rl2, vAll_rl2, vSorted2_rl2, vMin_rl2, vMax_rl2, vSorted_rl2, vSorted2_rd2, vEq_rl2, vNe_rl2, asT_rl2, vAppend_r2, vExtend_r2, onTy_r2, vIn2_rl3, vIn2_rd3, vNotIn2_rl3, vNotIn2_rd3, vSub2_rl3, vSub2_rd3, vLen_rl3, vTuple_rl3, vList_rl3, vSum_rl3, vAny_rl3, vAll_rl3, vSorted2_rl3, vMin_rl3, vMax_rl3, vSorted_rl3, vSorted2_rd3, vEq_rl3, vNe_rl3, asT_rl3, vAppend_r3, vExtend_r3, onTy_r3, vIn2_rl4, vIn2_rd4, vNotIn2_rl4, vNotIn2_rd4, vSub2_rl4, vSub2_rd4, vLen_rl4, vTuple_rl4, vList_rl4, vSum_rl4, vAny_rl4, vAll_rl4, vSorted2_rl4, vMin_rl4, vMax_rl4, vSorted_rl4, vSorted2_rd4, vEq_rl4, vNe_rl4, asT_rl4, vAppend_r4, vExtend_r4, onTy_r4, all_tt, all_mapA, any_mapA, cut1, oneD, in_dct, notin_dct, dcS_vals, ev_mdc, dcE_ok, ↓dcp_mapM, hc, Bool.not_true]
  · rw [decide_eq_false h1] at hc
    have hrt := rt_ix hs hr htl [.dct (eK is) vs, .lst (row.map eN)]
    cases h2 : rt (ts[row[a]!]!) (ts[t]!) with
    | false =>
      refine ⟨is, vs, row, J, hp, ?_⟩
      rw [h2] at hrt
      simp (config := {implicitDefEqProofs := false}) (disch := (first | (with_reducible assumption) | omega | (with_reducible solve_by_elim (maxDepth := 3)) | (with_reducible exact lt_range (by with_reducible assumption)) | (with_reducible exact lt_rangeF (by with_reducible assumption)) | (with_reducible exact lt_range1 (by with_reducible assumption)) | (with_reducible exact lt_range1F (by with_reducible assumption)) | (simp only [List.length_map, List.length_range, List.length_range', List.length_cons, List.length_nil, List.length_append, LIM]; omega) | (simp only [List.length_map]; with_reducible assumption) | (simp only [List.length_map]; with_reducible solve_by_elim (maxDepth := 3)) | (simp only [List.length_map]; refine len_filter ?_; simp only [List.length_map, List.length_range, List.length_range', LIM]; omega))) only [ev_op2, ev_op1, ev_imm, ev_mut, ev_call, ev_anil, ev_acons, ev_cst, ev_seq, ev_skip, ev_asg, ev_ret, ev_drop, ev_if, ev_not, ev_and, ev_or, ev_ife, ev_bool, ev_truth, ev_mvar, lookR_ok, bnd_ok, bnd_exc, flw_ok, flw_exc, seq_nx', seq_rt', seq_exc', asB_bl, asT_bl, List.getElem?_cons_zero, List.getElem?_cons_succ, List.set_cons_zero, List.set_cons_succ, if_true, if_false, Bool.false_eq_true, bindK_some, cmpS_vals, catS_vals, ev_mlc, ev_mlc2, bndS_ok, ev_mraw, ↓cmp_mapM, ↓cat2_mapM, cmpM_no, catM_no, dcpM_no, cmp_pure, cmp_if, cat2_pure, cat2_if, bindT_nm, bindT_tup, bindT_lst, bindTs_nil, bindO_some, bindTs_cons, wipe_nil, wipe_cons, ev_iseq, asSrc_lst, asSrc_rol, asSrc_tup, oneC, oneI, List.map_cons, List.map_nil, ev_mand, ev_mor, ev_mnot, ev_tife, ev_tyes, ev_chain, ev_op2F, ev_op1F, ev_meth, ev_tupT, ev_lstL, ev_for, ev_setI, ev_raise, ev_brk, ev_cnt, ev_retN, ev_try, ev_asgT, ev_aug, ev_irng1, ev_irng2, ev_ienum, ev_izip, ev_slice, ev_onone, ev_osome, mkT_ok, mkL_ok, and_bl, or_bl, and_blF, and_t, or_t, chB_bl, putF_some, tryK_rt, tryK_nx, noX_rt, noX_nx, bindF_some, augK_ok, rg1_nat, rg2_zero, rg2_one, en1_tup, en1_lst, enums_map, zips_map, zp1_tup, zp1_lst, asI_int, slice_tup, slice_lst, slice_lst', ix_tupM, ix_lstM, len_tup, len_lst, tup_lst, tup_tup, list_lst, list_tup, shortOk, add_tup, add_lst, add_int, sub_int, neg_int, int_int, int_bl, eq_int, ne_int, lt_int, le_int, gt_int, ge_intE, eq_bl, ne_bl, isN_ok, notN_ok, List.length_map, List.map_map, List.length_cons, List.length_nil, isi_tup_tuple, isi_tup_list, isi_tup_int, isi_tup_str, isi_tup_bool, isi_tup_dict, isi_lst_tuple, isi_lst_list, isi_lst_int, isi_lst_str, isi_lst_bool, isi_lst_dict, isi_int_tuple, isi_int_list, isi_int_int, isi_int_str, isi_int_bool, isi_int_dict, isi_str_tuple, isi_str_list, isi_str_int, isi_str_str, isi_str_bool, isi_str_dict, isi_bl_tuple, isi_bl_list, isi_bl_int, isi_bl_str, isi_bl_bool, isi_bl_dict, isi_non_tuple, isi_non_list, isi_non_int, isi_non_str, isi_non_bool, isi_non_dict, isn_tup, isn_lst, isn_int, isn_str, isn_bl, isn_non, ixt0, ixt1, ixt2, ixt3, ixt4, ixt5, ixl0, ixl1, ixl2, ixl3, ixl4, ixl5, in_tupN, in_lstN, notin_tupN, notin_lstN, forS_vals, Bool.not_true, Bool.not_false, Bool.false_or, Bool.true_or, Bool.or_false, Bool.or_true, Bool.and_true, Bool.true_and, Bool.and_false, Bool.false_and, List.nil_append, List.cons_append, vIn2_rl0, vIn2_rd0, vNotIn2_rl0, vNotIn2_rd0, vSub2_rl0, vSub2_rd0, vLen_rl0, vTuple_rl0, vList_rl0, vSum_rl0, vAny_rl0, vAll_rl0, vSorted2_rl0, vMin_rl0, vMax_rl0, vSorted_rl0, vSorted2_rd0, vEq_rl0, vNe_rl0, asT_rl0, vAppend_r0, vExtend_r0, onTy_r0, vIn2_rl1, vIn2_rd1, vNotIn2_rl1, vNotIn2_rd1, vSub2_rl1, vSub2_rd1, vLen_rl1, vTuple_rl1, vList_rl1, vSum_rl1, vAny_rl1, vAll_rl1, vSorted2_rl1, vMin_rl1, vMax_rl1, vSorted_rl1, vSorted2_rd1, vEq_rl1, vNe_rl1, asT_rl1, vAppend_r1, vExtend_r1, onTy_r1, vIn2_rl2, vIn2_rd2, vNotIn2_rl2, vNotIn2_rd2, vSub2_rl2, vSub2_rd2, vLen_rl2, vTuple_rl2, vList_rl2, vSum_rl2, vAny_rl2, vAll_rl2, vSorted2_rl2, vMin_rl2, vMax_rl2, vSorted_rl2, vSorted2_rd2, vEq_rl2, vNe_rl2, asT_rl2, vAppend_r2, vExtend_r2, onTy_r2, vIn2_rl3, vIn2_rd3, vNotIn2_rl3, vNotIn2_rd3, vSub2_rl3, vSub2_rd3, vLen_rl3, vTuple_rl3, vList_rl3, vSum_rl3, vAny_rl3, vAll_rl3, vSorted2_rl3, vMin_rl3, vMax_rl3, vSorted_rl3, vSorted2_rd3, vEq_rl3, vNe_rl3, asT_rl3, vAppend_r3, vExtend_r3, onTy_r3, vIn2_rl4, vIn2_rd4, vNotIn2_rl4, vNotIn2_rd4, vSub2_rl4, vSub2_rd4, vLen_rl4, vTuple_rl4, vList_rl4, vSum_rl4, vAny_rl4, vAll_rl4, vSorted2_rl4, vMin_rl4, vMax_rl4, vSorted_rl4, vSorted2_rd4, vEq_rl4, vNe_rl4, asT_rl4, vAppend_r4, vExtend_r4, onTy_r4, all_tt, all_mapA, any_mapA, cut1, oneD, in_dct, notin_dct, dcS_vals, ev_mdc, dcE_ok, ↓dcp_mapM, hc, hrt, Bool.not_false]
    | true =>
      obtain ⟨v, hv, hg⟩ := sub_eK is vs (row[a]!) J.l ((J.k _).mpr hrm)
      obtain ⟨l, rfl, hl⟩ := J.v v hv
      rw [h2] at hrt
      have hli := J.leni
      have hn := hs.n
      have hrl := J.len
      have hput : vPut (.ref 0) (.int (t : Int)) (.tup (l.map eN ++ [.int (t : Int)])) [.dct (eK is) vs, .lst (row.map eN)] = some [.dct (eK (is ++ [t])) (vs ++ [.tup ((l ++ [t]).map eN)]), .lst (row.map eN)] := by
        have e : dPut (.k (.inl (t : Int))) (.tup (l.map eN ++ [.int (t : Int)])) (eK is) vs = (eK (is ++ [t]), vs ++ [.tup ((l ++ [t]).map eN)]) := by
          unfold eK
          rw [dPut_new _ _ _ _ (fun z => h1 (mem_cast.mp z)), List.map_append, List.map_append]; rfl
        show (if isKs (eK is) && decide ((eK is).length < LIM) then some ([Ob.dct (eK is) vs, .lst (row.map eN)].set 0 (.dct (dPut (.k (.inl (t : Int))) (.tup (l.map eN ++ [.int (t : Int)])) (eK is) vs).1 (dPut (.k (.inl (t : Int))) (.tup (l.map eN ++ [.int (t : Int)])) (eK is) vs).2)) else none) = _
        rw [e, if_pos]
        · rfl
        · unfold eK
          rw [isKs_IK]
          refine decide_eq_true ?_
          unfold IK
          rw [List.length_map, List.length_map]
          unfold LIM; omega
      refine ⟨is ++ [t], vs ++ [.tup ((l ++ [t]).map eN)], row ++ [t], ⟨by simp [J.l], ?_, ?_, ?_, ?_, ?_⟩, by rw [List.length_append]; omega, ?_⟩
      · rw [List.nodup_append]
        exact ⟨J.nd, by simp, fun a ha b hb => by
          rw [List.mem_singleton] at hb
          subst hb
          intro z; subst z
          exact h1 ((J.k _).mpr ha)⟩
      · intro x hx
        rcases List.mem_append.mp hx with hx | hx
        · exact J.o x hx
        · rw [List.mem_singleton] at hx; exact hx ▸ ht
      · intro x
        rw [List.mem_append, List.mem_append, J.k x]
      · rw [List.nodup_append]
        exact ⟨J.ki, by simp, fun a ha b hb => by
          rw [List.mem_singleton] at hb
          subst hb
          intro z; subst z
          exact h1 ha⟩
      · intro v hv
        rcases List.mem_append.mp hv with hv | hv
        · obtain ⟨l', e, hl'⟩ := J.v v hv
          exact ⟨l', e, by rw [List.length_append]; omega⟩
        · rw [List.mem_singleton] at hv
          exact ⟨_, hv, by rw [List.length_append, List.length_append]; simpa using hl⟩
      · simp (config := {implicitDefEqProofs := false}) (disch := (first | (with_reducible assumption) | omega | (with_reducible solve_by_elim (maxDepth := 3)) | (with_reducible exact lt_range (by with_reducible assumption)) | (with_reducible exact lt_rangeF (by with_reducible assumption)) | (with_reducible exact lt_range1 (by with_reducible assumption)) | (with_reducible exact lt_range1F (by with_reducible assumption)) | (simp only [List.length_map, List.length_range, List.length_range', List.length_cons, List.length_nil, List.length_append, LIM]; omega) | (simp only [List.length_map]; with_reducible assumption) | (simp only [List.length_map]; with_reducible solve_by_elim (maxDepth := 3)) | (simp only [List.length_map]; refine len_filter ?_; simp only [List.length_map, List.length_range, List.length_range', LIM]; omega))) only [ev_op2, ev_op1, ev_imm, ev_mut, ev_call, ev_anil, ev_acons, ev_cst, ev_seq, ev_skip, ev_asg, ev_ret, ev_drop, ev_if, ev_not, ev_and, ev_or, ev_ife, ev_bool, ev_truth, ev_mvar, lookR_ok, bnd_ok, bnd_exc, flw_ok, flw_exc, seq_nx', seq_rt', seq_exc', asB_bl, asT_bl, List.getElem?_cons_zero, List.getElem?_cons_succ, List.set_cons_zero, List.set_cons_succ, if_true, if_false, Bool.false_eq_true, bindK_some, cmpS_vals, catS_vals, ev_mlc, ev_mlc2, bndS_ok, ev_mraw, ↓cmp_mapM, ↓cat2_mapM, cmpM_no, catM_no, dcpM_no, cmp_pure, cmp_if, cat2_pure, cat2_if, bindT_nm, bindT_tup, bindT_lst, bindTs_nil, bindO_some, bindTs_cons, wipe_nil, wipe_cons, ev_iseq, asSrc_lst, asSrc_rol, asSrc_tup, oneC, oneI, List.map_cons, List.map_nil, ev_mand, ev_mor, ev_mnot, ev_tife, ev_tyes, ev_chain, ev_op2F, ev_op1F, ev_meth, ev_tupT, ev_lstL, ev_for, ev_setI, ev_raise, ev_brk, ev_cnt, ev_retN, ev_try, ev_asgT, ev_aug, ev_irng1, ev_irng2, ev_ienum, ev_izip, ev_slice, ev_onone, ev_osome, mkT_ok, mkL_ok, and_bl, or_bl, and_blF, and_t, or_t, chB_bl, putF_some, tryK_rt, tryK_nx, noX_rt, noX_nx, bindF_some, augK_ok, rg1_nat, rg2_zero, rg2_one, en1_tup, en1_lst, enums_map, zips_map, zp1_tup, zp1_lst, asI_int, slice_tup, slice_lst, slice_lst', ix_tupM, ix_lstM, len_tup, len_lst, tup_lst, tup_tup, list_lst, list_tup, shortOk, add_tup, add_lst, add_int, sub_int, neg_int, int_int, int_bl, eq_int, ne_int, lt_int, le_int, gt_int, ge_intE, eq_bl, ne_bl, isN_ok, notN_ok, List.length_map, List.map_map, List.length_cons, List.length_nil, isi_tup_tuple, isi_tup_list, isi_tup_int, isi_tup_str, isi_tup_bool, isi_tup_dict, isi_lst_tuple, isi_lst_list, isi_lst_int, isi_lst_str, isi_lst_bool, isi_lst_dict, isi_int_tuple, isi_int_list, isi_int_int, isi_int_str, isi_int_bool, isi_int_dict, isi_str_tuple, isi_str_list, isi_str_int, isi_str_str, isi_str_bool, isi_str_dict, isi_bl_tuple, isi_bl_list, isi_bl_int, isi_bl_str, isi_bl_bool, isi_bl_dict, isi_non_tuple, isi_non_list, isi_non_int, isi_non_str, isi_non_bool, isi_non_dict, isn_tup, isn_lst, isn_int, isn_str, isn_bl, isn_non, ixt0, ixt1, ixt2, ixt3, ixt4, ixt5, ixl0, ixl1, ixl2, ixl3, ixl4, ixl5, in_tupN, in_lstN, notin_tupN, notin_lstN, forS_vals, Bool.not_true, Bool.not_false, Bool.false_or, Bool.true_or, Bool.or_false, Bool.or_true, Bool.and_true, Bool.true_and, Bool.and_false, Bool.false_and, List.nil_append, List.cons_append, vIn2_rl0, vIn2_rd0, vNotIn2_rl0, vNotIn2_rd0, vSub2_rl0, vSub2_rd0, vLen_rl0, vTuple_rl0, vList_rl0, vSum_rl0, vAny_rl0, vAll_rl0, vSorted2_rl0, vMin_rl0, vMax_rl0, vSorted_rl0, vSorted2_rd0, vEq_rl0, vNe_rl0, asT_rl0, vAppend_r0, vExtend_r0, onTy_r0, vIn2_rl1, vIn2_rd1, vNotIn2_rl1, vNotIn2_rd1, vSub2_rl1, vSub2_rd1, vLen_rl1, vTuple_rl1, vList_rl1, vSum_rl1, vAny_rl1, vAll_rl1, vSorted2_rl1, vMin_rl1, vMax_rl1, vSorted_rl1, vSorted2_rd1, vEq_rl1, vNe_rl1, asT_rl1, vAppend_r1, vExtend_r1, onTy_r1, vIn2_rl2, vIn2_rd2, vNotIn2_rl2, vNotIn2_rd2, vSub2_rl2, vSub2_rd2, vLen_rl2, vTuple_rl2, vList_rl2, vSum_rl2, vAny_rl2, vAll_rl2, vSorted2_rl2, vMin_rl2, vMax_rl2, vSorted_rl2, vSorted2_rd2, vEq_rl2, vNe_rl2, asT_rl2, vAppend_r2, vExtend_r2, onTy_r2, vIn2_rl3, vIn2_rd3, vNotIn2_rl3, vNotIn2_rd3, vSub2_rl3, vSub2_rd3, vLen_rl3, vTuple_rl3, vList_rl3, vSum_rl3, vAny_rl3, vAll_rl3, vSorted2_rl3, vMin_rl3, vMax_rl3, vSorted_rl3, vSorted2_rd3, vEq_rl3, vNe_rl3, asT_rl3, vAppend_r3, vExtend_r3, onTy_r3, vIn2_rl4, vIn2_rd4, vNotIn2_rl4, vNotIn2_rd4, vSub2_rl4, vSub2_rd4, vLen_rl4, vTuple_rl4, vList_rl4, vSum_rl4, vAny_rl4, vAll_rl4, vSorted2_rl4, vMin_rl4, vMax_rl4, vSorted_rl4, vSorted2_rd4, vEq_rl4, vNe_rl4, asT_rl4, vAppend_r4, vExtend_r4, onTy_r4, all_tt, all_mapA, any_mapA, cut1, oneD, in_dct, notin_dct, dcS_vals, ev_mdc, dcE_ok, ↓dcp_mapM, hc, hrt, hg, Bool.not_false, hput]
        simp only [List.map_append]; rfl
theorem forL_join {ts : List (List Deed)} (hs : Small ts) {p a : Nat} (X Y Z : Option Val) : ∀ (l : List Nat), (∀ t ∈ l, t ∈ oth ts.length p) → ∀ (is : List Nat) (vs : List Val) (row : List Nat) (W : Option Val), JI ts.length p is vs row → a < row.length →
    ∃ is' vs' row' W', JI ts.length p is' vs' row' ∧ a < row'.length ∧ forL (.nm 7) l1_joined_to (l.map eN) [some (eX ts), X, Y, Z, some (.ref 0), some (.ref 1), some (.int (a : Nat)), W] [.dct (eK is) vs, .lst (row.map eN)] = .nx [some (eX ts), X, Y, Z, some (.ref 0), some (.ref 1), some (.int (a : Nat)), W'] [.dct (eK is') vs', .lst (row'.map eN)]
  | [], _, is, vs, row, W, J, ha => ⟨is, vs, row, W, J, ha, rfl⟩
  | t :: l, hl, is, vs, row, W, J, ha => by
    obtain ⟨is1, vs1, row1, J1, ha1, e1⟩ := join_turn hs J (hl t List.mem_cons_self) ha X Y Z
    obtain ⟨is2, vs2, row2, W2, J2, ha2, e2⟩ := forL_join hs X Y Z l (fun x hx => hl x (List.mem_cons_of_mem _ hx)) is1 vs1 row1 (some (eN t)) J1 ha1
    refine ⟨is2, vs2, row2, W2, J2, ha2, ?_⟩
    rw [List.map_cons]
    conv => lhs; unfold forL
    dsimp only [bindT_nm, List.set_cons_succ, List.set_cons_zero]
    rw [e1]
    exact e2
def joinC : M Bool := c2_joined_to
def joinB : B := sseq (sfor (iseq (mvar 3)) (.nm 7)
      l1_joined_to)
    (sseq (saug (fun i j => i + j) 6 (mcst (.int 1)))
    (sskip))
theorem cast_succ (a : Nat) : (a : Int) + 1 = ((a + 1 : Nat) : Int) := by omega
theorem join_while {ts : List (List Deed)} (hs : Small ts) {p : Nat} {is : List Nat} {vs : List Val} {row : List Nat} (J : JI ts.length p is vs row) (X Y W : Option Val) :
    ∃ is' vs' row' a' W', JI ts.length p is' vs' row' ∧ swhile joinC joinB FUEL [some (eX ts), X, Y, some (.lst ((oth ts.length p).map eN)), some (.ref 0), some (.ref 1), some (.int 0), W] [.dct (eK is) vs, .lst (row.map eN)] = .nx [some (eX ts), X, Y, some (.lst ((oth ts.length p).map eN)), some (.ref 0), some (.ref 1), some (.int (a' : Nat)), W'] [.dct (eK is') vs', .lst (row'.map eN)] := by
  have := swhile_inv (c := joinC) (body := joinB) (fun m sl μ => ∃ is vs row a W, JI ts.length p is vs row ∧ a ≤ row.length ∧ m + a = 5 ∧ sl = [some (eX ts), X, Y, some (.lst ((oth ts.length p).map eN)), some (.ref 0), some (.ref 1), some (.int ((a : Nat) : Int)), W] ∧ μ = [.dct (eK is) vs, .lst (row.map eN)])
    (fun sl μ => ∃ is vs row a W, JI ts.length p is vs row ∧ sl = [some (eX ts), X, Y, some (.lst ((oth ts.length p).map eN)), some (.ref 0), some (.ref 1), some (.int ((a : Nat) : Int)), W] ∧ μ = [.dct (eK is) vs, .lst (row.map eN)]) ?_ FUEL 5 [some (eX ts), X, Y, some (.lst ((oth ts.length p).map eN)), some (.ref 0), some (.ref 1), some (.int ((0 : Nat) : Int)), W] [.dct (eK is) vs, .lst (row.map eN)] (by unfold FUEL; omega) ⟨is, vs, row, 0, W, J, Nat.zero_le _, rfl, rfl, rfl⟩
  · obtain ⟨sl', μ', e, is', vs', row', a', W', J', rfl, rfl⟩ := this
    exact ⟨is', vs', row', a', W', J', e⟩
  · rintro m sl μ ⟨is, vs, row, a, W, J, ha, hm, rfl, rfl⟩
    have hl := J.len
    have hn := hs.n
    by_cases hlt : a < row.length
    · right
      obtain ⟨is2, vs2, row2, W2, J2, ha2, e2⟩ := forL_join hs X Y (some (.lst ((oth ts.length p).map eN))) (oth ts.length p) (fun t h => h) is vs row W J hlt
      refine ⟨[.dct (eK is) vs, .lst (row.map eN)], _, _, m - 1, ?_, .inl ?_, by omega, ⟨is2, vs2, row2, a + 1, W2, J2, by omega, by omega, rfl, rfl⟩⟩
      · unfold joinC
        simp (config := {implicitDefEqProofs := false}) (disch := (first | (with_reducible assumption) | omega | (with_reducible solve_by_elim (maxDepth := 3)) | (with_reducible exact lt_range (by with_reducible assumption)) | (with_reducible exact lt_rangeF (by with_reducible assumption)) | (with_reducible exact lt_range1 (by with_reducible assumption)) | (with_reducible exact lt_range1F (by with_reducible assumption)) | (simp only [List.length_map, List.length_range, List.length_range', List.length_cons, List.length_nil, List.length_append, LIM]; omega) | (simp only [List.length_map]; with_reducible assumption) | (simp only [List.length_map]; with_reducible solve_by_elim (maxDepth := 3)) | (simp only [List.length_map]; refine len_filter ?_; simp only [List.length_map, List.length_range, List.length_range', LIM]; omega))) only [ev_op2, ev_op1, ev_imm, ev_mut, ev_call, ev_anil, ev_acons, ev_cst, ev_seq, ev_skip, ev_asg, ev_ret, ev_drop, ev_if, ev_not, ev_and, ev_or, ev_ife, ev_bool, ev_truth, ev_mvar, lookR_ok, bnd_ok, bnd_exc, flw_ok, flw_exc, seq_nx', seq_rt', seq_exc', asB_bl, asT_bl, List.getElem?_cons_zero, List.getElem?_cons_succ, List.set_cons_zero, List.set_cons_succ, if_true, if_false, Bool.false_eq_true, bindK_some, cmpS_vals, catS_vals, ev_mlc, ev_mlc2, bndS_ok, ev_mraw, ↓cmp_mapM, ↓cat2_mapM, cmpM_no, catM_no, dcpM_no, cmp_pure, cmp_if, cat2_pure, cat2_if, bindT_nm, bindT_tup, bindT_lst, bindTs_nil, bindO_some, bindTs_cons, wipe_nil, wipe_cons, ev_iseq, asSrc_lst, asSrc_rol, asSrc_tup, oneC, oneI, List.map_cons, List.map_nil, ev_mand, ev_mor, ev_mnot, ev_tife, ev_tyes, ev_chain, ev_op2F, ev_op1F, ev_meth, ev_tupT, ev_lstL, ev_for, ev_setI, ev_raise, ev_brk, ev_cnt, ev_retN, ev_try, ev_asgT, ev_aug, ev_irng1, ev_irng2, ev_ienum, ev_izip, ev_slice, ev_onone, ev_osome, mkT_ok, mkL_ok, and_bl, or_bl, and_blF, and_t, or_t, chB_bl, putF_some, tryK_rt, tryK_nx, noX_rt, noX_nx, bindF_some, augK_ok, rg1_nat, rg2_zero, rg2_one, en1_tup, en1_lst, enums_map, zips_map, zp1_tup, zp1_lst, asI_int, slice_tup, slice_lst, slice_lst', ix_tupM, ix_lstM, len_tup, len_lst, tup_lst, tup_tup, list_lst, list_tup, shortOk, add_tup, add_lst, add_int, sub_int, neg_int, int_int, int_bl, eq_int, ne_int, lt_int, le_int, gt_int, ge_intE, eq_bl, ne_bl, isN_ok, notN_ok, List.length_map, List.map_map, List.length_cons, List.length_nil, isi_tup_tuple, isi_tup_list, isi_tup_int, isi_tup_str, isi_tup_bool, isi_tup_dict, isi_lst_tuple, isi_lst_list, isi_lst_int, isi_lst_str, isi_lst_bool, isi_lst_dict, isi_int_tuple, isi_int_list, isi_int_int, isi_int_str, isi_int_bool, isi_int_dict, isi_str_tuple, isi_str_list, isi_str_int, isi_str_str, isi_str_bool, isi_str_dict, isi_bl_tuple, isi_bl_list, isi_bl_int, isi_bl_str, isi_bl_bool, isi_bl_dict, isi_non_tuple, isi_non_list, isi_non_int, isi_non_str, isi_non_bool, isi_non_dict, isn_tup, isn_lst, isn_int, isn_str, isn_bl, isn_non, ixt0, ixt1, ixt2, ixt3, ixt4, ixt5, ixl0, ixl1, ixl2, ixl3, ixl4, ixl5, in_tupN, in_lstN, notin_tupN, notin_lstN, forS_vals, Bool.not_true, Bool.not_false, Bool.false_or, Bool.true_or, Bool.or_false, Bool.or_true, Bool.and_true, Bool.true_and, Bool.and_false, Bool.false_and, List.nil_append, List.cons_append, vIn2_rl0, vIn2_rd0, vNotIn2_rl0, vNotIn2_rd0, vSub2_rl0, vSub2_rd0, vLen_rl0, vTuple_rl0, vList_rl0, vSum_rl0, vAny_rl0, vAll_rl0, vSorted2_rl0, vMin_rl0, vMax_rl0, vSorted_rl0, vSorted2_rd0, vEq_rl0, vNe_rl0, asT_rl0, vAppend_r0, vExtend_r0, onTy_r0, vIn2_rl1, vIn2_rd1, vNotIn2_rl1, vNotIn2_rd1, vSub2_rl1, vSub2_rd1, vLen_rl1, vTuple_rl1, vList_rl1, vSum_rl1, vAny_rl1, vAll_rl1, vSorted2_rl1, vMin_rl1, vMax_rl1, vSorted_rl1, vSorted2_rd1, vEq_rl1, vNe_rl1, asT_rl1, vAppend_r1, vExtend_r1, onTy_r1, vIn2_rl2, vIn2_rd2, vNotIn2_rl2, vNotIn2_rd2, vSub2_rl2, vSub2_rd2, vLen_rl2, vTuple_rl2, vList_rl2, vSum_rl2, vAny_rl2, vAll_rl2, vSorted2_rl2, vMin_rl2, vMax_rl2, vSorted_rl2, vSorted2_rd2, vEq_rl2, vNe_rl2, asT_rl2, vAppend_r2, vExtend_r2, onTy_r2, vIn2_rl3, vIn2_rd3, vNotIn2_rl3, vNotIn2_rd3, vSub2_rl3, vSub2_rd3, vLen_rl3, vTuple_rl3, vList_rl3, vSum_rl3, vAny_rl3, vAll_rl3, vSorted2_rl3, vMin_rl3, vMax_rl3, vSorted_rl3, vSorted2_rd3, vEq_rl3, vNe_rl3, asT_rl3, vAppend_r3, vExtend_r3, onTy_r3, vIn2_rl4, vIn2_rd4, vNotIn2_rl4, vNotIn2_rd4, vSub2_rl4, vSub2_rd4, vLen_rl4, vTuple_rl4, vList_rl4, vSum_rl4, vAny_rl4, vAll_rl4, vSorted2_rl4, vMin_rl4, vMax_rl4, vSorted_rl4, vSorted2_rd4, vEq_rl4, vNe_rl4, asT_rl4, vAppend_r4, vExtend_r4, onTy_r4, all_tt, all_mapA, any_mapA, cut1, oneD, in_dct, notin_dct, dcS_vals, ev_mdc, dcE_ok, ↓dcp_mapM]
        rw [decide_eq_true (by omega)]
      · unfold joinB
        simp (config := {implicitDefEqProofs := false}) (disch := (first | (with_reducible assumption) | omega | (with_reducible solve_by_elim (maxDepth := 3)) | (with_reducible exact lt_range (by with_reducible assumption)) | (with_reducible exact lt_rangeF (by with_reducible assumption)) | (with_reducible exact lt_range1 (by with_reducible assumption)) | (with_reducible exact lt_range1F (by with_reducible assumption)) | (simp only [List.length_map, List.length_range, List.length_range', List.length_cons, List.length_nil, List.length_append, LIM]; omega) | (simp only [List.length_map]; with_reducible assumption) | (simp only [List.length_map]; with_reducible solve_by_elim (maxDepth := 3)) | (simp only [List.length_map]; refine len_filter ?_; simp only [List.length_map, List.length_range, List.length_range', LIM]; omega))) only [ev_op2, ev_op1, ev_imm, ev_mut, ev_call, ev_anil, ev_acons, ev_cst, ev_seq, ev_skip, ev_asg, ev_ret, ev_drop, ev_if, ev_not, ev_and, ev_or, ev_ife, ev_bool, ev_truth, ev_mvar, lookR_ok, bnd_ok, bnd_exc, flw_ok, flw_exc, seq_nx', seq_rt', seq_exc', asB_bl, asT_bl, List.getElem?_cons_zero, List.getElem?_cons_succ, List.set_cons_zero, List.set_cons_succ, if_true, if_false, Bool.false_eq_true, bindK_some, cmpS_vals, catS_vals, ev_mlc, ev_mlc2, bndS_ok, ev_mraw, ↓cmp_mapM, ↓cat2_mapM, cmpM_no, catM_no, dcpM_no, cmp_pure, cmp_if, cat2_pure, cat2_if, bindT_nm, bindT_tup, bindT_lst, bindTs_nil, bindO_some, bindTs_cons, wipe_nil, wipe_cons, ev_iseq, asSrc_lst, asSrc_rol, asSrc_tup, oneC, oneI, List.map_cons, List.map_nil, ev_mand, ev_mor, ev_mnot, ev_tife, ev_tyes, ev_chain, ev_op2F, ev_op1F, ev_meth, ev_tupT, ev_lstL, ev_for, ev_setI, ev_raise, ev_brk, ev_cnt, ev_retN, ev_try, ev_asgT, ev_aug, ev_irng1, ev_irng2, ev_ienum, ev_izip, ev_slice, ev_onone, ev_osome, mkT_ok, mkL_ok, and_bl, or_bl, and_blF, and_t, or_t, chB_bl, putF_some, tryK_rt, tryK_nx, noX_rt, noX_nx, bindF_some, augK_ok, rg1_nat, rg2_zero, rg2_one, en1_tup, en1_lst, enums_map, zips_map, zp1_tup, zp1_lst, asI_int, slice_tup, slice_lst, slice_lst', ix_tupM, ix_lstM, len_tup, len_lst, tup_lst, tup_tup, list_lst, list_tup, shortOk, add_tup, add_lst, add_int, sub_int, neg_int, int_int, int_bl, eq_int, ne_int, lt_int, le_int, gt_int, ge_intE, eq_bl, ne_bl, isN_ok, notN_ok, List.length_map, List.map_map, List.length_cons, List.length_nil, isi_tup_tuple, isi_tup_list, isi_tup_int, isi_tup_str, isi_tup_bool, isi_tup_dict, isi_lst_tuple, isi_lst_list, isi_lst_int, isi_lst_str, isi_lst_bool, isi_lst_dict, isi_int_tuple, isi_int_list, isi_int_int, isi_int_str, isi_int_bool, isi_int_dict, isi_str_tuple, isi_str_list, isi_str_int, isi_str_str, isi_str_bool, isi_str_dict, isi_bl_tuple, isi_bl_list, isi_bl_int, isi_bl_str, isi_bl_bool, isi_bl_dict, isi_non_tuple, isi_non_list, isi_non_int, isi_non_str, isi_non_bool, isi_non_dict, isn_tup, isn_lst, isn_int, isn_str, isn_bl, isn_non, ixt0, ixt1, ixt2, ixt3, ixt4, ixt5, ixl0, ixl1, ixl2, ixl3, ixl4, ixl5, in_tupN, in_lstN, notin_tupN, notin_lstN, forS_vals, Bool.not_true, Bool.not_false, Bool.false_or, Bool.true_or, Bool.or_false, Bool.or_true, Bool.and_true, Bool.true_and, Bool.and_false, Bool.false_and, List.nil_append, List.cons_append, vIn2_rl0, vIn2_rd0, vNotIn2_rl0, vNotIn2_rd0, vSub2_rl0, vSub2_rd0, vLen_rl0, vTuple_rl0, vList_rl0, vSum_rl0, vAny_rl0, vAll_rl0, vSorted2_rl0, vMin_rl0, vMax_rl0, vSorted_rl0, vSorted2_rd0, vEq_rl0, vNe_rl0, asT_rl0, vAppend_r0, vExtend_r0, onTy_r0, vIn2_rl1, vIn2_rd1, vNotIn2_rl1, vNotIn2_rd1, vSub2_rl1, vSub2_rd1, vLen_rl1, vTuple_rl1, vList_rl1, vSum_rl1, vAny_rl1, vAll_rl1, vSorted2_rl1, vMin_rl1, vMax_rl1, vSorted_rl1, vSorted2_rd1, vEq_rl1, vNe_rl1, asT_rl1, vAppend_r1, vExtend_r1, onTy_r1, vIn2_rl2, vIn2_rd2, vNotIn2_rl2, vNotIn2_rd2, vSub2_rl2, vSub2_rd2, vLen_rl2, vTuple_rl2, vList_rl2, vSum_rl2, vAny_rl2, vAll_rl2, vSorted2_rl2, vMin_rl2, vMax_rl2, vSorted_rl2, vSorted2_rd2, vEq_rl2, vNe_rl2, asT_rl2, vAppend_r2, vExtend_r2, onTy_r2, vIn2_rl3, vIn2_rd3, vNotIn2_rl3, vNotIn2_rd3, vSub2_rl3, vSub2_rd3, vLen_rl3, vTuple_rl3, vList_rl3, vSum_rl3, vAny_rl3, vAll_rl3, vSorted2_rl3, vMin_rl3, vMax_rl3, vSorted_rl3, vSorted2_rd3, vEq_rl3, vNe_rl3, asT_rl3, vAppend_r3, vExtend_r3, onTy_r3, vIn2_rl4, vIn2_rd4, vNotIn2_rl4, vNotIn2_rd4, vSub2_rl4, vSub2_rd4, vLen_rl4, vTuple_rl4, vList_rl4, vSum_rl4, vAny_rl4, vAll_rl4, vSorted2_rl4, vMin_rl4, vMax_rl4, vSorted_rl4, vSorted2_rd4, vEq_rl4, vNe_rl4, asT_rl4, vAppend_r4, vExtend_r4, onTy_r4, all_tt, all_mapA, any_mapA, cut1, oneD, in_dct, notin_dct, dcS_vals, ev_mdc, dcE_ok, ↓dcp_mapM, forS]
        rw [e2]
        simp (config := {implicitDefEqProofs := false}) (disch := (first | (with_reducible assumption) | omega | (with_reducible solve_by_elim (maxDepth := 3)) | (with_reducible exact lt_range (by with_reducible assumption)) | (with_reducible exact lt_rangeF (by with_reducible assumption)) | (with_reducible exact lt_range1 (by with_reducible assumption)) | (with_reducible exact lt_range1F (by with_reducible assumption)) | (simp only [List.length_map, List.length_range, List.length_range', List.length_cons, List.length_nil, List.length_append, LIM]; omega) | (simp only [List.length_map]; with_reducible assumption) | (simp only [List.length_map]; with_reducible solve_by_elim (maxDepth := 3)) | (simp only [List.length_map]; refine len_filter ?_; simp only [List.length_map, List.length_range, List.length_range', LIM]; omega))) only [ev_op2, ev_op1, ev_imm, ev_mut, ev_call, ev_anil, ev_acons, ev_cst, ev_seq, ev_skip, ev_asg, ev_ret, ev_drop, ev_if, ev_not, ev_and, ev_or, ev_ife, ev_bool, ev_truth, ev_mvar, lookR_ok, bnd_ok, bnd_exc, flw_ok, flw_exc, seq_nx', seq_rt', seq_exc', asB_bl, asT_bl, List.getElem?_cons_zero, List.getElem?_cons_succ, List.set_cons_zero, List.set_cons_succ, if_true, if_false, Bool.false_eq_true, bindK_some, cmpS_vals, catS_vals, ev_mlc, ev_mlc2, bndS_ok, ev_mraw, ↓cmp_mapM, ↓cat2_mapM, cmpM_no, catM_no, dcpM_no, cmp_pure, cmp_if, cat2_pure, cat2_if, bindT_nm, bindT_tup, bindT_lst, bindTs_nil, bindO_some, bindTs_cons, wipe_nil, wipe_cons, ev_iseq, asSrc_lst, asSrc_rol, asSrc_tup, oneC, oneI, List.map_cons, List.map_nil, ev_mand, ev_mor, ev_mnot, ev_tife, ev_tyes, ev_chain, ev_op2F, ev_op1F, ev_meth, ev_tupT, ev_lstL, ev_for, ev_setI, ev_raise, ev_brk, ev_cnt, ev_retN, ev_try, ev_asgT, ev_aug, ev_irng1, ev_irng2, ev_ienum, ev_izip, ev_slice, ev_onone, ev_osome, mkT_ok, mkL_ok, and_bl, or_bl, and_blF, and_t, or_t, chB_bl, putF_some, tryK_rt, tryK_nx, noX_rt, noX_nx, bindF_some, augK_ok, rg1_nat, rg2_zero, rg2_one, en1_tup, en1_lst, enums_map, zips_map, zp1_tup, zp1_lst, asI_int, slice_tup, slice_lst, slice_lst', ix_tupM, ix_lstM, len_tup, len_lst, tup_lst, tup_tup, list_lst, list_tup, shortOk, add_tup, add_lst, add_int, sub_int, neg_int, int_int, int_bl, eq_int, ne_int, lt_int, le_int, gt_int, ge_intE, eq_bl, ne_bl, isN_ok, notN_ok, List.length_map, List.map_map, List.length_cons, List.length_nil, isi_tup_tuple, isi_tup_list, isi_tup_int, isi_tup_str, isi_tup_bool, isi_tup_dict, isi_lst_tuple, isi_lst_list, isi_lst_int, isi_lst_str, isi_lst_bool, isi_lst_dict, isi_int_tuple, isi_int_list, isi_int_int, isi_int_str, isi_int_bool, isi_int_dict, isi_str_tuple, isi_str_list, isi_str_int, isi_str_str, isi_str_bool, isi_str_dict, isi_bl_tuple, isi_bl_list, isi_bl_int, isi_bl_str, isi_bl_bool, isi_bl_dict, isi_non_tuple, isi_non_list, isi_non_int, isi_non_str, isi_non_bool, isi_non_dict, isn_tup, isn_lst, isn_int, isn_str, isn_bl, isn_non, ixt0, ixt1, ixt2, ixt3, ixt4, ixt5, ixl0, ixl1, ixl2, ixl3, ixl4, ixl5, in_tupN, in_lstN, notin_tupN, notin_lstN, forS_vals, Bool.not_true, Bool.not_false, Bool.false_or, Bool.true_or, Bool.or_false, Bool.or_true, Bool.and_true, Bool.true_and, Bool.and_false, Bool.false_and, List.nil_append, List.cons_append, vIn2_rl0, vIn2_rd0, vNotIn2_rl0, vNotIn2_rd0, vSub2_rl0, vSub2_rd0, vLen_rl0, vTuple_rl0, vList_rl0, vSum_rl0, vAny_rl0, vAll_rl0, vSorted2_rl0, vMin_rl0, vMax_rl0, vSorted_rl0, vSorted2_rd0, vEq_rl0, vNe_rl0, asT_rl0, vAppend_r0, vExtend_r0, onTy_r0, vIn2_rl1, vIn2_rd1, vNotIn2_rl1, vNotIn2_rd1, vSub2_rl1, vSub2_rd1, vLen_rl1, vTuple_rl1, vList_rl1, vSum_rl1, vAny_rl1, vAll_rl1, vSorted2_rl1, vMin_rl1, vMax_rl1, vSorted_rl1, vSorted2_rd1, vEq_rl1, vNe_rl1, asT_rl1, vAppend_r1, vExtend_r1, onTy_r1, vIn2_rl2, vIn2_rd2, vNotIn2_rl2, vNotIn2_rd2, vSub2_rl2, vSub2_rd2, vLen_rl2, vTuple_rl2, vList_rl2, vSum_rl2, vAny_rl2, vAll_rl2, vSorted2_rl2, vMin_rl2, vMax_rl2, vSorted_rl2, vSorted2_rd2, vEq_rl2, vNe_rl2, asT_rl2, vAppend_r2, vExtend_r2, onTy_r2, vIn2_rl3, vIn2_rd3, vNotIn2_rl3, vNotIn2_rd3, vSub2_rl3, vSub2_rd3, vLen_rl3, vTuple_rl3, vList_rl3, vSum_rl3, vAny_rl3, vAll_rl3, vSorted2_rl3, vMin_rl3, vMax_rl3, vSorted_rl3, vSorted2_rd3, vEq_rl3, vNe_rl3, asT_rl3, vAppend_r3, vExtend_r3, onTy_r3, vIn2_rl4, vIn2_rd4, vNotIn2_rl4, vNotIn2_rd4, vSub2_rl4, vSub2_rd4, vLen_rl4, vTuple_rl4, vList_rl4, vSum_rl4, vAny_rl4, vAll_rl4, vSorted2_rl4, vMin_rl4, vMax_rl4, vSorted_rl4, vSorted2_rd4, vEq_rl4, vNe_rl4, asT_rl4, vAppend_r4, vExtend_r4, onTy_r4, all_tt, all_mapA, any_mapA, cut1, oneD, in_dct, notin_dct, dcS_vals, ev_mdc, dcE_ok, ↓dcp_mapM, cast_succ]
    · left
      refine ⟨[.dct (eK is) vs, .lst (row.map eN)], ?_, is, vs, row, a, W, J, rfl, rfl⟩
      unfold joinC
      simp (config := {implicitDefEqProofs := false}) (disch := (first | (with_reducible assumption) | omega | (with_reducible solve_by_elim (maxDepth := 3)) | (with_reducible exact lt_range (by with_reducible assumption)) | (with_reducible exact lt_rangeF (by with_reducible assumption)) | (with_reducible exact lt_range1 (by with_reducible assumption)) | (with_reducible exact lt_range1F (by with_reducible assumption)) | (simp only [List.length_map, List.length_range, List.length_range', List.length_cons, List.length_nil, List.length_append, LIM]; omega) | (simp only [List.length_map]; with_reducible assumption) | (simp only [List.length_map]; with_reducible solve_by_elim (maxDepth := 3)) | (simp only [List.length_map]; refine len_filter ?_; simp only [List.length_map, List.length_range, List.length_range', LIM]; omega))) only [ev_op2, ev_op1, ev_imm, ev_mut, ev_call, ev_anil, ev_acons, ev_cst, ev_seq, ev_skip, ev_asg, ev_ret, ev_drop, ev_if, ev_not, ev_and, ev_or, ev_ife, ev_bool, ev_truth, ev_mvar, lookR_ok, bnd_ok, bnd_exc, flw_ok, flw_exc, seq_nx', seq_rt', seq_exc', asB_bl, asT_bl, List.getElem?_cons_zero, List.getElem?_cons_succ, List.set_cons_zero, List.set_cons_succ, if_true, if_false, Bool.false_eq_true, bindK_some, cmpS_vals, catS_vals, ev_mlc, ev_mlc2, bndS_ok, ev_mraw, ↓cmp_mapM, ↓cat2_mapM, cmpM_no, catM_no, dcpM_no, cmp_pure, cmp_if, cat2_pure, cat2_if, bindT_nm, bindT_tup, bindT_lst, bindTs_nil, bindO_some, bindTs_cons, wipe_nil, wipe_cons, ev_iseq, asSrc_lst, asSrc_rol, asSrc_tup, oneC, oneI, List.map_cons, List.map_nil, ev_mand, ev_mor, ev_mnot, ev_tife, ev_tyes, ev_chain, ev_op2F, ev_op1F, ev_meth, ev_tupT, ev_lstL, ev_for, ev_setI, ev_raise, ev_brk, ev_cnt, ev_retN, ev_try, ev_asgT, ev_aug, ev_irng1, ev_irng2, ev_ienum, ev_izip, ev_slice, ev_onone, ev_osome, mkT_ok, mkL_ok, and_bl, or_bl, and_blF, and_t, or_t, chB_bl, putF_some, tryK_rt, tryK_nx, noX_rt, noX_nx, bindF_some, augK_ok, rg1_nat, rg2_zero, rg2_one, en1_tup, en1_lst, enums_map, zips_map, zp1_tup, zp1_lst, asI_int, slice_tup, slice_lst, slice_lst', ix_tupM, ix_lstM, len_tup, len_lst, tup_lst, tup_tup, list_lst, list_tup, shortOk, add_tup, add_lst, add_int, sub_int, neg_int, int_int, int_bl, eq_int, ne_int, lt_int, le_int, gt_int, ge_intE, eq_bl, ne_bl, isN_ok, notN_ok, List.length_map, List.map_map, List.length_cons, List.length_nil, isi_tup_tuple, isi_tup_list, isi_tup_int, isi_tup_str, isi_tup_bool, isi_tup_dict, isi_lst_tuple, isi_lst_list, isi_lst_int, isi_lst_str, isi_lst_bool, isi_lst_dict, isi_int_tuple, isi_int_list, isi_int_int, isi_int_str, isi_int_bool, isi_int_dict, isi_str_tuple, isi_str_list, isi_str_int, isi_str_str, isi_str_bool, isi_str_dict, isi_bl_tuple, isi_bl_list, isi_bl_int, isi_bl_str, isi_bl_bool, isi_bl_dict, isi_non_tuple, isi_non_list, isi_non_int, isi_non_str, isi_non_bool, isi_non_dict, isn_tup, isn_lst, isn_int, isn_str, isn_bl, isn_non, ixt0, ixt1, ixt2, ixt3, ixt4, ixt5, ixl0, ixl1, ixl2, ixl3, ixl4, ixl5, in_tupN, in_lstN, notin_tupN, notin_lstN, forS_vals, Bool.not_true, Bool.not_false, Bool.false_or, Bool.true_or, Bool.or_false, Bool.or_true, Bool.and_true, Bool.true_and, Bool.and_false, Bool.false_and, List.nil_append, List.cons_append, vIn2_rl0, vIn2_rd0, vNotIn2_rl0, vNotIn2_rd0, vSub2_rl0, vSub2_rd0, vLen_rl0, vTuple_rl0, vList_rl0, vSum_rl0, vAny_rl0, vAll_rl0, vSorted2_rl0, vMin_rl0, vMax_rl0, vSorted_rl0, vSorted2_rd0, vEq_rl0, vNe_rl0, asT_rl0, vAppend_r0, vExtend_r0, onTy_r0, vIn2_rl1, vIn2_rd1, vNotIn2_rl1, vNotIn2_rd1, vSub2_rl1, vSub2_rd1, vLen_rl1, vTuple_rl1, vList_rl1, vSum_rl1, vAny_rl1, vAll_rl1, vSorted2_rl1, vMin_rl1, vMax_rl1, vSorted_rl1, vSorted2_rd1, vEq_rl1, vNe_rl1, asT_rl1, vAppend_r1, vExtend_r1, onTy_r1, vIn2_rl2, vIn2_rd2, vNotIn2_rl2, vNotIn2_rd2, vSub2_rl2, vSub2_rd2, vLen_rl2, vTuple_rl2, vList_rl2, vSum_rl2, vAny_rl2, vAll_rl2, vSorted2_rl2, vMin_rl2, vMax_rl2, vSorted_rl2, vSorted2_rd2, vEq_rl2, vNe_rl2, asT_rl2, vAppend_r2, vExtend_r2, onTy_r2, vIn2_rl3, vIn2_rd3, vNotIn2_rl3, vNotIn2_rd3, vSub2_rl3, vSub2_rd3, vLen_rl3, vTuple_rl3, vList_rl3, vSum_rl3, vAny_rl3, vAll_rl3, vSorted2_rl3, vMin_rl3, vMax_rl3, vSorted_rl3, vSorted2_rd3, vEq_rl3, vNe_rl3, asT_rl3, vAppend_r3, vExtend_r3, onTy_r3, vIn2_rl4, vIn2_rd4, vNotIn2_rl4, vNotIn2_rd4, vSub2_rl4, vSub2_rd4, vLen_rl4, vTuple_rl4, vList_rl4, vSum_rl4, vAny_rl4, vAll_rl4, vSorted2_rl4, vMin_rl4, vMax_rl4, vSorted_rl4, vSorted2_rd4, vEq_rl4, vNe_rl4, asT_rl4, vAppend_r4, vExtend_r4, onTy_r4, all_tt, all_mapA, any_mapA, cut1, oneD, in_dct, notin_dct, dcS_vals, ev_mdc, dcE_ok, ↓dcp_mapM]
      rw [decide_eq_false (by omega)]
theorem nodup_cast {l : List Nat} (h : l.Nodup) : (l.map fun (t : Nat) => (t : Int)).Nodup := by
  induction l with
  | nil => exact List.nodup_nil
  | cons x xs ih =>
    rw [List.nodup_cons] at h
    rw [List.map_cons, List.nodup_cons]
    refine ⟨fun z => ?_, ih h.2⟩
    obtain ⟨y, hy, e⟩ := List.mem_map.mp z
    have : y = x := by omega
    exact h.1 (this ▸ hy)
def insN (x : Nat) : List Nat → List Nat
  | [] => [x]
  | y :: ys => if y < x then y :: insN x ys else x :: y :: ys
def sN : List Nat → List Nat
  | [] => []
  | x :: xs => insN x (sN xs)
theorem insN_perm (x : Nat) : ∀ l, List.Perm (insN x l) (x :: l)
  | [] => .refl _
  | y :: ys => by
    unfold insN
    by_cases h : y < x
    · rw [if_pos h]
      exact ((insN_perm x ys).cons y).trans (.swap x y ys)
    · rw [if_neg h]
theorem sN_perm : ∀ l, List.Perm (sN l) l
  | [] => .refl _
  | x :: xs => (insN_perm x (sN xs)).trans ((sN_perm xs).cons x)
theorem insI_cast (x : Nat) : ∀ l : List Nat, insI (x : Int) (l.map fun (t : Nat) => (t : Int)) = (insN x l).map fun (t : Nat) => (t : Int)
  | [] => rfl
  | y :: ys => by
    rw [List.map_cons]
    unfold insI insN
    by_cases h : y < x
    · rw [if_pos h, if_pos (by omega), insI_cast x ys]; rfl
    · rw [if_neg h, if_neg (by omega)]; rfl
theorem sI_cast : ∀ l : List Nat, sI (l.map fun (t : Nat) => (t : Int)) = (sN l).map fun (t : Nat) => (t : Int)
  | [] => rfl
  | x :: xs => by
    rw [List.map_cons]
    unfold sI sN
    rw [sI_cast xs, insI_cast]
theorem intK_IK : ∀ is : List Int, intK (IK is) = some is
  | [] => rfl
  | i :: is => by
    show (intK (IK is)).map (i :: ·) = _
    rw [intK_IK is]; rfl
theorem sorted_eK (is : List Nat) (vs : List Val) (h : is.length < 64) (μ : Mu) : vSorted2 [.dct (eK is) vs] μ = .ok ((sN is).map eN) μ := by
  show (match intK (IK (is.map fun (t : Nat) => (t : Int))) with
    | some is => if is.length < 64 then Res.ok ((sI is).map Val.int) μ else .stuck
    | none => .stuck) = _
  rw [intK_IK]
  dsimp only
  rw [if_pos (by rw [List.length_map]; exact h), sI_cast, List.map_map]
  rfl
theorem joined_ok {ts : List (List Deed)} (hs : Small ts) {p i : Nat} (hp : p < ts.length) (hi : i < (ts[p]!).length) : ∃ is vs row, JI ts.length p is vs row ∧ ∀ μ, callD f_joined_to [eX ts, .int (p : Int), .int (i : Int)] μ = .ok (.dct (eK is) vs) μ := by
  have hn := hs.n
  have hpl := hs.get hp
  have hf0 : (oth ts.length p).length ≤ ts.length := oth_len _ _
  have hsz : ((List.range ts.length).filter fun (t : Nat) => !((t : Int) == (p : Int))).length ≤ LIM := by
    show (oth ts.length p).length ≤ LIM
    unfold LIM; omega
  let is0 := (oth ts.length p).filter fun t => rt [(ts[p]!)[i]!] (ts[t]!)
  let vs0 : List Val := is0.map fun t => Val.tup [eN t]
  have hsub : ∀ t ∈ is0, t ∈ oth ts.length p := fun t h => (List.mem_filter.mp h).1
  have hnd0 : is0.Nodup := (oth_nd _ _).filter _
  have hdc : ∀ μ, dcp (fun (x : Nat) μ => if rt [(ts[p]!)[i]!] (ts[x]!) = true then Res.ok (some (eN x, Val.tup [eN x])) μ else .ok none μ) ((List.range ts.length).filter fun (t : Nat) => !((t : Int) == (p : Int))) [] [] μ = .ok (eK is0, vs0) μ := by
    intro μ
    have := dcp_if (fun t => rt [(ts[p]!)[i]!] (ts[t]!)) (fun (t : Nat) => (t : Int)) (fun t => Val.tup [eN t]) (oth ts.length p) [] [] μ (nodup_cast (oth_nd _ _)) (fun _ _ z => by cases z) (by unfold LIM; simp; omega)
    exact this
  have hlen0 : is0.length ≤ 4 := by
    have : is0.length ≤ (oth ts.length p).length := List.length_filter_le _ _
    omega
  have hso : ∀ μ, vSorted2 [.dct (eK is0) vs0] μ = .ok ((sN is0).map eN) μ := sorted_eK is0 vs0 (by omega)
  have J0 : JI ts.length p is0 vs0 (sN is0) := ⟨by simp [vs0], (sN_perm is0).nodup_iff.mpr hnd0, fun t h => hsub t ((sN_perm is0).mem_iff.mp h), fun t => (sN_perm is0).mem_iff.symm, hnd0, fun v hv => by
    obtain ⟨t, ht, rfl⟩ := List.mem_map.mp hv
    exact ⟨[t], rfl, by have := List.length_pos_of_mem ht; show 1 ≤ is0.length; omega⟩⟩
  obtain ⟨is, vs, row, a, W, J, e⟩ := join_while hs J0 (some (.int p)) (some (.int i)) none
  refine ⟨is, vs, row, J, fun μ => callD_pure (v := .ref 0) (μ' := [.dct (eK is) vs, .lst (row.map eN)]) ?_ (defB_rt rfl ?_) ?_⟩
  · exact Nat.max_eq_zero_iff.mpr ⟨ups_map0 eR up_eR ts, rfl⟩
  · show b_joined_to [some (eX ts), some (.int p), some (.int i), none, none, none, none, none] [] = _
    unfold b_joined_to
    have e' : swhile c2_joined_to (sseq (sfor (iseq (mvar 3)) (.nm 7)
      l1_joined_to)
    (sseq (saug (fun i j => i + j) 6 (mcst (.int 1)))
    (sskip))) FUEL [some (eX ts), some (.int p), some (.int i), some (.lst (((List.range ts.length).filter fun (t : Nat) => !((t : Int) == (p : Int))).map eN)), some (.ref 0), some (.ref 1), some (.int 0), none] [.dct (eK is0) vs0, .lst ((sN is0).map eN)] = .nx [some (eX ts), some (.int p), some (.int i), some (.lst ((oth ts.length p).map eN)), some (.ref 0), some (.ref 1), some (.int (a : Nat)), W] [.dct (eK is) vs, .lst (row.map eN)] := e
    simp (config := {implicitDefEqProofs := false}) (disch := (first | (with_reducible assumption) | omega | (with_reducible solve_by_elim (maxDepth := 3)) | (with_reducible exact lt_range (by with_reducible assumption)) | (with_reducible exact lt_rangeF (by with_reducible assumption)) | (with_reducible exact lt_range1 (by with_reducible assumption)) | (with_reducible exact lt_range1F (by with_reducible assumption)) | (simp only [List.length_map, List.length_range, List.length_range', List.length_cons, List.length_nil, List.length_append, LIM]; omega) | (simp only [List.length_map]; with_reducible assumption) | (simp only [List.length_map]; with_reducible solve_by_elim (maxDepth := 3)) | (simp only [List.length_map]; refine len_filter ?_; simp only [List.length_map, List.length_range, List.length_range', LIM]; omega))) only [ev_op2, ev_op1, ev_imm, ev_mut, ev_call, ev_anil, ev_acons, ev_cst, ev_seq, ev_skip, ev_asg, ev_ret, ev_drop, ev_if, ev_not, ev_and, ev_or, ev_ife, ev_bool, ev_truth, ev_mvar, lookR_ok, bnd_ok, bnd_exc, flw_ok, flw_exc, seq_nx', seq_rt', seq_exc', asB_bl, asT_bl, List.getElem?_cons_zero, List.getElem?_cons_succ, List.set_cons_zero, List.set_cons_succ, if_true, if_false, Bool.false_eq_true, bindK_some, cmpS_vals, catS_vals, ev_mlc, ev_mlc2, bndS_ok, ev_mraw, ↓cmp_mapM, ↓cat2_mapM, cmpM_no, catM_no, dcpM_no, cmp_pure, cmp_if, cat2_pure, cat2_if, bindT_nm, bindT_tup, bindT_lst, bindTs_nil, bindO_some, bindTs_cons, wipe_nil, wipe_cons, ev_iseq, asSrc_lst, asSrc_rol, asSrc_tup, oneC, oneI, List.map_cons, List.map_nil, ev_mand, ev_mor, ev_mnot, ev_tife, ev_tyes, ev_chain, ev_op2F, ev_op1F, ev_meth, ev_tupT, ev_lstL, ev_for, ev_setI, ev_raise, ev_brk, ev_cnt, ev_retN, ev_try, ev_asgT, ev_aug, ev_irng1, ev_irng2, ev_ienum, ev_izip, ev_slice, ev_onone, ev_osome, mkT_ok, mkL_ok, and_bl, or_bl, and_blF, and_t, or_t, chB_bl, putF_some, tryK_rt, tryK_nx, noX_rt, noX_nx, bindF_some, augK_ok, rg1_nat, rg2_zero, rg2_one, en1_tup, en1_lst, enums_map, zips_map, zp1_tup, zp1_lst, asI_int, slice_tup, slice_lst, slice_lst', ix_tupM, ix_lstM, len_tup, len_lst, tup_lst, tup_tup, list_lst, list_tup, shortOk, add_tup, add_lst, add_int, sub_int, neg_int, int_int, int_bl, eq_int, ne_int, lt_int, le_int, gt_int, ge_intE, eq_bl, ne_bl, isN_ok, notN_ok, List.length_map, List.map_map, List.length_cons, List.length_nil, isi_tup_tuple, isi_tup_list, isi_tup_int, isi_tup_str, isi_tup_bool, isi_tup_dict, isi_lst_tuple, isi_lst_list, isi_lst_int, isi_lst_str, isi_lst_bool, isi_lst_dict, isi_int_tuple, isi_int_list, isi_int_int, isi_int_str, isi_int_bool, isi_int_dict, isi_str_tuple, isi_str_list, isi_str_int, isi_str_str, isi_str_bool, isi_str_dict, isi_bl_tuple, isi_bl_list, isi_bl_int, isi_bl_str, isi_bl_bool, isi_bl_dict, isi_non_tuple, isi_non_list, isi_non_int, isi_non_str, isi_non_bool, isi_non_dict, isn_tup, isn_lst, isn_int, isn_str, isn_bl, isn_non, ixt0, ixt1, ixt2, ixt3, ixt4, ixt5, ixl0, ixl1, ixl2, ixl3, ixl4, ixl5, in_tupN, in_lstN, notin_tupN, notin_lstN, forS_vals, Bool.not_true, Bool.not_false, Bool.false_or, Bool.true_or, Bool.or_false, Bool.or_true, Bool.and_true, Bool.true_and, Bool.and_false, Bool.false_and, List.nil_append, List.cons_append, vIn2_rl0, vIn2_rd0, vNotIn2_rl0, vNotIn2_rd0, vSub2_rl0, vSub2_rd0, vLen_rl0, vTuple_rl0, vList_rl0, vSum_rl0, vAny_rl0, vAll_rl0, vSorted2_rl0, vMin_rl0, vMax_rl0, vSorted_rl0, vSorted2_rd0, vEq_rl0, vNe_rl0, asT_rl0, vAppend_r0, vExtend_r0, onTy_r0, vIn2_rl1, vIn2_rd1, vNotIn2_rl1, vNotIn2_rd1, vSub2_rl1, vSub2_rd1, vLen_rl1, vTuple_rl1, vList_rl1, vSum_rl1, vAny_rl1, vAll_rl1, vSorted2_rl1, vMin_rl1, vMax_rl1, vSorted_rl1, vSorted2_rd1, vEq_rl1, vNe_rl1, asT_rl1, vAppend_r1, vExtend_r1, onTy_r1, vIn2_rl2, vIn2_rd2, vNotIn2_rl2, vNotIn2_rd2, vSub2_rl2, vSub2_rd2, vLen_rl2, vTuple_rl2, vList_rl2, vSum_rl2, vAny_rl2, vAll_rl2, vSorted2_rl2, vMin_rl2, vMax_rl2, vSorted_rl2, vSorted2_rd2, vEq_rl2, vNe_rl2, asT_rl2, vAppend_r2, vExtend_r2, onTy_r2, vIn2_rl3, vIn2_rd3, vNotIn2_rl3, vNotIn2_rd3, vSub2_rl3, vSub2_rd3, vLen_rl3, vTuple_rl3, vList_rl3, vSum_rl3, vAny_rl3, vAll_rl3, vSorted2_rl3, vMin_rl3, vMax_rl3, vSorted_rl3, vSorted2_rd3, vEq_rl3, vNe_rl3, asT_rl3, vAppend_r3, vExtend_r3, onTy_r3, vIn2_rl4, vIn2_rd4, vNotIn2_rl4, vNotIn2_rd4, vSub2_rl4, vSub2_rd4, vLen_rl4, vTuple_rl4, vList_rl4, vSum_rl4, vAny_rl4, vAll_rl4, vSorted2_rl4, vMin_rl4, vMax_rl4, vSorted_rl4, vSorted2_rd4, vEq_rl4, vNe_rl4, asT_rl4, vAppend_r4, vExtend_r4, onTy_r4, all_tt, all_mapA, any_mapA, cut1, oneD, in_dct, notin_dct, dcS_vals, ev_mdc, dcE_ok, ↓dcp_mapM, rt_one hs, hdc, hso, e', List.length_nil, List.length_cons, List.nil_append, List.cons_append]
  · show freeze [.dct (eK is) vs, .lst (row.map eN)] 0 (.ref 0) = some (.dct (eK is) vs)
    show (fzs 0 (fzr none [.dct (eK is) vs, .lst (row.map eN)] 0 7) vs).map (Val.dct (eK is)) = _
    rw [fzs_cl]
    · rfl
    · exact cls_of fun v hv => by
        obtain ⟨l, rfl, _⟩ := J.v v hv
        exact cls_of fun v hv => by
          obtain ⟨x, _, rfl⟩ := List.mem_map.mp hv; rfl
def dG (is : List Nat) (vs : List Val) (t : Nat) : Val := (dFind (.k (.inl (t : Int))) (eK is) vs).getD .non
theorem dG_ok {is : List Nat} {vs : List Val} {t : Nat} (h : is.length = vs.length) (ht : t ∈ is) : dG is vs t ∈ vs ∧ ∀ μ, vSub2 (.dct (eK is) vs) (.int (t : Int)) μ = .ok (dG is vs t) μ := by
  obtain ⟨v, m, e⟩ := (dFind_in (is.map fun (t : Nat) => (t : Int)) vs t (by rw [List.length_map]; exact h)).1 (mem_cast.mpr ht)
  have e' : dG is vs t = v := by unfold dG eK; rw [e]; rfl
  rw [e']
  refine ⟨m, fun μ => ?_⟩
  show (if isKs (IK _) then (match dFind (.k (.inl (t : Int))) (IK (is.map fun (t : Nat) => (t : Int))) vs with
      | some v => Res.ok v μ
      | none => .stuck) else .stuck) = _
  rw [isKs_IK, if_pos rfl, e]
theorem rt_ixO {ts : List (List Deed)} (h : Small ts) (d : Deed) {p b : Nat} (hb : b ∈ oth ts.length p) (μ : Mu) : callD f_rows_touch [.lst [eD d], eR (ts[b]!)] μ = .ok (.bl (rt [d] (ts[b]!))) μ := rt_one h d (mem_oth hb) μ
theorem ring_ok {ts : List (List Deed)} (hs : Small ts) {p i k : Nat} (hp : p < ts.length) (hi : i < (ts[p]!).length) (hk : k < (ts[p]!).length) : ∃ v, (v = .non ∨ ∃ l : List Nat, v = .tup (l.map eN)) ∧ ∀ μ, callD f_ring_between [eX ts, .int (p : Int), .int (i : Int), .int (k : Int)] μ = .ok v μ := by
  obtain ⟨is, vs, row, J, hj⟩ := joined_ok hs hp hi
  have hil := J.leni
  have hn := hs.n
  have hpl := hs.get hp
  have hso := sorted_eK is vs (by omega)
  have hm : ∀ t ∈ sN is, t ∈ is := fun t h => (sN_perm is).mem_iff.mp h
  have hmo : ∀ t ∈ sN is, t < ts.length := fun t h => mem_oth (J.o t ((J.k t).mp (hm t h)))
  have hrt : ∀ t, t ∈ sN is → ∀ μ, callD f_rows_touch [.lst [eD ((ts[p]!)[k]!)], eR (ts[t]!)] μ = .ok (.bl (rt [(ts[p]!)[k]!] (ts[t]!))) μ := fun t h μ => rt_one hs _ (hmo t h) μ
  have hg : ∀ t, t ∈ sN is → ∀ μ, vSub2 (.dct (eK is) vs) (.int (t : Int)) μ = .ok (dG is vs t) μ := fun t h => (dG_ok J.l (hm t h)).2
  let good := ((sN is).filter fun t => rt [(ts[p]!)[k]!] (ts[t]!)).map (dG is vs)
  have hgl : good.length ≤ 4 := by
    show (List.map _ _).length ≤ 4
    rw [List.length_map]
    have := List.length_filter_le (fun t => rt [(ts[p]!)[k]!] (ts[t]!)) (sN is)
    have := (sN_perm is).length_eq
    omega
  have hgl2 : (((sN is).filter fun t => rt [(ts[p]!)[k]!] (ts[t]!))).length ≤ LIM := by
    have : (good.length) = (((sN is).filter fun t => rt [(ts[p]!)[k]!] (ts[t]!))).length := List.length_map _
    unfold LIM; omega
  have hval : ∀ v ∈ good, ∃ l : List Nat, v = .tup (l.map eN) := fun v hv => by
    obtain ⟨t, ht, rfl⟩ := List.mem_map.mp hv
    have ht := (List.mem_filter.mp ht).1
    obtain ⟨l, e, _⟩ := J.v _ (dG_ok J.l (hm t ht)).1
    exact ⟨l, e⟩
  have hbody : ∀ v, (good = [] → v = .non) → (∀ a r, good = a :: r → v = a) → b_ring_between [some (eX ts), some (.int p), some (.int i), some (.int k), none, none, none] [] = .rt v [] := by
    intro v h1 h2
    unfold b_ring_between
    simp (config := {implicitDefEqProofs := false}) (disch := (first | (with_reducible assumption) | omega | (with_reducible solve_by_elim (maxDepth := 3)) | (with_reducible exact lt_range (by with_reducible assumption)) | (with_reducible exact lt_rangeF (by with_reducible assumption)) | (with_reducible exact lt_range1 (by with_reducible assumption)) | (with_reducible exact lt_range1F (by with_reducible assumption)) | (simp only [List.length_map, List.length_range, List.length_range', List.length_cons, List.length_nil, List.length_append, LIM]; omega) | (simp only [List.length_map]; with_reducible assumption) | (simp only [List.length_map]; with_reducible solve_by_elim (maxDepth := 3)) | (simp only [List.length_map]; refine len_filter ?_; simp only [List.length_map, List.length_range, List.length_range', LIM]; omega))) only [ev_op2, ev_op1, ev_imm, ev_mut, ev_call, ev_anil, ev_acons, ev_cst, ev_seq, ev_skip, ev_asg, ev_ret, ev_drop, ev_if, ev_not, ev_and, ev_or, ev_ife, ev_bool, ev_truth, ev_mvar, lookR_ok, bnd_ok, bnd_exc, flw_ok, flw_exc, seq_nx', seq_rt', seq_exc', asB_bl, asT_bl, List.getElem?_cons_zero, List.getElem?_cons_succ, List.set_cons_zero, List.set_cons_succ, if_true, if_false, Bool.false_eq_true, bindK_some, cmpS_vals, catS_vals, ev_mlc, ev_mlc2, bndS_ok, ev_mraw, ↓cmp_mapM, ↓cat2_mapM, cmpM_no, catM_no, dcpM_no, cmp_pure, cmp_if, cat2_pure, cat2_if, bindT_nm, bindT_tup, bindT_lst, bindTs_nil, bindO_some, bindTs_cons, wipe_nil, wipe_cons, ev_iseq, asSrc_lst, asSrc_rol, asSrc_tup, oneC, oneI, List.map_cons, List.map_nil, ev_mand, ev_mor, ev_mnot, ev_tife, ev_tyes, ev_chain, ev_op2F, ev_op1F, ev_meth, ev_tupT, ev_lstL, ev_for, ev_setI, ev_raise, ev_brk, ev_cnt, ev_retN, ev_try, ev_asgT, ev_aug, ev_irng1, ev_irng2, ev_ienum, ev_izip, ev_slice, ev_onone, ev_osome, mkT_ok, mkL_ok, and_bl, or_bl, and_blF, and_t, or_t, chB_bl, putF_some, tryK_rt, tryK_nx, noX_rt, noX_nx, bindF_some, augK_ok, rg1_nat, rg2_zero, rg2_one, en1_tup, en1_lst, enums_map, zips_map, zp1_tup, zp1_lst, asI_int, slice_tup, slice_lst, slice_lst', ix_tupM, ix_lstM, len_tup, len_lst, tup_lst, tup_tup, list_lst, list_tup, shortOk, add_tup, add_lst, add_int, sub_int, neg_int, int_int, int_bl, eq_int, ne_int, lt_int, le_int, gt_int, ge_intE, eq_bl, ne_bl, isN_ok, notN_ok, List.length_map, List.map_map, List.length_cons, List.length_nil, isi_tup_tuple, isi_tup_list, isi_tup_int, isi_tup_str, isi_tup_bool, isi_tup_dict, isi_lst_tuple, isi_lst_list, isi_lst_int, isi_lst_str, isi_lst_bool, isi_lst_dict, isi_int_tuple, isi_int_list, isi_int_int, isi_int_str, isi_int_bool, isi_int_dict, isi_str_tuple, isi_str_list, isi_str_int, isi_str_str, isi_str_bool, isi_str_dict, isi_bl_tuple, isi_bl_list, isi_bl_int, isi_bl_str, isi_bl_bool, isi_bl_dict, isi_non_tuple, isi_non_list, isi_non_int, isi_non_str, isi_non_bool, isi_non_dict, isn_tup, isn_lst, isn_int, isn_str, isn_bl, isn_non, ixt0, ixt1, ixt2, ixt3, ixt4, ixt5, ixl0, ixl1, ixl2, ixl3, ixl4, ixl5, in_tupN, in_lstN, notin_tupN, notin_lstN, forS_vals, Bool.not_true, Bool.not_false, Bool.false_or, Bool.true_or, Bool.or_false, Bool.or_true, Bool.and_true, Bool.true_and, Bool.and_false, Bool.false_and, List.nil_append, List.cons_append, vIn2_rl0, vIn2_rd0, vNotIn2_rl0, vNotIn2_rd0, vSub2_rl0, vSub2_rd0, vLen_rl0, vTuple_rl0, vList_rl0, vSum_rl0, vAny_rl0, vAll_rl0, vSorted2_rl0, vMin_rl0, vMax_rl0, vSorted_rl0, vSorted2_rd0, vEq_rl0, vNe_rl0, asT_rl0, vAppend_r0, vExtend_r0, onTy_r0, vIn2_rl1, vIn2_rd1, vNotIn2_rl1, vNotIn2_rd1, vSub2_rl1, vSub2_rd1, vLen_rl1, vTuple_rl1, vList_rl1, vSum_rl1, vAny_rl1, vAll_rl1, vSorted2_rl1, vMin_rl1, vMax_rl1, vSorted_rl1, vSorted2_rd1, vEq_rl1, vNe_rl1, asT_rl1, vAppend_r1, vExtend_r1, onTy_r1, vIn2_rl2, vIn2_rd2, vNotIn2_rl2, vNotIn2_rd2, vSub2_rl2, vSub2_rd2, vLen_rl2, vTuple_rl2, vList_rl2, vSum_rl2, vAny_rl2, vAll_rl2, vSorted2_rl2, vMin_rl2, vMax_rl2, vSorted_rl2, vSorted2_rd2, vEq_rl2, vNe_rl2, asT_rl2, vAppend_r2, vExtend_r2, onTy_r2, vIn2_rl3, vIn2_rd3, vNotIn2_rl3, vNotIn2_rd3, vSub2_rl3, vSub2_rd3, vLen_rl3, vTuple_rl3, vList_rl3, vSum_rl3, vAny_rl3, vAll_rl3, vSorted2_rl3, vMin_rl3, vMax_rl3, vSorted_rl3, vSorted2_rd3, vEq_rl3, vNe_rl3, asT_rl3, vAppend_r3, vExtend_r3, onTy_r3, vIn2_rl4, vIn2_rd4, vNotIn2_rl4, vNotIn2_rd4, vSub2_rl4, vSub2_rd4, vLen_rl4, vTuple_rl4, vList_rl4, vSum_rl4, vAny_rl4, vAll_rl4, vSorted2_rl4, vMin_rl4, vMax_rl4, vSorted_rl4, vSorted2_rd4, vEq_rl4, vNe_rl4, asT_rl4, vAppend_r4, vExtend_r4, onTy_r4, all_tt, all_mapA, any_mapA, cut1, oneD, in_dct, notin_dct, dcS_vals, ev_mdc, dcE_ok, ↓dcp_mapM, hj, hso, hrt, hg]
    cases hL : (sN is).filter fun t => rt [(ts[p]!)[k]!] (ts[t]!) with
    | nil => rw [h1 (by show List.map _ _ = []; rw [hL]; rfl)]; rfl
    | cons a r =>
      rw [h2 (dG is vs a) (r.map (dG is vs)) (by show List.map _ _ = _; rw [hL]; rfl)]
      simp only [List.length_cons]
      rw [if_pos (decide_eq_true (show (0 : Int) < ((r.length + 1 : Nat) : Int) by omega))]
      simp (config := {implicitDefEqProofs := false}) (disch := (first | (with_reducible assumption) | omega | (with_reducible solve_by_elim (maxDepth := 3)) | (with_reducible exact lt_range (by with_reducible assumption)) | (with_reducible exact lt_rangeF (by with_reducible assumption)) | (with_reducible exact lt_range1 (by with_reducible assumption)) | (with_reducible exact lt_range1F (by with_reducible assumption)) | (simp only [List.length_map, List.length_range, List.length_range', List.length_cons, List.length_nil, List.length_append, LIM]; omega) | (simp only [List.length_map]; with_reducible assumption) | (simp only [List.length_map]; with_reducible solve_by_elim (maxDepth := 3)) | (simp only [List.length_map]; refine len_filter ?_; simp only [List.length_map, List.length_range, List.length_range', LIM]; omega))) only [ev_op2, ev_op1, ev_imm, ev_mut, ev_call, ev_anil, ev_acons, ev_cst, ev_seq, ev_skip, ev_asg, ev_ret, ev_drop, ev_if, ev_not, ev_and, ev_or, ev_ife, ev_bool, ev_truth, ev_mvar, lookR_ok, bnd_ok, bnd_exc, flw_ok, flw_exc, seq_nx', seq_rt', seq_exc', asB_bl, asT_bl, List.getElem?_cons_zero, List.getElem?_cons_succ, List.set_cons_zero, List.set_cons_succ, if_true, if_false, Bool.false_eq_true, bindK_some, cmpS_vals, catS_vals, ev_mlc, ev_mlc2, bndS_ok, ev_mraw, ↓cmp_mapM, ↓cat2_mapM, cmpM_no, catM_no, dcpM_no, cmp_pure, cmp_if, cat2_pure, cat2_if, bindT_nm, bindT_tup, bindT_lst, bindTs_nil, bindO_some, bindTs_cons, wipe_nil, wipe_cons, ev_iseq, asSrc_lst, asSrc_rol, asSrc_tup, oneC, oneI, List.map_cons, List.map_nil, ev_mand, ev_mor, ev_mnot, ev_tife, ev_tyes, ev_chain, ev_op2F, ev_op1F, ev_meth, ev_tupT, ev_lstL, ev_for, ev_setI, ev_raise, ev_brk, ev_cnt, ev_retN, ev_try, ev_asgT, ev_aug, ev_irng1, ev_irng2, ev_ienum, ev_izip, ev_slice, ev_onone, ev_osome, mkT_ok, mkL_ok, and_bl, or_bl, and_blF, and_t, or_t, chB_bl, putF_some, tryK_rt, tryK_nx, noX_rt, noX_nx, bindF_some, augK_ok, rg1_nat, rg2_zero, rg2_one, en1_tup, en1_lst, enums_map, zips_map, zp1_tup, zp1_lst, asI_int, slice_tup, slice_lst, slice_lst', ix_tupM, ix_lstM, len_tup, len_lst, tup_lst, tup_tup, list_lst, list_tup, shortOk, add_tup, add_lst, add_int, sub_int, neg_int, int_int, int_bl, eq_int, ne_int, lt_int, le_int, gt_int, ge_intE, eq_bl, ne_bl, isN_ok, notN_ok, List.length_map, List.map_map, List.length_cons, List.length_nil, isi_tup_tuple, isi_tup_list, isi_tup_int, isi_tup_str, isi_tup_bool, isi_tup_dict, isi_lst_tuple, isi_lst_list, isi_lst_int, isi_lst_str, isi_lst_bool, isi_lst_dict, isi_int_tuple, isi_int_list, isi_int_int, isi_int_str, isi_int_bool, isi_int_dict, isi_str_tuple, isi_str_list, isi_str_int, isi_str_str, isi_str_bool, isi_str_dict, isi_bl_tuple, isi_bl_list, isi_bl_int, isi_bl_str, isi_bl_bool, isi_bl_dict, isi_non_tuple, isi_non_list, isi_non_int, isi_non_str, isi_non_bool, isi_non_dict, isn_tup, isn_lst, isn_int, isn_str, isn_bl, isn_non, ixt0, ixt1, ixt2, ixt3, ixt4, ixt5, ixl0, ixl1, ixl2, ixl3, ixl4, ixl5, in_tupN, in_lstN, notin_tupN, notin_lstN, forS_vals, Bool.not_true, Bool.not_false, Bool.false_or, Bool.true_or, Bool.or_false, Bool.or_true, Bool.and_true, Bool.true_and, Bool.and_false, Bool.false_and, List.nil_append, List.cons_append, vIn2_rl0, vIn2_rd0, vNotIn2_rl0, vNotIn2_rd0, vSub2_rl0, vSub2_rd0, vLen_rl0, vTuple_rl0, vList_rl0, vSum_rl0, vAny_rl0, vAll_rl0, vSorted2_rl0, vMin_rl0, vMax_rl0, vSorted_rl0, vSorted2_rd0, vEq_rl0, vNe_rl0, asT_rl0, vAppend_r0, vExtend_r0, onTy_r0, vIn2_rl1, vIn2_rd1, vNotIn2_rl1, vNotIn2_rd1, vSub2_rl1, vSub2_rd1, vLen_rl1, vTuple_rl1, vList_rl1, vSum_rl1, vAny_rl1, vAll_rl1, vSorted2_rl1, vMin_rl1, vMax_rl1, vSorted_rl1, vSorted2_rd1, vEq_rl1, vNe_rl1, asT_rl1, vAppend_r1, vExtend_r1, onTy_r1, vIn2_rl2, vIn2_rd2, vNotIn2_rl2, vNotIn2_rd2, vSub2_rl2, vSub2_rd2, vLen_rl2, vTuple_rl2, vList_rl2, vSum_rl2, vAny_rl2, vAll_rl2, vSorted2_rl2, vMin_rl2, vMax_rl2, vSorted_rl2, vSorted2_rd2, vEq_rl2, vNe_rl2, asT_rl2, vAppend_r2, vExtend_r2, onTy_r2, vIn2_rl3, vIn2_rd3, vNotIn2_rl3, vNotIn2_rd3, vSub2_rl3, vSub2_rd3, vLen_rl3, vTuple_rl3, vList_rl3, vSum_rl3, vAny_rl3, vAll_rl3, vSorted2_rl3, vMin_rl3, vMax_rl3, vSorted_rl3, vSorted2_rd3, vEq_rl3, vNe_rl3, asT_rl3, vAppend_r3, vExtend_r3, onTy_r3, vIn2_rl4, vIn2_rd4, vNotIn2_rl4, vNotIn2_rd4, vSub2_rl4, vSub2_rd4, vLen_rl4, vTuple_rl4, vList_rl4, vSum_rl4, vAny_rl4, vAll_rl4, vSorted2_rl4, vMin_rl4, vMax_rl4, vSorted_rl4, vSorted2_rd4, vEq_rl4, vNe_rl4, asT_rl4, vAppend_r4, vExtend_r4, onTy_r4, all_tt, all_mapA, any_mapA, cut1, oneD, in_dct, notin_dct, dcS_vals, ev_mdc, dcE_ok, ↓dcp_mapM]
  have hup : ups [eX ts, .int (p : Int), .int (i : Int), .int (k : Int)] = 0 := Nat.max_eq_zero_iff.mpr ⟨ups_map0 eR up_eR ts, rfl⟩
  cases hgd : good with
  | nil => exact ⟨.non, .inl rfl, fun μ => callD_pure (v := .non) (μ' := []) hup (defB_rt rfl (hbody .non (fun _ => rfl) fun a r z => by rw [hgd] at z; cases z)) rfl⟩
  | cons a r =>
    obtain ⟨l, e⟩ := hval a (by rw [hgd]; exact List.mem_cons_self)
    exact ⟨a, .inr ⟨l, e⟩, fun μ => callD_pure (v := a) (μ' := []) hup (defB_rt rfl (hbody a (fun z => by rw [hgd] at z; cases z) fun a' r' z => by rw [hgd] at z; cases z; rfl)) (freeze_cl (by rw [e]; exact cls_of fun v hv => by obtain ⟨x, _, rfl⟩ := List.mem_map.mp hv; rfl))⟩
end Y

namespace Y
open G PySem
structure GoodR (r : List Deed) : Prop where
  a : 1 ≤ r.length
  b : r.length ≤ 5
  x : ∀ d ∈ r, d.x < 5
structure Good (ts : List (List Deed)) : Prop where
  a : 1 ≤ ts.length
  b : ts.length ≤ 4
  r : ∀ t ∈ ts, GoodR t
theorem Good.small {ts : List (List Deed)} (h : Good ts) : Small ts := ⟨h.b, fun t ht => (h.r t ht).b⟩
theorem up_eX (ts : List (List Deed)) : up (eX ts) = 0 := ups_map0 eR up_eR ts
theorem whole_int (i : Int) (μ : Mu) : callD f_is_whole [.int i] μ = .ok (.bl true) μ := by
  refine call_rt (ups1 rfl) rfl (v := .bl true) (μ' := []) ?_ rfl μ
  show b_is_whole [some (.int i)] [] = _
  unfold b_is_whole
  simp (config := {implicitDefEqProofs := false}) (disch := (first | (with_reducible assumption) | omega | (with_reducible solve_by_elim (maxDepth := 3)) | (with_reducible exact lt_range (by with_reducible assumption)) | (with_reducible exact lt_rangeF (by with_reducible assumption)) | (with_reducible exact lt_range1 (by with_reducible assumption)) | (with_reducible exact lt_range1F (by with_reducible assumption)) | (simp only [List.length_map, List.length_range, List.length_range', List.length_cons, List.length_nil, List.length_append, LIM]; omega) | (simp only [List.length_map]; with_reducible assumption) | (simp only [List.length_map]; with_reducible solve_by_elim (maxDepth := 3)) | (simp only [List.length_map]; refine len_filter ?_; simp only [List.length_map, List.length_range, List.length_range', LIM]; omega))) only [ev_op2, ev_op1, ev_imm, ev_mut, ev_call, ev_anil, ev_acons, ev_cst, ev_seq, ev_skip, ev_asg, ev_ret, ev_drop, ev_if, ev_not, ev_and, ev_or, ev_ife, ev_bool, ev_truth, ev_mvar, lookR_ok, bnd_ok, bnd_exc, flw_ok, flw_exc, seq_nx', seq_rt', seq_exc', asB_bl, asT_bl, List.getElem?_cons_zero, List.getElem?_cons_succ, List.set_cons_zero, List.set_cons_succ, if_true, if_false, Bool.false_eq_true, bindK_some, cmpS_vals, catS_vals, ev_mlc, ev_mlc2, bndS_ok, ev_mraw, ↓cmp_mapM, ↓cat2_mapM, cmpM_no, catM_no, dcpM_no, cmp_pure, cmp_if, cat2_pure, cat2_if, bindT_nm, bindT_tup, bindT_lst, bindTs_nil, bindO_some, bindTs_cons, wipe_nil, wipe_cons, ev_iseq, asSrc_lst, asSrc_rol, asSrc_tup, oneC, oneI, List.map_cons, List.map_nil, ev_mand, ev_mor, ev_mnot, ev_tife, ev_tyes, ev_chain, ev_op2F, ev_op1F, ev_meth, ev_tupT, ev_lstL, ev_for, ev_setI, ev_raise, ev_brk, ev_cnt, ev_retN, ev_try, ev_asgT, ev_aug, ev_irng1, ev_irng2, ev_ienum, ev_izip, ev_slice, ev_onone, ev_osome, mkT_ok, mkL_ok, and_bl, or_bl, and_blF, and_t, or_t, chB_bl, putF_some, tryK_rt, tryK_nx, noX_rt, noX_nx, bindF_some, augK_ok, rg1_nat, rg2_zero, rg2_one, en1_tup, en1_lst, enums_map, zips_map, zp1_tup, zp1_lst, asI_int, slice_tup, slice_lst, slice_lst', ix_tupM, ix_lstM, len_tup, len_lst, tup_lst, tup_tup, list_lst, list_tup, shortOk, add_tup, add_lst, add_int, sub_int, neg_int, int_int, int_bl, eq_int, ne_int, lt_int, le_int, gt_int, ge_intE, eq_bl, ne_bl, isN_ok, notN_ok, List.length_map, List.map_map, List.length_cons, List.length_nil, isi_tup_tuple, isi_tup_list, isi_tup_int, isi_tup_str, isi_tup_bool, isi_tup_dict, isi_lst_tuple, isi_lst_list, isi_lst_int, isi_lst_str, isi_lst_bool, isi_lst_dict, isi_int_tuple, isi_int_list, isi_int_int, isi_int_str, isi_int_bool, isi_int_dict, isi_str_tuple, isi_str_list, isi_str_int, isi_str_str, isi_str_bool, isi_str_dict, isi_bl_tuple, isi_bl_list, isi_bl_int, isi_bl_str, isi_bl_bool, isi_bl_dict, isi_non_tuple, isi_non_list, isi_non_int, isi_non_str, isi_non_bool, isi_non_dict, isn_tup, isn_lst, isn_int, isn_str, isn_bl, isn_non, ixt0, ixt1, ixt2, ixt3, ixt4, ixt5, ixl0, ixl1, ixl2, ixl3, ixl4, ixl5, in_tupN, in_lstN, notin_tupN, notin_lstN, forS_vals, Bool.not_true, Bool.not_false, Bool.false_or, Bool.true_or, Bool.or_false, Bool.or_true, Bool.and_true, Bool.true_and, Bool.and_false, Bool.false_and, List.nil_append, List.cons_append, vIn2_rl0, vIn2_rd0, vNotIn2_rl0, vNotIn2_rd0, vSub2_rl0, vSub2_rd0, vLen_rl0, vTuple_rl0, vList_rl0, vSum_rl0, vAny_rl0, vAll_rl0, vSorted2_rl0, vMin_rl0, vMax_rl0, vSorted_rl0, vSorted2_rd0, vEq_rl0, vNe_rl0, asT_rl0, vAppend_r0, vExtend_r0, onTy_r0, vIn2_rl1, vIn2_rd1, vNotIn2_rl1, vNotIn2_rd1, vSub2_rl1, vSub2_rd1, vLen_rl1, vTuple_rl1, vList_rl1, vSum_rl1, vAny_rl1, vAll_rl1, vSorted2_rl1, vMin_rl1, vMax_rl1, vSorted_rl1, vSorted2_rd1, vEq_rl1, vNe_rl1, asT_rl1, vAppend_r1, vExtend_r1, onTy_r1, vIn2_rl2, vIn2_rd2, vNotIn2_rl2, vNotIn2_rd2, vSub2_rl2, vSub2_rd2, vLen_rl2, vTuple_rl2, vList_rl2, vSum_rl2, vAny_rl2, vAll_rl2, vSorted2_rl2, vMin_rl2, vMax_rl2, vSorted_rl2, vSorted2_rd2, vEq_rl2, vNe_rl2, asT_rl2, vAppend_r2, vExtend_r2, onTy_r2, vIn2_rl3, vIn2_rd3, vNotIn2_rl3, vNotIn2_rd3, vSub2_rl3, vSub2_rd3, vLen_rl3, vTuple_rl3, vList_rl3, vSum_rl3, vAny_rl3, vAll_rl3, vSorted2_rl3, vMin_rl3, vMax_rl3, vSorted_rl3, vSorted2_rd3, vEq_rl3, vNe_rl3, asT_rl3, vAppend_r3, vExtend_r3, onTy_r3, vIn2_rl4, vIn2_rd4, vNotIn2_rl4, vNotIn2_rd4, vSub2_rl4, vSub2_rd4, vLen_rl4, vTuple_rl4, vList_rl4, vSum_rl4, vAny_rl4, vAll_rl4, vSorted2_rl4, vMin_rl4, vMax_rl4, vSorted_rl4, vSorted2_rd4, vEq_rl4, vNe_rl4, asT_rl4, vAppend_r4, vExtend_r4, onTy_r4, all_tt, all_mapA, any_mapA, cut1, oneD, in_dct, notin_dct, dcS_vals, ev_mdc, dcE_ok, ↓dcp_mapM, Bool.not_false]
theorem notin_rw (b : Bool) (μ : Mu) : vNotIn2 (.str (if b then "w" else "r")) (.tup [.str "r", .str "w"]) μ = .ok (.bl false) μ := by
  cases b <;> kernel_rfl
theorem deed_ok (d : Deed) (h : d.x < 5) (μ : Mu) : callD f_is_deed [eD d] μ = .ok (.bl true) μ := by
  refine call_rt (ups1 rfl) rfl (v := .bl true) (μ' := []) ?_ rfl μ
  show b_is_deed [some (eD d)] [] = _
  unfold b_is_deed eD v_MOST_VARIABLES
  have e1 : decide ((0 : Int) ≤ (d.x : Int)) = true := decide_eq_true (by omega)
  have e2 : decide ((d.x : Int) < 5) = true := decide_eq_true (by omega)
  have e0 : ((((0 : Nat) + 1 + 1 : Nat) : Int) == 2) = true := rfl
  simp (config := {implicitDefEqProofs := false}) (disch := (first | (with_reducible assumption) | omega | (with_reducible solve_by_elim (maxDepth := 3)) | (with_reducible exact lt_range (by with_reducible assumption)) | (with_reducible exact lt_rangeF (by with_reducible assumption)) | (with_reducible exact lt_range1 (by with_reducible assumption)) | (with_reducible exact lt_range1F (by with_reducible assumption)) | (simp only [List.length_map, List.length_range, List.length_range', List.length_cons, List.length_nil, List.length_append, LIM]; omega) | (simp only [List.length_map]; with_reducible assumption) | (simp only [List.length_map]; with_reducible solve_by_elim (maxDepth := 3)) | (simp only [List.length_map]; refine len_filter ?_; simp only [List.length_map, List.length_range, List.length_range', LIM]; omega))) only [ev_op2, ev_op1, ev_imm, ev_mut, ev_call, ev_anil, ev_acons, ev_cst, ev_seq, ev_skip, ev_asg, ev_ret, ev_drop, ev_if, ev_not, ev_and, ev_or, ev_ife, ev_bool, ev_truth, ev_mvar, lookR_ok, bnd_ok, bnd_exc, flw_ok, flw_exc, seq_nx', seq_rt', seq_exc', asB_bl, asT_bl, List.getElem?_cons_zero, List.getElem?_cons_succ, List.set_cons_zero, List.set_cons_succ, if_true, if_false, Bool.false_eq_true, bindK_some, cmpS_vals, catS_vals, ev_mlc, ev_mlc2, bndS_ok, ev_mraw, ↓cmp_mapM, ↓cat2_mapM, cmpM_no, catM_no, dcpM_no, cmp_pure, cmp_if, cat2_pure, cat2_if, bindT_nm, bindT_tup, bindT_lst, bindTs_nil, bindO_some, bindTs_cons, wipe_nil, wipe_cons, ev_iseq, asSrc_lst, asSrc_rol, asSrc_tup, oneC, oneI, List.map_cons, List.map_nil, ev_mand, ev_mor, ev_mnot, ev_tife, ev_tyes, ev_chain, ev_op2F, ev_op1F, ev_meth, ev_tupT, ev_lstL, ev_for, ev_setI, ev_raise, ev_brk, ev_cnt, ev_retN, ev_try, ev_asgT, ev_aug, ev_irng1, ev_irng2, ev_ienum, ev_izip, ev_slice, ev_onone, ev_osome, mkT_ok, mkL_ok, and_bl, or_bl, and_blF, and_t, or_t, chB_bl, putF_some, tryK_rt, tryK_nx, noX_rt, noX_nx, bindF_some, augK_ok, rg1_nat, rg2_zero, rg2_one, en1_tup, en1_lst, enums_map, zips_map, zp1_tup, zp1_lst, asI_int, slice_tup, slice_lst, slice_lst', ix_tupM, ix_lstM, len_tup, len_lst, tup_lst, tup_tup, list_lst, list_tup, shortOk, add_tup, add_lst, add_int, sub_int, neg_int, int_int, int_bl, eq_int, ne_int, lt_int, le_int, gt_int, ge_intE, eq_bl, ne_bl, isN_ok, notN_ok, List.length_map, List.map_map, List.length_cons, List.length_nil, isi_tup_tuple, isi_tup_list, isi_tup_int, isi_tup_str, isi_tup_bool, isi_tup_dict, isi_lst_tuple, isi_lst_list, isi_lst_int, isi_lst_str, isi_lst_bool, isi_lst_dict, isi_int_tuple, isi_int_list, isi_int_int, isi_int_str, isi_int_bool, isi_int_dict, isi_str_tuple, isi_str_list, isi_str_int, isi_str_str, isi_str_bool, isi_str_dict, isi_bl_tuple, isi_bl_list, isi_bl_int, isi_bl_str, isi_bl_bool, isi_bl_dict, isi_non_tuple, isi_non_list, isi_non_int, isi_non_str, isi_non_bool, isi_non_dict, isn_tup, isn_lst, isn_int, isn_str, isn_bl, isn_non, ixt0, ixt1, ixt2, ixt3, ixt4, ixt5, ixl0, ixl1, ixl2, ixl3, ixl4, ixl5, in_tupN, in_lstN, notin_tupN, notin_lstN, forS_vals, Bool.not_true, Bool.not_false, Bool.false_or, Bool.true_or, Bool.or_false, Bool.or_true, Bool.and_true, Bool.true_and, Bool.and_false, Bool.false_and, List.nil_append, List.cons_append, vIn2_rl0, vIn2_rd0, vNotIn2_rl0, vNotIn2_rd0, vSub2_rl0, vSub2_rd0, vLen_rl0, vTuple_rl0, vList_rl0, vSum_rl0, vAny_rl0, vAll_rl0, vSorted2_rl0, vMin_rl0, vMax_rl0, vSorted_rl0, vSorted2_rd0, vEq_rl0, vNe_rl0, asT_rl0, vAppend_r0, vExtend_r0, onTy_r0, vIn2_rl1, vIn2_rd1, vNotIn2_rl1, vNotIn2_rd1, vSub2_rl1, vSub2_rd1, vLen_rl1, vTuple_rl1, vList_rl1, vSum_rl1, vAny_rl1, vAll_rl1, vSorted2_rl1, vMin_rl1, vMax_rl1, vSorted_rl1, vSorted2_rd1, vEq_rl1, vNe_rl1, asT_rl1, vAppend_r1, vExtend_r1, onTy_r1, vIn2_rl2, vIn2_rd2, vNotIn2_rl2, vNotIn2_rd2, vSub2_rl2, vSub2_rd2, vLen_rl2, vTuple_rl2, vList_rl2, vSum_rl2, vAny_rl2, vAll_rl2, vSorted2_rl2, vMin_rl2, vMax_rl2, vSorted_rl2, vSorted2_rd2, vEq_rl2, vNe_rl2, asT_rl2, vAppend_r2, vExtend_r2, onTy_r2, vIn2_rl3, vIn2_rd3, vNotIn2_rl3, vNotIn2_rd3, vSub2_rl3, vSub2_rd3, vLen_rl3, vTuple_rl3, vList_rl3, vSum_rl3, vAny_rl3, vAll_rl3, vSorted2_rl3, vMin_rl3, vMax_rl3, vSorted_rl3, vSorted2_rd3, vEq_rl3, vNe_rl3, asT_rl3, vAppend_r3, vExtend_r3, onTy_r3, vIn2_rl4, vIn2_rd4, vNotIn2_rl4, vNotIn2_rd4, vSub2_rl4, vSub2_rd4, vLen_rl4, vTuple_rl4, vList_rl4, vSum_rl4, vAny_rl4, vAll_rl4, vSorted2_rl4, vMin_rl4, vMax_rl4, vSorted_rl4, vSorted2_rd4, vEq_rl4, vNe_rl4, asT_rl4, vAppend_r4, vExtend_r4, onTy_r4, all_tt, all_mapA, any_mapA, cut1, oneD, in_dct, notin_dct, dcS_vals, ev_mdc, dcE_ok, ↓dcp_mapM, notin_rw, whole_int, Bool.not_true, Bool.not_false, Bool.or_false, Bool.and_true, e0, e1, e2]
theorem text_ok (r : List Deed) (h : GoodR r) (μ : Mu) : callD f_is_text [eR r] μ = .ok (.bl true) μ := by
  refine call_rt (ups1 (up_eR r)) rfl (v := .bl true) (μ' := []) ?_ rfl μ
  show b_is_text [some (eR r), none] [] = _
  unfold b_is_text v_MOST_DEEDS
  have h1 := h.a
  have h2 := h.b
  have h3 := h.x
  have e1 : decide ((1 : Int) ≤ (r.length : Int)) = true := decide_eq_true (by omega)
  have e2 : decide ((r.length : Int) ≤ 5) = true := decide_eq_true (by omega)
  simp (config := {implicitDefEqProofs := false}) (disch := (first | (with_reducible assumption) | omega | (with_reducible solve_by_elim (maxDepth := 3)) | (with_reducible exact lt_range (by with_reducible assumption)) | (with_reducible exact lt_rangeF (by with_reducible assumption)) | (with_reducible exact lt_range1 (by with_reducible assumption)) | (with_reducible exact lt_range1F (by with_reducible assumption)) | (simp only [List.length_map, List.length_range, List.length_range', List.length_cons, List.length_nil, List.length_append, LIM]; omega) | (simp only [List.length_map]; with_reducible assumption) | (simp only [List.length_map]; with_reducible solve_by_elim (maxDepth := 3)) | (simp only [List.length_map]; refine len_filter ?_; simp only [List.length_map, List.length_range, List.length_range', LIM]; omega))) only [ev_op2, ev_op1, ev_imm, ev_mut, ev_call, ev_anil, ev_acons, ev_cst, ev_seq, ev_skip, ev_asg, ev_ret, ev_drop, ev_if, ev_not, ev_and, ev_or, ev_ife, ev_bool, ev_truth, ev_mvar, lookR_ok, bnd_ok, bnd_exc, flw_ok, flw_exc, seq_nx', seq_rt', seq_exc', asB_bl, asT_bl, List.getElem?_cons_zero, List.getElem?_cons_succ, List.set_cons_zero, List.set_cons_succ, if_true, if_false, Bool.false_eq_true, bindK_some, cmpS_vals, catS_vals, ev_mlc, ev_mlc2, bndS_ok, ev_mraw, ↓cmp_mapM, ↓cat2_mapM, cmpM_no, catM_no, dcpM_no, cmp_pure, cmp_if, cat2_pure, cat2_if, bindT_nm, bindT_tup, bindT_lst, bindTs_nil, bindO_some, bindTs_cons, wipe_nil, wipe_cons, ev_iseq, asSrc_lst, asSrc_rol, asSrc_tup, oneC, oneI, List.map_cons, List.map_nil, ev_mand, ev_mor, ev_mnot, ev_tife, ev_tyes, ev_chain, ev_op2F, ev_op1F, ev_meth, ev_tupT, ev_lstL, ev_for, ev_setI, ev_raise, ev_brk, ev_cnt, ev_retN, ev_try, ev_asgT, ev_aug, ev_irng1, ev_irng2, ev_ienum, ev_izip, ev_slice, ev_onone, ev_osome, mkT_ok, mkL_ok, and_bl, or_bl, and_blF, and_t, or_t, chB_bl, putF_some, tryK_rt, tryK_nx, noX_rt, noX_nx, bindF_some, augK_ok, rg1_nat, rg2_zero, rg2_one, en1_tup, en1_lst, enums_map, zips_map, zp1_tup, zp1_lst, asI_int, slice_tup, slice_lst, slice_lst', ix_tupM, ix_lstM, len_tup, len_lst, tup_lst, tup_tup, list_lst, list_tup, shortOk, add_tup, add_lst, add_int, sub_int, neg_int, int_int, int_bl, eq_int, ne_int, lt_int, le_int, gt_int, ge_intE, eq_bl, ne_bl, isN_ok, notN_ok, List.length_map, List.map_map, List.length_cons, List.length_nil, isi_tup_tuple, isi_tup_list, isi_tup_int, isi_tup_str, isi_tup_bool, isi_tup_dict, isi_lst_tuple, isi_lst_list, isi_lst_int, isi_lst_str, isi_lst_bool, isi_lst_dict, isi_int_tuple, isi_int_list, isi_int_int, isi_int_str, isi_int_bool, isi_int_dict, isi_str_tuple, isi_str_list, isi_str_int, isi_str_str, isi_str_bool, isi_str_dict, isi_bl_tuple, isi_bl_list, isi_bl_int, isi_bl_str, isi_bl_bool, isi_bl_dict, isi_non_tuple, isi_non_list, isi_non_int, isi_non_str, isi_non_bool, isi_non_dict, isn_tup, isn_lst, isn_int, isn_str, isn_bl, isn_non, ixt0, ixt1, ixt2, ixt3, ixt4, ixt5, ixl0, ixl1, ixl2, ixl3, ixl4, ixl5, in_tupN, in_lstN, notin_tupN, notin_lstN, forS_vals, Bool.not_true, Bool.not_false, Bool.false_or, Bool.true_or, Bool.or_false, Bool.or_true, Bool.and_true, Bool.true_and, Bool.and_false, Bool.false_and, List.nil_append, List.cons_append, vIn2_rl0, vIn2_rd0, vNotIn2_rl0, vNotIn2_rd0, vSub2_rl0, vSub2_rd0, vLen_rl0, vTuple_rl0, vList_rl0, vSum_rl0, vAny_rl0, vAll_rl0, vSorted2_rl0, vMin_rl0, vMax_rl0, vSorted_rl0, vSorted2_rd0, vEq_rl0, vNe_rl0, asT_rl0, vAppend_r0, vExtend_r0, onTy_r0, vIn2_rl1, vIn2_rd1, vNotIn2_rl1, vNotIn2_rd1, vSub2_rl1, vSub2_rd1, vLen_rl1, vTuple_rl1, vList_rl1, vSum_rl1, vAny_rl1, vAll_rl1, vSorted2_rl1, vMin_rl1, vMax_rl1, vSorted_rl1, vSorted2_rd1, vEq_rl1, vNe_rl1, asT_rl1, vAppend_r1, vExtend_r1, onTy_r1, vIn2_rl2, vIn2_rd2, vNotIn2_rl2, vNotIn2_rd2, vSub2_rl2, vSub2_rd2, vLen_rl2, vTuple_rl2, vList_rl2, vSum_rl2, vAny_rl2, vAll_rl2, vSorted2_rl2, vMin_rl2, vMax_rl2, vSorted_rl2, vSorted2_rd2, vEq_rl2, vNe_rl2, asT_rl2, vAppend_r2, vExtend_r2, onTy_r2, vIn2_rl3, vIn2_rd3, vNotIn2_rl3, vNotIn2_rd3, vSub2_rl3, vSub2_rd3, vLen_rl3, vTuple_rl3, vList_rl3, vSum_rl3, vAny_rl3, vAll_rl3, vSorted2_rl3, vMin_rl3, vMax_rl3, vSorted_rl3, vSorted2_rd3, vEq_rl3, vNe_rl3, asT_rl3, vAppend_r3, vExtend_r3, onTy_r3, vIn2_rl4, vIn2_rd4, vNotIn2_rl4, vNotIn2_rd4, vSub2_rl4, vSub2_rd4, vLen_rl4, vTuple_rl4, vList_rl4, vSum_rl4, vAny_rl4, vAll_rl4, vSorted2_rl4, vMin_rl4, vMax_rl4, vSorted_rl4, vSorted2_rd4, vEq_rl4, vNe_rl4, asT_rl4, vAppend_r4, vExtend_r4, onTy_r4, all_tt, all_mapA, any_mapA, cut1, oneD, in_dct, notin_dct, dcS_vals, ev_mdc, dcE_ok, ↓dcp_mapM, deed_ok, e1, e2, Bool.and_true]
theorem texts_ok (ts : List (List Deed)) (h : Good ts) (μ : Mu) : callD f_is_texts [eX ts] μ = .ok (.bl true) μ := by
  refine call_rt (ups1 (up_eX ts)) rfl (v := .bl true) (μ' := []) ?_ rfl μ
  show b_is_texts [some (eX ts), none] [] = _
  unfold b_is_texts v_MOST_PROGRAMS
  have h1 := h.a
  have h2 := h.b
  have h3 := h.r
  have e1 : decide ((1 : Int) ≤ (ts.length : Int)) = true := decide_eq_true (by omega)
  have e2 : decide ((ts.length : Int) ≤ 4) = true := decide_eq_true (by omega)
  simp (config := {implicitDefEqProofs := false}) (disch := (first | (with_reducible assumption) | omega | (with_reducible solve_by_elim (maxDepth := 3)) | (with_reducible exact lt_range (by with_reducible assumption)) | (with_reducible exact lt_rangeF (by with_reducible assumption)) | (with_reducible exact lt_range1 (by with_reducible assumption)) | (with_reducible exact lt_range1F (by with_reducible assumption)) | (simp only [List.length_map, List.length_range, List.length_range', List.length_cons, List.length_nil, List.length_append, LIM]; omega) | (simp only [List.length_map]; with_reducible assumption) | (simp only [List.length_map]; with_reducible solve_by_elim (maxDepth := 3)) | (simp only [List.length_map]; refine len_filter ?_; simp only [List.length_map, List.length_range, List.length_range', LIM]; omega))) only [ev_op2, ev_op1, ev_imm, ev_mut, ev_call, ev_anil, ev_acons, ev_cst, ev_seq, ev_skip, ev_asg, ev_ret, ev_drop, ev_if, ev_not, ev_and, ev_or, ev_ife, ev_bool, ev_truth, ev_mvar, lookR_ok, bnd_ok, bnd_exc, flw_ok, flw_exc, seq_nx', seq_rt', seq_exc', asB_bl, asT_bl, List.getElem?_cons_zero, List.getElem?_cons_succ, List.set_cons_zero, List.set_cons_succ, if_true, if_false, Bool.false_eq_true, bindK_some, cmpS_vals, catS_vals, ev_mlc, ev_mlc2, bndS_ok, ev_mraw, ↓cmp_mapM, ↓cat2_mapM, cmpM_no, catM_no, dcpM_no, cmp_pure, cmp_if, cat2_pure, cat2_if, bindT_nm, bindT_tup, bindT_lst, bindTs_nil, bindO_some, bindTs_cons, wipe_nil, wipe_cons, ev_iseq, asSrc_lst, asSrc_rol, asSrc_tup, oneC, oneI, List.map_cons, List.map_nil, ev_mand, ev_mor, ev_mnot, ev_tife, ev_tyes, ev_chain, ev_op2F, ev_op1F, ev_meth, ev_tupT, ev_lstL, ev_for, ev_setI, ev_raise, ev_brk, ev_cnt, ev_retN, ev_try, ev_asgT, ev_aug, ev_irng1, ev_irng2, ev_ienum, ev_izip, ev_slice, ev_onone, ev_osome, mkT_ok, mkL_ok, and_bl, or_bl, and_blF, and_t, or_t, chB_bl, putF_some, tryK_rt, tryK_nx, noX_rt, noX_nx, bindF_some, augK_ok, rg1_nat, rg2_zero, rg2_one, en1_tup, en1_lst, enums_map, zips_map, zp1_tup, zp1_lst, asI_int, slice_tup, slice_lst, slice_lst', ix_tupM, ix_lstM, len_tup, len_lst, tup_lst, tup_tup, list_lst, list_tup, shortOk, add_tup, add_lst, add_int, sub_int, neg_int, int_int, int_bl, eq_int, ne_int, lt_int, le_int, gt_int, ge_intE, eq_bl, ne_bl, isN_ok, notN_ok, List.length_map, List.map_map, List.length_cons, List.length_nil, isi_tup_tuple, isi_tup_list, isi_tup_int, isi_tup_str, isi_tup_bool, isi_tup_dict, isi_lst_tuple, isi_lst_list, isi_lst_int, isi_lst_str, isi_lst_bool, isi_lst_dict, isi_int_tuple, isi_int_list, isi_int_int, isi_int_str, isi_int_bool, isi_int_dict, isi_str_tuple, isi_str_list, isi_str_int, isi_str_str, isi_str_bool, isi_str_dict, isi_bl_tuple, isi_bl_list, isi_bl_int, isi_bl_str, isi_bl_bool, isi_bl_dict, isi_non_tuple, isi_non_list, isi_non_int, isi_non_str, isi_non_bool, isi_non_dict, isn_tup, isn_lst, isn_int, isn_str, isn_bl, isn_non, ixt0, ixt1, ixt2, ixt3, ixt4, ixt5, ixl0, ixl1, ixl2, ixl3, ixl4, ixl5, in_tupN, in_lstN, notin_tupN, notin_lstN, forS_vals, Bool.not_true, Bool.not_false, Bool.false_or, Bool.true_or, Bool.or_false, Bool.or_true, Bool.and_true, Bool.true_and, Bool.and_false, Bool.false_and, List.nil_append, List.cons_append, vIn2_rl0, vIn2_rd0, vNotIn2_rl0, vNotIn2_rd0, vSub2_rl0, vSub2_rd0, vLen_rl0, vTuple_rl0, vList_rl0, vSum_rl0, vAny_rl0, vAll_rl0, vSorted2_rl0, vMin_rl0, vMax_rl0, vSorted_rl0, vSorted2_rd0, vEq_rl0, vNe_rl0, asT_rl0, vAppend_r0, vExtend_r0, onTy_r0, vIn2_rl1, vIn2_rd1, vNotIn2_rl1, vNotIn2_rd1, vSub2_rl1, vSub2_rd1, vLen_rl1, vTuple_rl1, vList_rl1, vSum_rl1, vAny_rl1, vAll_rl1, vSorted2_rl1, vMin_rl1, vMax_rl1, vSorted_rl1, vSorted2_rd1, vEq_rl1, vNe_rl1, asT_rl1, vAppend_r1, vExtend_r1, onTy_r1, vIn2_rl2, vIn2_rd2, vNotIn2_rl2, vNotIn2_rd2, vSub2_rl2, vSub2_rd2, vLen_rl2, vTuple_rl2, vList_rl2, vSum_rl2, vAny_rl2, vAll_rl2, vSorted2_rl2, vMin_rl2, vMax_rl2, vSorted_rl2, vSorted2_rd2, vEq_rl2, vNe_rl2, asT_rl2, vAppend_r2, vExtend_r2, onTy_r2, vIn2_rl3, vIn2_rd3, vNotIn2_rl3, vNotIn2_rd3, vSub2_rl3, vSub2_rd3, vLen_rl3, vTuple_rl3, vList_rl3, vSum_rl3, vAny_rl3, vAll_rl3, vSorted2_rl3, vMin_rl3, vMax_rl3, vSorted_rl3, vSorted2_rd3, vEq_rl3, vNe_rl3, asT_rl3, vAppend_r3, vExtend_r3, onTy_r3, vIn2_rl4, vIn2_rd4, vNotIn2_rl4, vNotIn2_rd4, vSub2_rl4, vSub2_rd4, vLen_rl4, vTuple_rl4, vList_rl4, vSum_rl4, vAny_rl4, vAll_rl4, vSorted2_rl4, vMin_rl4, vMax_rl4, vSorted_rl4, vSorted2_rd4, vEq_rl4, vNe_rl4, asT_rl4, vAppend_r4, vExtend_r4, onTy_r4, all_tt, all_mapA, any_mapA, cut1, oneD, in_dct, notin_dct, dcS_vals, ev_mdc, dcE_ok, ↓dcp_mapM, text_ok, e1, e2, Bool.and_true]
theorem check_ok (ts : List (List Deed)) (h : Good ts) (μ : Mu) : callD f_check_texts [eX ts] μ = .ok .non μ := by
  refine call_nx (ups1 (up_eX ts)) rfl (sl := [some (eX ts)]) (μ' := []) ?_ μ
  show b_check_texts [some (eX ts)] [] = _
  unfold b_check_texts
  simp (config := {implicitDefEqProofs := false}) (disch := (first | (with_reducible assumption) | omega | (with_reducible solve_by_elim (maxDepth := 3)) | (with_reducible exact lt_range (by with_reducible assumption)) | (with_reducible exact lt_rangeF (by with_reducible assumption)) | (with_reducible exact lt_range1 (by with_reducible assumption)) | (with_reducible exact lt_range1F (by with_reducible assumption)) | (simp only [List.length_map, List.length_range, List.length_range', List.length_cons, List.length_nil, List.length_append, LIM]; omega) | (simp only [List.length_map]; with_reducible assumption) | (simp only [List.length_map]; with_reducible solve_by_elim (maxDepth := 3)) | (simp only [List.length_map]; refine len_filter ?_; simp only [List.length_map, List.length_range, List.length_range', LIM]; omega))) only [ev_op2, ev_op1, ev_imm, ev_mut, ev_call, ev_anil, ev_acons, ev_cst, ev_seq, ev_skip, ev_asg, ev_ret, ev_drop, ev_if, ev_not, ev_and, ev_or, ev_ife, ev_bool, ev_truth, ev_mvar, lookR_ok, bnd_ok, bnd_exc, flw_ok, flw_exc, seq_nx', seq_rt', seq_exc', asB_bl, asT_bl, List.getElem?_cons_zero, List.getElem?_cons_succ, List.set_cons_zero, List.set_cons_succ, if_true, if_false, Bool.false_eq_true, bindK_some, cmpS_vals, catS_vals, ev_mlc, ev_mlc2, bndS_ok, ev_mraw, ↓cmp_mapM, ↓cat2_mapM, cmpM_no, catM_no, dcpM_no, cmp_pure, cmp_if, cat2_pure, cat2_if, bindT_nm, bindT_tup, bindT_lst, bindTs_nil, bindO_some, bindTs_cons, wipe_nil, wipe_cons, ev_iseq, asSrc_lst, asSrc_rol, asSrc_tup, oneC, oneI, List.map_cons, List.map_nil, ev_mand, ev_mor, ev_mnot, ev_tife, ev_tyes, ev_chain, ev_op2F, ev_op1F, ev_meth, ev_tupT, ev_lstL, ev_for, ev_setI, ev_raise, ev_brk, ev_cnt, ev_retN, ev_try, ev_asgT, ev_aug, ev_irng1, ev_irng2, ev_ienum, ev_izip, ev_slice, ev_onone, ev_osome, mkT_ok, mkL_ok, and_bl, or_bl, and_blF, and_t, or_t, chB_bl, putF_some, tryK_rt, tryK_nx, noX_rt, noX_nx, bindF_some, augK_ok, rg1_nat, rg2_zero, rg2_one, en1_tup, en1_lst, enums_map, zips_map, zp1_tup, zp1_lst, asI_int, slice_tup, slice_lst, slice_lst', ix_tupM, ix_lstM, len_tup, len_lst, tup_lst, tup_tup, list_lst, list_tup, shortOk, add_tup, add_lst, add_int, sub_int, neg_int, int_int, int_bl, eq_int, ne_int, lt_int, le_int, gt_int, ge_intE, eq_bl, ne_bl, isN_ok, notN_ok, List.length_map, List.map_map, List.length_cons, List.length_nil, isi_tup_tuple, isi_tup_list, isi_tup_int, isi_tup_str, isi_tup_bool, isi_tup_dict, isi_lst_tuple, isi_lst_list, isi_lst_int, isi_lst_str, isi_lst_bool, isi_lst_dict, isi_int_tuple, isi_int_list, isi_int_int, isi_int_str, isi_int_bool, isi_int_dict, isi_str_tuple, isi_str_list, isi_str_int, isi_str_str, isi_str_bool, isi_str_dict, isi_bl_tuple, isi_bl_list, isi_bl_int, isi_bl_str, isi_bl_bool, isi_bl_dict, isi_non_tuple, isi_non_list, isi_non_int, isi_non_str, isi_non_bool, isi_non_dict, isn_tup, isn_lst, isn_int, isn_str, isn_bl, isn_non, ixt0, ixt1, ixt2, ixt3, ixt4, ixt5, ixl0, ixl1, ixl2, ixl3, ixl4, ixl5, in_tupN, in_lstN, notin_tupN, notin_lstN, forS_vals, Bool.not_true, Bool.not_false, Bool.false_or, Bool.true_or, Bool.or_false, Bool.or_true, Bool.and_true, Bool.true_and, Bool.and_false, Bool.false_and, List.nil_append, List.cons_append, vIn2_rl0, vIn2_rd0, vNotIn2_rl0, vNotIn2_rd0, vSub2_rl0, vSub2_rd0, vLen_rl0, vTuple_rl0, vList_rl0, vSum_rl0, vAny_rl0, vAll_rl0, vSorted2_rl0, vMin_rl0, vMax_rl0, vSorted_rl0, vSorted2_rd0, vEq_rl0, vNe_rl0, asT_rl0, vAppend_r0, vExtend_r0, onTy_r0, vIn2_rl1, vIn2_rd1, vNotIn2_rl1, vNotIn2_rd1, vSub2_rl1, vSub2_rd1, vLen_rl1, vTuple_rl1, vList_rl1, vSum_rl1, vAny_rl1, vAll_rl1, vSorted2_rl1, vMin_rl1, vMax_rl1, vSorted_rl1, vSorted2_rd1, vEq_rl1, vNe_rl1, asT_rl1, vAppend_r1, vExtend_r1, onTy_r1, vIn2_rl2, vIn2_rd2, vNotIn2_rl2, vNotIn2_rd2, vSub2_rl2, vSub2_rd2, vLen_rl2, vTuple_rl2, vList_rl2, vSum_rl2, vAny_rl2, vAll_rl2, vSorted2_rl2, vMin_rl2, vMax_rl2, vSorted_rl2, vSorted2_rd2, vEq_rl2, vNe_rl2, asT_rl2, vAppend_r2, vExtend_r2, onTy_r2, vIn2_rl3, vIn2_rd3, vNotIn2_rl3, vNotIn2_rd3, vSub2_rl3, vSub2_rd3, vLen_rl3, vTuple_rl3, vList_rl3, vSum_rl3, vAny_rl3, vAll_rl3, vSorted2_rl3, vMin_rl3, vMax_rl3, vSorted_rl3, vSorted2_rd3, vEq_rl3, vNe_rl3, asT_rl3, vAppend_r3, vExtend_r3, onTy_r3, vIn2_rl4, vIn2_rd4, vNotIn2_rl4, vNotIn2_rd4, vSub2_rl4, vSub2_rd4, vLen_rl4, vTuple_rl4, vList_rl4, vSum_rl4, vAny_rl4, vAll_rl4, vSorted2_rl4, vMin_rl4, vMax_rl4, vSorted_rl4, vSorted2_rd4, vEq_rl4, vNe_rl4, asT_rl4, vAppend_r4, vExtend_r4, onTy_r4, all_tt, all_mapA, any_mapA, cut1, oneD, in_dct, notin_dct, dcS_vals, ev_mdc, dcE_ok, ↓dcp_mapM, texts_ok ts h, Bool.not_true]
/-! ### joined -/
def rb (ts : List (List Deed)) (p i k : Nat) : Val := ((callD f_ring_between [eX ts, .int (p : Int), .int (i : Int), .int (k : Int)] []).val).getD .non
def jn (ts : List (List Deed)) (p i k : Nat) : Bool := !isNonB (rb ts p i k)
theorem rb_ok {ts : List (List Deed)} (hs : Small ts) {p i k : Nat} (hp : p < ts.length) (hi : i < (ts[p]!).length) (hk : k < (ts[p]!).length) : up (rb ts p i k) = 0 ∧ ∀ μ, callD f_ring_between [eX ts, .int (p : Int), .int (i : Int), .int (k : Int)] μ = .ok (rb ts p i k) μ := by
  obtain ⟨v, hv, e⟩ := ring_ok hs hp hi hk
  have e' : rb ts p i k = v := by unfold rb; rw [e []]; rfl
  rw [e']
  refine ⟨?_, e⟩
  rcases hv with rfl | ⟨l, rfl⟩
  · rfl
  · exact ups_map0 eN (fun _ => rfl) l
/-! ### the finest cut -/
def spans (ts : List (List Deed)) (p : Nat) : List (Nat × Nat) := (List.range (ts[p]!).length).flatMap fun k => ((List.range k).filter fun i => jn ts p i k).map fun i => (i, k)
def told (ts : List (List Deed)) (p : Nat) : List Nat := (List.range' 1 ((ts[p]!).length - 1)).filter fun (x : Nat) => !((spans ts p).any fun q => decide ((q.1 : Int) < (x : Int)) && decide ((x : Int) ≤ (q.2 : Int)))
def fin (ts : List (List Deed)) : List (List Nat) := (List.range ts.length).map (told ts)
abbrev eL (c : List Nat) : Val := .tup (c.map eN)
abbrev eC (cs : List (List Nat)) : Val := .tup (cs.map eL)
theorem up_eL (c : List Nat) : up (eL c) = 0 := ups_map0 eN (fun _ => rfl) c
theorem up_eC (cs : List (List Nat)) : up (eC cs) = 0 := ups_map0 eL up_eL cs
def eP2 (q : Nat × Nat) : Val := .tup [.int (q.1 : Int), .int (q.2 : Int)]
theorem spans_len (ts : List (List Deed)) (p : Nat) (h : (ts[p]!).length ≤ 5) : (spans ts p).length ≤ 25 := by
  unfold spans
  refine len_flat 5 5 (by rw [List.length_range]; exact h) (fun k hk => ?_) (by omega)
  rw [List.length_map]
  have := List.mem_range.mp hk
  exact len_filter (by rw [List.length_range]; omega)
theorem fin_turn {ts : List (List Deed)} (h : Good ts) {p : Nat} (hp : p < ts.length) (X Y Z W : Option Val) (acc : List (List Nat)) (ha : acc.length ≤ 4) : l1_finest_cut [some (eX ts), some (.ref 0), some (.int (p : Int)), some (eR (ts[p]!)), X, Y, Z, W] [.lst (acc.map eL)] = .nx [some (eX ts), some (.ref 0), some (.int (p : Int)), some (eR (ts[p]!)), some (.lst ((spans ts p).map eP2)), Y, Z, W] [.lst ((acc ++ [told ts p]).map eL)] := by
  have hs := h.small
  have hl := hs.get hp
  have hr : ∀ i k, i < (ts[p]!).length → k < (ts[p]!).length → ∀ μ, callD f_ring_between [eX ts, .int (p : Int), .int (i : Int), .int (k : Int)] μ = .ok (rb ts p i k) μ := fun i k hi hk => (rb_ok hs hp hi hk).2
  have hsp : (List.range (ts[p]!).length).flatMap (fun x => ((List.range x).filter fun y => !isNonB (rb ts p y x)).map fun y => Val.tup [eN y, eN x]) = (spans ts p).map eP2 := by
    exact flat_enc eP2 _ _ (fun (x y : Nat) => (y, x))
  have hsl := spans_len ts p hl
  have hr' : ∀ x, x ∈ List.range (ts[p]!).length → ∀ y, y ∈ List.range x → ∀ μ, callD f_ring_between [eX ts, .int (p : Int), .int (y : Int), .int (x : Int)] μ = .ok (rb ts p y x) μ := fun x hx y hy => by
    have := List.mem_range.mp hx
    have := List.mem_range.mp hy
    exact hr y x (by omega) (by omega)
  have hxs : ∀ x, x ∈ List.range (ts[p]!).length → x ≤ LIM := fun x hx => by
    have := List.mem_range.mp hx
    unfold LIM; omega
  simp (config := {implicitDefEqProofs := false}) (disch := (first | (with_reducible assumption) | omega | (with_reducible solve_by_elim (maxDepth := 3)) | (with_reducible exact lt_range (by with_reducible assumption)) | (with_reducible exact lt_rangeF (by with_reducible assumption)) | (with_reducible exact lt_range1 (by with_reducible assumption)) | (with_reducible exact lt_range1F (by with_reducible assumption)) | (simp only [List.length_map, List.length_range, List.length_range', List.length_cons, List.length_nil, List.length_append, LIM]; omega) | (simp only [List.length_map]; with_reducible assumption) | (simp only [List.length_map]; with_reducible solve_by_elim (maxDepth := 3)) | (simp only [List.length_map]; refine len_filter ?_; simp only [List.length_map, List.length_range, List.length_range', LIM]; omega))) only [ev_op2, ev_op1, ev_imm, ev_mut, ev_call, ev_anil, ev_acons, ev_cst, ev_seq, ev_skip, ev_asg, ev_ret, ev_drop, ev_if, ev_not, ev_and, ev_or, ev_ife, ev_bool, ev_truth, ev_mvar, lookR_ok, bnd_ok, bnd_exc, flw_ok, flw_exc, seq_nx', seq_rt', seq_exc', asB_bl, asT_bl, List.getElem?_cons_zero, List.getElem?_cons_succ, List.set_cons_zero, List.set_cons_succ, if_true, if_false, Bool.false_eq_true, bindK_some, cmpS_vals, catS_vals, ev_mlc, ev_mlc2, bndS_ok, ev_mraw, ↓cmp_mapM, ↓cat2_mapM, cmpM_no, catM_no, dcpM_no, cmp_pure, cmp_if, cat2_pure, cat2_if, bindT_nm, bindT_tup, bindT_lst, bindTs_nil, bindO_some, bindTs_cons, wipe_nil, wipe_cons, ev_iseq, asSrc_lst, asSrc_rol, asSrc_tup, oneC, oneI, List.map_cons, List.map_nil, ev_mand, ev_mor, ev_mnot, ev_tife, ev_tyes, ev_chain, ev_op2F, ev_op1F, ev_meth, ev_tupT, ev_lstL, ev_for, ev_setI, ev_raise, ev_brk, ev_cnt, ev_retN, ev_try, ev_asgT, ev_aug, ev_irng1, ev_irng2, ev_ienum, ev_izip, ev_slice, ev_onone, ev_osome, mkT_ok, mkL_ok, and_bl, or_bl, and_blF, and_t, or_t, chB_bl, putF_some, tryK_rt, tryK_nx, noX_rt, noX_nx, bindF_some, augK_ok, rg1_nat, rg2_zero, rg2_one, en1_tup, en1_lst, enums_map, zips_map, zp1_tup, zp1_lst, asI_int, slice_tup, slice_lst, slice_lst', ix_tupM, ix_lstM, len_tup, len_lst, tup_lst, tup_tup, list_lst, list_tup, shortOk, add_tup, add_lst, add_int, sub_int, neg_int, int_int, int_bl, eq_int, ne_int, lt_int, le_int, gt_int, ge_intE, eq_bl, ne_bl, isN_ok, notN_ok, List.length_map, List.map_map, List.length_cons, List.length_nil, isi_tup_tuple, isi_tup_list, isi_tup_int, isi_tup_str, isi_tup_bool, isi_tup_dict, isi_lst_tuple, isi_lst_list, isi_lst_int, isi_lst_str, isi_lst_bool, isi_lst_dict, isi_int_tuple, isi_int_list, isi_int_int, isi_int_str, isi_int_bool, isi_int_dict, isi_str_tuple, isi_str_list, isi_str_int, isi_str_str, isi_str_bool, isi_str_dict, isi_bl_tuple, isi_bl_list, isi_bl_int, isi_bl_str, isi_bl_bool, isi_bl_dict, isi_non_tuple, isi_non_list, isi_non_int, isi_non_str, isi_non_bool, isi_non_dict, isn_tup, isn_lst, isn_int, isn_str, isn_bl, isn_non, ixt0, ixt1, ixt2, ixt3, ixt4, ixt5, ixl0, ixl1, ixl2, ixl3, ixl4, ixl5, in_tupN, in_lstN, notin_tupN, notin_lstN, forS_vals, Bool.not_true, Bool.not_false, Bool.false_or, Bool.true_or, Bool.or_false, Bool.or_true, Bool.and_true, Bool.true_and, Bool.and_false, Bool.false_and, List.nil_append, List.cons_append, vIn2_rl0, vIn2_rd0, vNotIn2_rl0, vNotIn2_rd0, vSub2_rl0, vSub2_rd0, vLen_rl0, vTuple_rl0, vList_rl0, vSum_rl0, vAny_rl0, vAll_rl0, vSorted2_rl0, vMin_rl0, vMax_rl0, vSorted_rl0, vSorted2_rd0, vEq_rl0, vNe_rl0, asT_rl0, vAppend_r0, vExtend_r0, onTy_r0, vIn2_rl1, vIn2_rd1, vNotIn2_rl1, vNotIn2_rd1, vSub2_rl1, vSub2_rd1, vLen_rl1, vTuple_rl1, vList_rl1, vSum_rl1, vAny_rl1, vAll_rl1, vSorted2_rl1, vMin_rl1, vMax_rl1, vSorted_rl1, vSorted2_rd1, vEq_rl1, vNe_rl1, asT_rl1, vAppend_r1, vExtend_r1, onTy_r1, vIn2_rl2, vIn2_rd2, vNotIn2_rl2, vNotIn2_rd2, vSub2_rl2, vSub2_rd2, vLen_rl2, vTuple_rl2, vList_rl2, vSum_rl2, vAny_rl2, vAll_rl2, vSorted2_rl2, vMin_rl2, vMax_rl2, vSorted_rl2, vSorted2_rd2, vEq_rl2, vNe_rl2, asT_rl2, vAppend_r2, vExtend_r2, onTy_r2, vIn2_rl3, vIn2_rd3, vNotIn2_rl3, vNotIn2_rd3, vSub2_rl3, vSub2_rd3, vLen_rl3, vTuple_rl3, vList_rl3, vSum_rl3, vAny_rl3, vAll_rl3, vSorted2_rl3, vMin_rl3, vMax_rl3, vSorted_rl3, vSorted2_rd3, vEq_rl3, vNe_rl3, asT_rl3, vAppend_r3, vExtend_r3, onTy_r3, vIn2_rl4, vIn2_rd4, vNotIn2_rl4, vNotIn2_rd4, vSub2_rl4, vSub2_rd4, vLen_rl4, vTuple_rl4, vList_rl4, vSum_rl4, vAny_rl4, vAll_rl4, vSorted2_rl4, vMin_rl4, vMax_rl4, vSorted_rl4, vSorted2_rd4, vEq_rl4, vNe_rl4, asT_rl4, vAppend_r4, vExtend_r4, onTy_r4, all_tt, all_mapA, any_mapA, cut1, oneD, in_dct, notin_dct, dcS_vals, ev_mdc, dcE_ok, ↓dcp_mapM, hr', hsp, eP2]
  simp only [List.map_append]
  rfl
theorem fin_ok {ts : List (List Deed)} (h : Good ts) (μ : Mu) : callD f_finest_cut [eX ts] μ = .ok (eC (fin ts)) μ := by
  have hb := h.b
  have hfor : ∃ sl' μ', forL (.tp [.nm 2, .nm 3]) l1_finest_cut (ts.zipIdx.map fun q => .tup [.int (q.2 : Nat), eR q.1]) [some (eX ts), some (.ref 0), none, none, none, none, none, none] [.lst []] = .nx sl' μ' ∧ ∃ a b c d e f, sl' = [some (eX ts), some (.ref 0), a, b, c, d, e, f] ∧ μ' = [.lst ((fin ts).map eL)] := by
    obtain ⟨sl', e, a, b, c, d, e1, f, hl⟩ := forL_app (t := .tp [.nm 2, .nm 3]) 4 (fun (q : List Deed × Nat) => .tup [.int (q.2 : Nat), eR q.1]) (fun q => [told ts q.2]) (fun sl => ∃ a b c d e f, sl = [some (eX ts), some (.ref 0), a, b, c, d, e, f]) (fun acc => [.lst (acc.map eL)]) ts.zipIdx [] _ ⟨none, none, none, none, none, none, rfl⟩ (by rw [flat_one]; simpa using hb) (by
      rintro q hq acc _ ⟨a, b, c, d, e, f, rfl⟩ hl
      obtain ⟨hq1, hq2⟩ := mem_zipIdx hq
      refine ⟨_, rfl, _, .inl (?_ : _ = Flow.nx _ _), some (.int (q.2 : Nat)), some (eR (ts[q.2]!)), some (.lst ((spans ts q.2).map eP2)), d, e, f, rfl⟩
      rw [hq2]
      exact fin_turn h hq1 c d e f acc (by rw [List.length_append] at hl; omega))
    refine ⟨sl', _, e, a, b, c, d, e1, f, hl, ?_⟩
    rw [flat_one, zipIdx_map]
    rfl
  obtain ⟨sl', μ', e, a, b, c, d, e1, f, rfl, rfl⟩ := hfor
  refine call_rt (ups1 (up_eX ts)) rfl (v := eC (fin ts)) (μ' := [.lst ((fin ts).map eL)]) ?_ (up_eC _) μ
  show b_finest_cut [some (eX ts), none, none, none, none, none, none, none] [] = _
  unfold b_finest_cut
  simp (config := {implicitDefEqProofs := false}) (disch := (first | (with_reducible assumption) | omega | (with_reducible solve_by_elim (maxDepth := 3)) | (with_reducible exact lt_range (by with_reducible assumption)) | (with_reducible exact lt_rangeF (by with_reducible assumption)) | (with_reducible exact lt_range1 (by with_reducible assumption)) | (with_reducible exact lt_range1F (by with_reducible assumption)) | (simp only [List.length_map, List.length_range, List.length_range', List.length_cons, List.length_nil, List.length_append, LIM]; omega) | (simp only [List.length_map]; with_reducible assumption) | (simp only [List.length_map]; with_reducible solve_by_elim (maxDepth := 3)) | (simp only [List.length_map]; refine len_filter ?_; simp only [List.length_map, List.length_range, List.length_range', LIM]; omega))) only [ev_op2, ev_op1, ev_imm, ev_mut, ev_call, ev_anil, ev_acons, ev_cst, ev_seq, ev_skip, ev_asg, ev_ret, ev_drop, ev_if, ev_not, ev_and, ev_or, ev_ife, ev_bool, ev_truth, ev_mvar, lookR_ok, bnd_ok, bnd_exc, flw_ok, flw_exc, seq_nx', seq_rt', seq_exc', asB_bl, asT_bl, List.getElem?_cons_zero, List.getElem?_cons_succ, List.set_cons_zero, List.set_cons_succ, if_true, if_false, Bool.false_eq_true, bindK_some, cmpS_vals, catS_vals, ev_mlc, ev_mlc2, bndS_ok, ev_mraw, ↓cmp_mapM, ↓cat2_mapM, cmpM_no, catM_no, dcpM_no, cmp_pure, cmp_if, cat2_pure, cat2_if, bindT_nm, bindT_tup, bindT_lst, bindTs_nil, bindO_some, bindTs_cons, wipe_nil, wipe_cons, ev_iseq, asSrc_lst, asSrc_rol, asSrc_tup, oneC, oneI, List.map_cons, List.map_nil, ev_mand, ev_mor, ev_mnot, ev_tife, ev_tyes, ev_chain, ev_op2F, ev_op1F, ev_meth, ev_tupT, ev_lstL, ev_for, ev_setI, ev_raise, ev_brk, ev_cnt, ev_retN, ev_try, ev_asgT, ev_aug, ev_irng1, ev_irng2, ev_ienum, ev_izip, ev_slice, ev_onone, ev_osome, mkT_ok, mkL_ok, and_bl, or_bl, and_blF, and_t, or_t, chB_bl, putF_some, tryK_rt, tryK_nx, noX_rt, noX_nx, bindF_some, augK_ok, rg1_nat, rg2_zero, rg2_one, en1_tup, en1_lst, enums_map, zips_map, zp1_tup, zp1_lst, asI_int, slice_tup, slice_lst, slice_lst', ix_tupM, ix_lstM, len_tup, len_lst, tup_lst, tup_tup, list_lst, list_tup, shortOk, add_tup, add_lst, add_int, sub_int, neg_int, int_int, int_bl, eq_int, ne_int, lt_int, le_int, gt_int, ge_intE, eq_bl, ne_bl, isN_ok, notN_ok, List.length_map, List.map_map, List.length_cons, List.length_nil, isi_tup_tuple, isi_tup_list, isi_tup_int, isi_tup_str, isi_tup_bool, isi_tup_dict, isi_lst_tuple, isi_lst_list, isi_lst_int, isi_lst_str, isi_lst_bool, isi_lst_dict, isi_int_tuple, isi_int_list, isi_int_int, isi_int_str, isi_int_bool, isi_int_dict, isi_str_tuple, isi_str_list, isi_str_int, isi_str_str, isi_str_bool, isi_str_dict, isi_bl_tuple, isi_bl_list, isi_bl_int, isi_bl_str, isi_bl_bool, isi_bl_dict, isi_non_tuple, isi_non_list, isi_non_int, isi_non_str, isi_non_bool, isi_non_dict, isn_tup, isn_lst, isn_int, isn_str, isn_bl, isn_non, ixt0, ixt1, ixt2, ixt3, ixt4, ixt5, ixl0, ixl1, ixl2, ixl3, ixl4, ixl5, in_tupN, in_lstN, notin_tupN, notin_lstN, forS_vals, Bool.not_true, Bool.not_false, Bool.false_or, Bool.true_or, Bool.or_false, Bool.or_true, Bool.and_true, Bool.true_and, Bool.and_false, Bool.false_and, List.nil_append, List.cons_append, vIn2_rl0, vIn2_rd0, vNotIn2_rl0, vNotIn2_rd0, vSub2_rl0, vSub2_rd0, vLen_rl0, vTuple_rl0, vList_rl0, vSum_rl0, vAny_rl0, vAll_rl0, vSorted2_rl0, vMin_rl0, vMax_rl0, vSorted_rl0, vSorted2_rd0, vEq_rl0, vNe_rl0, asT_rl0, vAppend_r0, vExtend_r0, onTy_r0, vIn2_rl1, vIn2_rd1, vNotIn2_rl1, vNotIn2_rd1, vSub2_rl1, vSub2_rd1, vLen_rl1, vTuple_rl1, vList_rl1, vSum_rl1, vAny_rl1, vAll_rl1, vSorted2_rl1, vMin_rl1, vMax_rl1, vSorted_rl1, vSorted2_rd1, vEq_rl1, vNe_rl1, asT_rl1, vAppend_r1, vExtend_r1, onTy_r1, vIn2_rl2, vIn2_rd2, vNotIn2_rl2, vNotIn2_rd2, vSub2_rl2, vSub2_rd2, vLen_rl2, vTuple_rl2, vList_rl2, vSum_rl2, vAny_rl2, vAll_rl2, vSorted2_rl2, vMin_rl2, vMax_rl2, vSorted_rl2, vSorted2_rd2, vEq_rl2, vNe_rl2, asT_rl2, vAppend_r2, vExtend_r2, onTy_r2, vIn2_rl3, vIn2_rd3, vNotIn2_rl3, vNotIn2_rd3, vSub2_rl3, vSub2_rd3, vLen_rl3, vTuple_rl3, vList_rl3, vSum_rl3, vAny_rl3, vAll_rl3, vSorted2_rl3, vMin_rl3, vMax_rl3, vSorted_rl3, vSorted2_rd3, vEq_rl3, vNe_rl3, asT_rl3, vAppend_r3, vExtend_r3, onTy_r3, vIn2_rl4, vIn2_rd4, vNotIn2_rl4, vNotIn2_rd4, vSub2_rl4, vSub2_rd4, vLen_rl4, vTuple_rl4, vList_rl4, vSum_rl4, vAny_rl4, vAll_rl4, vSorted2_rl4, vMin_rl4, vMax_rl4, vSorted_rl4, vSorted2_rd4, vEq_rl4, vNe_rl4, asT_rl4, vAppend_r4, vExtend_r4, onTy_r4, all_tt, all_mapA, any_mapA, cut1, oneD, in_dct, notin_dct, dcS_vals, ev_mdc, dcE_ok, ↓dcp_mapM, check_ok ts h, List.length_nil, List.nil_append, forS, e]
end Y

namespace Y
open G PySem
/-! ### cuts -/
structure CutR (n : Nat) (c : List Nat) : Prop where
  a : ∀ k ∈ c, 1 ≤ k ∧ k < n
  l : c.length ≤ 8
  s : (c.zip (c.drop 1)).all (fun q => decide ((q.1 : Int) < (q.2 : Int))) = true
structure Cut (ts : List (List Deed)) (cs : List (List Nat)) : Prop where
  l : cs.length = ts.length
  r : ∀ q ∈ ts.zip cs, CutR q.1.length q.2
theorem Cut.get {ts : List (List Deed)} {cs : List (List Nat)} (h : Cut ts cs) {p : Nat} (hp : p < ts.length) : CutR (ts[p]!).length (cs[p]!) := by
  have hl := h.l
  refine h.r (ts[p]!, cs[p]!) ?_
  have : (ts.zip cs)[p]? = some (ts[p]!, cs[p]!) := by
    rw [List.getElem?_zip_eq_some]
    refine ⟨?_, ?_⟩
    · show ts[p]? = some ts[p]!
      rw [List.getElem!_eq_getElem?_getD, List.getElem?_eq_getElem hp]; rfl
    · show cs[p]? = some cs[p]!
      rw [List.getElem!_eq_getElem?_getD, List.getElem?_eq_getElem (by omega)]; rfl
  exact List.mem_of_getElem? this
theorem places_ok (r : List Deed) (c : List Nat) (hr : r.length ≤ 5) (h : CutR r.length c) (μ : Mu) : callD f_is_places [eR r, eL c] μ = .ok (.bl true) μ := by
  refine call_rt (ups2 (up_eR r) (up_eL c)) rfl (v := .bl true) (μ' := []) ?_ rfl μ
  show b_is_places [some (eR r), some (eL c), none, none, none] [] = _
  have hl := h.l
  have e1 : (c.all fun (k : Nat) => decide ((1 : Int) ≤ (k : Int)) && decide ((k : Int) < (r.length : Int))) = true := by
    rw [List.all_eq_true]
    intro k hk
    have := h.a k hk
    rw [decide_eq_true (by omega), decide_eq_true (by omega)]; rfl
  have e3 : (List.drop 1 (c.map eN)) = (c.drop 1).map eN := List.map_drop.symm
  have hz : (c.zip (c.drop 1)).length ≤ LIM := by rw [List.length_zip]; unfold LIM; omega
  unfold b_is_places
  simp (config := {implicitDefEqProofs := false}) (disch := (first | (with_reducible assumption) | omega | (with_reducible solve_by_elim (maxDepth := 3)) | (with_reducible exact lt_range (by with_reducible assumption)) | (with_reducible exact lt_rangeF (by with_reducible assumption)) | (with_reducible exact lt_range1 (by with_reducible assumption)) | (with_reducible exact lt_range1F (by with_reducible assumption)) | (simp only [List.length_map, List.length_range, List.length_range', List.length_cons, List.length_nil, List.length_append, LIM]; omega) | (simp only [List.length_map]; with_reducible assumption) | (simp only [List.length_map]; with_reducible solve_by_elim (maxDepth := 3)) | (simp only [List.length_map]; refine len_filter ?_; simp only [List.length_map, List.length_range, List.length_range', LIM]; omega))) only [ev_op2, ev_op1, ev_imm, ev_mut, ev_call, ev_anil, ev_acons, ev_cst, ev_seq, ev_skip, ev_asg, ev_ret, ev_drop, ev_if, ev_not, ev_and, ev_or, ev_ife, ev_bool, ev_truth, ev_mvar, lookR_ok, bnd_ok, bnd_exc, flw_ok, flw_exc, seq_nx', seq_rt', seq_exc', asB_bl, asT_bl, List.getElem?_cons_zero, List.getElem?_cons_succ, List.set_cons_zero, List.set_cons_succ, if_true, if_false, Bool.false_eq_true, bindK_some, cmpS_vals, catS_vals, ev_mlc, ev_mlc2, bndS_ok, ev_mraw, ↓cmp_mapM, ↓cat2_mapM, cmpM_no, catM_no, dcpM_no, cmp_pure, cmp_if, cat2_pure, cat2_if, bindT_nm, bindT_tup, bindT_lst, bindTs_nil, bindO_some, bindTs_cons, wipe_nil, wipe_cons, ev_iseq, asSrc_lst, asSrc_rol, asSrc_tup, oneC, oneI, List.map_cons, List.map_nil, ev_mand, ev_mor, ev_mnot, ev_tife, ev_tyes, ev_chain, ev_op2F, ev_op1F, ev_meth, ev_tupT, ev_lstL, ev_for, ev_setI, ev_raise, ev_brk, ev_cnt, ev_retN, ev_try, ev_asgT, ev_aug, ev_irng1, ev_irng2, ev_ienum, ev_izip, ev_slice, ev_onone, ev_osome, mkT_ok, mkL_ok, and_bl, or_bl, and_blF, and_t, or_t, chB_bl, putF_some, tryK_rt, tryK_nx, noX_rt, noX_nx, bindF_some, augK_ok, rg1_nat, rg2_zero, rg2_one, en1_tup, en1_lst, enums_map, zips_map, zp1_tup, zp1_lst, asI_int, slice_tup, slice_lst, slice_lst', ix_tupM, ix_lstM, len_tup, len_lst, tup_lst, tup_tup, list_lst, list_tup, shortOk, add_tup, add_lst, add_int, sub_int, neg_int, int_int, int_bl, eq_int, ne_int, lt_int, le_int, gt_int, ge_intE, eq_bl, ne_bl, isN_ok, notN_ok, List.length_map, List.map_map, List.length_cons, List.length_nil, isi_tup_tuple, isi_tup_list, isi_tup_int, isi_tup_str, isi_tup_bool, isi_tup_dict, isi_lst_tuple, isi_lst_list, isi_lst_int, isi_lst_str, isi_lst_bool, isi_lst_dict, isi_int_tuple, isi_int_list, isi_int_int, isi_int_str, isi_int_bool, isi_int_dict, isi_str_tuple, isi_str_list, isi_str_int, isi_str_str, isi_str_bool, isi_str_dict, isi_bl_tuple, isi_bl_list, isi_bl_int, isi_bl_str, isi_bl_bool, isi_bl_dict, isi_non_tuple, isi_non_list, isi_non_int, isi_non_str, isi_non_bool, isi_non_dict, isn_tup, isn_lst, isn_int, isn_str, isn_bl, isn_non, ixt0, ixt1, ixt2, ixt3, ixt4, ixt5, ixl0, ixl1, ixl2, ixl3, ixl4, ixl5, in_tupN, in_lstN, notin_tupN, notin_lstN, forS_vals, Bool.not_true, Bool.not_false, Bool.false_or, Bool.true_or, Bool.or_false, Bool.or_true, Bool.and_true, Bool.true_and, Bool.and_false, Bool.false_and, List.nil_append, List.cons_append, vIn2_rl0, vIn2_rd0, vNotIn2_rl0, vNotIn2_rd0, vSub2_rl0, vSub2_rd0, vLen_rl0, vTuple_rl0, vList_rl0, vSum_rl0, vAny_rl0, vAll_rl0, vSorted2_rl0, vMin_rl0, vMax_rl0, vSorted_rl0, vSorted2_rd0, vEq_rl0, vNe_rl0, asT_rl0, vAppend_r0, vExtend_r0, onTy_r0, vIn2_rl1, vIn2_rd1, vNotIn2_rl1, vNotIn2_rd1, vSub2_rl1, vSub2_rd1, vLen_rl1, vTuple_rl1, vList_rl1, vSum_rl1, vAny_rl1, vAll_rl1, vSorted2_rl1, vMin_rl1, vMax_rl1, vSorted_rl1, vSorted2_rd1, vEq_rl1, vNe_rl1, asT_rl1, vAppend_r1, vExtend_r1, onTy_r1, vIn2_rl2, vIn2_rd2, vNotIn2_rl2, vNotIn2_rd2, vSub2_rl2, vSub2_rd2, vLen_rl2, vTuple_rl2, vList_rl2, vSum_rl2, vAny_rl2, vAll_rl2, vSorted2_rl2, vMin_rl2, vMax_rl2, vSorted_rl2, vSorted2_rd2, vEq_rl2, vNe_rl2, asT_rl2, vAppend_r2, vExtend_r2, onTy_r2, vIn2_rl3, vIn2_rd3, vNotIn2_rl3, vNotIn2_rd3, vSub2_rl3, vSub2_rd3, vLen_rl3, vTuple_rl3, vList_rl3, vSum_rl3, vAny_rl3, vAll_rl3, vSorted2_rl3, vMin_rl3, vMax_rl3, vSorted_rl3, vSorted2_rd3, vEq_rl3, vNe_rl3, asT_rl3, vAppend_r3, vExtend_r3, onTy_r3, vIn2_rl4, vIn2_rd4, vNotIn2_rl4, vNotIn2_rd4, vSub2_rl4, vSub2_rd4, vLen_rl4, vTuple_rl4, vList_rl4, vSum_rl4, vAny_rl4, vAll_rl4, vSorted2_rl4, vMin_rl4, vMax_rl4, vSorted_rl4, vSorted2_rd4, vEq_rl4, vNe_rl4, asT_rl4, vAppend_r4, vExtend_r4, onTy_r4, all_tt, all_mapA, any_mapA, cut1, oneD, in_dct, notin_dct, dcS_vals, ev_mdc, dcE_ok, ↓dcp_mapM, whole_int, e1, e3, h.s]
theorem zip_len {α β : Type} (xs : List α) (ys : List β) : (xs.zip ys).length ≤ xs.length := by rw [List.length_zip]; omega
theorem iscut_ok {ts : List (List Deed)} (h : Good ts) {cs : List (List Nat)} (hc : Cut ts cs) (μ : Mu) : callD f_is_cut [eX ts, eC cs] μ = .ok (.bl true) μ := by
  refine call_rt (ups2 (up_eX ts) (up_eC cs)) rfl (v := .bl true) (μ' := []) ?_ rfl μ
  show b_is_cut [some (eX ts), some (eC cs), none, none] [] = _
  have hb := h.b
  have hz : (ts.zip cs).length ≤ LIM := by have := zip_len ts cs; unfold LIM; omega
  have hp : ∀ q, q ∈ ts.zip cs → ∀ μ, callD f_is_places [eR q.1, eL q.2] μ = .ok (.bl true) μ := fun q hq μ => places_ok _ _ ((h.r q.1 (List.of_mem_zip hq).1).b) (hc.r q hq) μ
  have e0 : ((cs.length : Int) == (ts.length : Int)) = true := by rw [hc.l]; exact beq_self_eq_true _
  unfold b_is_cut
  simp (config := {implicitDefEqProofs := false}) (disch := (first | (with_reducible assumption) | omega | (with_reducible solve_by_elim (maxDepth := 3)) | (with_reducible exact lt_range (by with_reducible assumption)) | (with_reducible exact lt_rangeF (by with_reducible assumption)) | (with_reducible exact lt_range1 (by with_reducible assumption)) | (with_reducible exact lt_range1F (by with_reducible assumption)) | (simp only [List.length_map, List.length_range, List.length_range', List.length_cons, List.length_nil, List.length_append, LIM]; omega) | (simp only [List.length_map]; with_reducible assumption) | (simp only [List.length_map]; with_reducible solve_by_elim (maxDepth := 3)) | (simp only [List.length_map]; refine len_filter ?_; simp only [List.length_map, List.length_range, List.length_range', LIM]; omega))) only [ev_op2, ev_op1, ev_imm, ev_mut, ev_call, ev_anil, ev_acons, ev_cst, ev_seq, ev_skip, ev_asg, ev_ret, ev_drop, ev_if, ev_not, ev_and, ev_or, ev_ife, ev_bool, ev_truth, ev_mvar, lookR_ok, bnd_ok, bnd_exc, flw_ok, flw_exc, seq_nx', seq_rt', seq_exc', asB_bl, asT_bl, List.getElem?_cons_zero, List.getElem?_cons_succ, List.set_cons_zero, List.set_cons_succ, if_true, if_false, Bool.false_eq_true, bindK_some, cmpS_vals, catS_vals, ev_mlc, ev_mlc2, bndS_ok, ev_mraw, ↓cmp_mapM, ↓cat2_mapM, cmpM_no, catM_no, dcpM_no, cmp_pure, cmp_if, cat2_pure, cat2_if, bindT_nm, bindT_tup, bindT_lst, bindTs_nil, bindO_some, bindTs_cons, wipe_nil, wipe_cons, ev_iseq, asSrc_lst, asSrc_rol, asSrc_tup, oneC, oneI, List.map_cons, List.map_nil, ev_mand, ev_mor, ev_mnot, ev_tife, ev_tyes, ev_chain, ev_op2F, ev_op1F, ev_meth, ev_tupT, ev_lstL, ev_for, ev_setI, ev_raise, ev_brk, ev_cnt, ev_retN, ev_try, ev_asgT, ev_aug, ev_irng1, ev_irng2, ev_ienum, ev_izip, ev_slice, ev_onone, ev_osome, mkT_ok, mkL_ok, and_bl, or_bl, and_blF, and_t, or_t, chB_bl, putF_some, tryK_rt, tryK_nx, noX_rt, noX_nx, bindF_some, augK_ok, rg1_nat, rg2_zero, rg2_one, en1_tup, en1_lst, enums_map, zips_map, zp1_tup, zp1_lst, asI_int, slice_tup, slice_lst, slice_lst', ix_tupM, ix_lstM, len_tup, len_lst, tup_lst, tup_tup, list_lst, list_tup, shortOk, add_tup, add_lst, add_int, sub_int, neg_int, int_int, int_bl, eq_int, ne_int, lt_int, le_int, gt_int, ge_intE, eq_bl, ne_bl, isN_ok, notN_ok, List.length_map, List.map_map, List.length_cons, List.length_nil, isi_tup_tuple, isi_tup_list, isi_tup_int, isi_tup_str, isi_tup_bool, isi_tup_dict, isi_lst_tuple, isi_lst_list, isi_lst_int, isi_lst_str, isi_lst_bool, isi_lst_dict, isi_int_tuple, isi_int_list, isi_int_int, isi_int_str, isi_int_bool, isi_int_dict, isi_str_tuple, isi_str_list, isi_str_int, isi_str_str, isi_str_bool, isi_str_dict, isi_bl_tuple, isi_bl_list, isi_bl_int, isi_bl_str, isi_bl_bool, isi_bl_dict, isi_non_tuple, isi_non_list, isi_non_int, isi_non_str, isi_non_bool, isi_non_dict, isn_tup, isn_lst, isn_int, isn_str, isn_bl, isn_non, ixt0, ixt1, ixt2, ixt3, ixt4, ixt5, ixl0, ixl1, ixl2, ixl3, ixl4, ixl5, in_tupN, in_lstN, notin_tupN, notin_lstN, forS_vals, Bool.not_true, Bool.not_false, Bool.false_or, Bool.true_or, Bool.or_false, Bool.or_true, Bool.and_true, Bool.true_and, Bool.and_false, Bool.false_and, List.nil_append, List.cons_append, vIn2_rl0, vIn2_rd0, vNotIn2_rl0, vNotIn2_rd0, vSub2_rl0, vSub2_rd0, vLen_rl0, vTuple_rl0, vList_rl0, vSum_rl0, vAny_rl0, vAll_rl0, vSorted2_rl0, vMin_rl0, vMax_rl0, vSorted_rl0, vSorted2_rd0, vEq_rl0, vNe_rl0, asT_rl0, vAppend_r0, vExtend_r0, onTy_r0, vIn2_rl1, vIn2_rd1, vNotIn2_rl1, vNotIn2_rd1, vSub2_rl1, vSub2_rd1, vLen_rl1, vTuple_rl1, vList_rl1, vSum_rl1, vAny_rl1, vAll_rl1, vSorted2_rl1, vMin_rl1, vMax_rl1, vSorted_rl1, vSorted2_rd1, vEq_rl1, vNe_rl1, asT_rl1, vAppend_r1, vExtend_r1, onTy_r1, vIn2_rl2, vIn2_rd2, vNotIn2_rl2, vNotIn2_rd2, vSub2_rl2, vSub2_rd2, vLen_rl2, vTuple_rl2, vList_rl2, vSum_rl2, vAny_rl2, vAll_rl2, vSorted2_rl2, vMin_rl2, vMax_rl2, vSorted_rl2, vSorted2_rd2, vEq_rl2, vNe_rl2, asT_rl2, vAppend_r2, vExtend_r2, onTy_r2, vIn2_rl3, vIn2_rd3, vNotIn2_rl3, vNotIn2_rd3, vSub2_rl3, vSub2_rd3, vLen_rl3, vTuple_rl3, vList_rl3, vSum_rl3, vAny_rl3, vAll_rl3, vSorted2_rl3, vMin_rl3, vMax_rl3, vSorted_rl3, vSorted2_rd3, vEq_rl3, vNe_rl3, asT_rl3, vAppend_r3, vExtend_r3, onTy_r3, vIn2_rl4, vIn2_rd4, vNotIn2_rl4, vNotIn2_rd4, vSub2_rl4, vSub2_rd4, vLen_rl4, vTuple_rl4, vList_rl4, vSum_rl4, vAny_rl4, vAll_rl4, vSorted2_rl4, vMin_rl4, vMax_rl4, vSorted_rl4, vSorted2_rd4, vEq_rl4, vNe_rl4, asT_rl4, vAppend_r4, vExtend_r4, onTy_r4, all_tt, all_mapA, any_mapA, cut1, oneD, in_dct, notin_dct, dcS_vals, ev_mdc, dcE_ok, ↓dcp_mapM, check_ok ts h, hp, e0]
theorem checkcut_ok {ts : List (List Deed)} (h : Good ts) {cs : List (List Nat)} (hc : Cut ts cs) (μ : Mu) : callD f_check_cut [eX ts, eC cs] μ = .ok .non μ := by
  refine call_nx (ups2 (up_eX ts) (up_eC cs)) rfl (sl := [some (eX ts), some (eC cs)]) (μ' := []) ?_ μ
  show b_check_cut [some (eX ts), some (eC cs)] [] = _
  unfold b_check_cut
  simp (config := {implicitDefEqProofs := false}) (disch := (first | (with_reducible assumption) | omega | (with_reducible solve_by_elim (maxDepth := 3)) | (with_reducible exact lt_range (by with_reducible assumption)) | (with_reducible exact lt_rangeF (by with_reducible assumption)) | (with_reducible exact lt_range1 (by with_reducible assumption)) | (with_reducible exact lt_range1F (by with_reducible assumption)) | (simp only [List.length_map, List.length_range, List.length_range', List.length_cons, List.length_nil, List.length_append, LIM]; omega) | (simp only [List.length_map]; with_reducible assumption) | (simp only [List.length_map]; with_reducible solve_by_elim (maxDepth := 3)) | (simp only [List.length_map]; refine len_filter ?_; simp only [List.length_map, List.length_range, List.length_range', LIM]; omega))) only [ev_op2, ev_op1, ev_imm, ev_mut, ev_call, ev_anil, ev_acons, ev_cst, ev_seq, ev_skip, ev_asg, ev_ret, ev_drop, ev_if, ev_not, ev_and, ev_or, ev_ife, ev_bool, ev_truth, ev_mvar, lookR_ok, bnd_ok, bnd_exc, flw_ok, flw_exc, seq_nx', seq_rt', seq_exc', asB_bl, asT_bl, List.getElem?_cons_zero, List.getElem?_cons_succ, List.set_cons_zero, List.set_cons_succ, if_true, if_false, Bool.false_eq_true, bindK_some, cmpS_vals, catS_vals, ev_mlc, ev_mlc2, bndS_ok, ev_mraw, ↓cmp_mapM, ↓cat2_mapM, cmpM_no, catM_no, dcpM_no, cmp_pure, cmp_if, cat2_pure, cat2_if, bindT_nm, bindT_tup, bindT_lst, bindTs_nil, bindO_some, bindTs_cons, wipe_nil, wipe_cons, ev_iseq, asSrc_lst, asSrc_rol, asSrc_tup, oneC, oneI, List.map_cons, List.map_nil, ev_mand, ev_mor, ev_mnot, ev_tife, ev_tyes, ev_chain, ev_op2F, ev_op1F, ev_meth, ev_tupT, ev_lstL, ev_for, ev_setI, ev_raise, ev_brk, ev_cnt, ev_retN, ev_try, ev_asgT, ev_aug, ev_irng1, ev_irng2, ev_ienum, ev_izip, ev_slice, ev_onone, ev_osome, mkT_ok, mkL_ok, and_bl, or_bl, and_blF, and_t, or_t, chB_bl, putF_some, tryK_rt, tryK_nx, noX_rt, noX_nx, bindF_some, augK_ok, rg1_nat, rg2_zero, rg2_one, en1_tup, en1_lst, enums_map, zips_map, zp1_tup, zp1_lst, asI_int, slice_tup, slice_lst, slice_lst', ix_tupM, ix_lstM, len_tup, len_lst, tup_lst, tup_tup, list_lst, list_tup, shortOk, add_tup, add_lst, add_int, sub_int, neg_int, int_int, int_bl, eq_int, ne_int, lt_int, le_int, gt_int, ge_intE, eq_bl, ne_bl, isN_ok, notN_ok, List.length_map, List.map_map, List.length_cons, List.length_nil, isi_tup_tuple, isi_tup_list, isi_tup_int, isi_tup_str, isi_tup_bool, isi_tup_dict, isi_lst_tuple, isi_lst_list, isi_lst_int, isi_lst_str, isi_lst_bool, isi_lst_dict, isi_int_tuple, isi_int_list, isi_int_int, isi_int_str, isi_int_bool, isi_int_dict, isi_str_tuple, isi_str_list, isi_str_int, isi_str_str, isi_str_bool, isi_str_dict, isi_bl_tuple, isi_bl_list, isi_bl_int, isi_bl_str, isi_bl_bool, isi_bl_dict, isi_non_tuple, isi_non_list, isi_non_int, isi_non_str, isi_non_bool, isi_non_dict, isn_tup, isn_lst, isn_int, isn_str, isn_bl, isn_non, ixt0, ixt1, ixt2, ixt3, ixt4, ixt5, ixl0, ixl1, ixl2, ixl3, ixl4, ixl5, in_tupN, in_lstN, notin_tupN, notin_lstN, forS_vals, Bool.not_true, Bool.not_false, Bool.false_or, Bool.true_or, Bool.or_false, Bool.or_true, Bool.and_true, Bool.true_and, Bool.and_false, Bool.false_and, List.nil_append, List.cons_append, vIn2_rl0, vIn2_rd0, vNotIn2_rl0, vNotIn2_rd0, vSub2_rl0, vSub2_rd0, vLen_rl0, vTuple_rl0, vList_rl0, vSum_rl0, vAny_rl0, vAll_rl0, vSorted2_rl0, vMin_rl0, vMax_rl0, vSorted_rl0, vSorted2_rd0, vEq_rl0, vNe_rl0, asT_rl0, vAppend_r0, vExtend_r0, onTy_r0, vIn2_rl1, vIn2_rd1, vNotIn2_rl1, vNotIn2_rd1, vSub2_rl1, vSub2_rd1, vLen_rl1, vTuple_rl1, vList_rl1, vSum_rl1, vAny_rl1, vAll_rl1, vSorted2_rl1, vMin_rl1, vMax_rl1, vSorted_rl1, vSorted2_rd1, vEq_rl1, vNe_rl1, asT_rl1, vAppend_r1, vExtend_r1, onTy_r1, vIn2_rl2, vIn2_rd2, vNotIn2_rl2, vNotIn2_rd2, vSub2_rl2, vSub2_rd2, vLen_rl2, vTuple_rl2, vList_rl2, vSum_rl2, vAny_rl2, vAll_rl2, vSorted2_rl2, vMin_rl2, vMax_rl2, vSorted_rl2, vSorted2_rd2, vEq_rl2, vNe_rl2, asT_rl2, vAppend_r2, vExtend_r2, onTy_r2, vIn2_rl3, vIn2_rd3, vNotIn2_rl3, vNotIn2_rd3, vSub2_rl3, vSub2_rd3, vLen_rl3, vTuple_rl3, vList_rl3, vSum_rl3, vAny_rl3, vAll_rl3, vSorted2_rl3, vMin_rl3, vMax_rl3, vSorted_rl3, vSorted2_rd3, vEq_rl3, vNe_rl3, asT_rl3, vAppend_r3, vExtend_r3, onTy_r3, vIn2_rl4, vIn2_rd4, vNotIn2_rl4, vNotIn2_rd4, vSub2_rl4, vSub2_rd4, vLen_rl4, vTuple_rl4, vList_rl4, vSum_rl4, vAny_rl4, vAll_rl4, vSorted2_rl4, vMin_rl4, vMax_rl4, vSorted_rl4, vSorted2_rd4, vEq_rl4, vNe_rl4, asT_rl4, vAppend_r4, vExtend_r4, onTy_r4, all_tt, all_mapA, any_mapA, cut1, oneD, in_dct, notin_dct, dcS_vals, ev_mdc, dcE_ok, ↓dcp_mapM, iscut_ok h hc]
def piece (c : List Nat) (i : Nat) : Nat := (c.filter fun (k : Nat) => decide ((k : Int) ≤ (i : Int))).length
theorem piece_ok (c : List Nat) (i : Nat) (h : c.length ≤ 8) (μ : Mu) : callD f_piece_of [eL c, .int (i : Int)] μ = .ok (.int (piece c i : Nat)) μ := by
  refine call_rt (ups2 (up_eL c) rfl) rfl (v := .int (piece c i : Nat)) (μ' := []) ?_ rfl μ
  show b_piece_of [some (eL c), some (.int (i : Int)), none] [] = _
  unfold b_piece_of
  have hl : (c.filter fun (k : Nat) => decide ((k : Int) ≤ (i : Int))).length ≤ LIM := len_filter (by unfold LIM; omega)
  simp (config := {implicitDefEqProofs := false}) (disch := (first | (with_reducible assumption) | omega | (with_reducible solve_by_elim (maxDepth := 3)) | (with_reducible exact lt_range (by with_reducible assumption)) | (with_reducible exact lt_rangeF (by with_reducible assumption)) | (with_reducible exact lt_range1 (by with_reducible assumption)) | (with_reducible exact lt_range1F (by with_reducible assumption)) | (simp only [List.length_map, List.length_range, List.length_range', List.length_cons, List.length_nil, List.length_append, LIM]; omega) | (simp only [List.length_map]; with_reducible assumption) | (simp only [List.length_map]; with_reducible solve_by_elim (maxDepth := 3)) | (simp only [List.length_map]; refine len_filter ?_; simp only [List.length_map, List.length_range, List.length_range', LIM]; omega))) only [ev_op2, ev_op1, ev_imm, ev_mut, ev_call, ev_anil, ev_acons, ev_cst, ev_seq, ev_skip, ev_asg, ev_ret, ev_drop, ev_if, ev_not, ev_and, ev_or, ev_ife, ev_bool, ev_truth, ev_mvar, lookR_ok, bnd_ok, bnd_exc, flw_ok, flw_exc, seq_nx', seq_rt', seq_exc', asB_bl, asT_bl, List.getElem?_cons_zero, List.getElem?_cons_succ, List.set_cons_zero, List.set_cons_succ, if_true, if_false, Bool.false_eq_true, bindK_some, cmpS_vals, catS_vals, ev_mlc, ev_mlc2, bndS_ok, ev_mraw, ↓cmp_mapM, ↓cat2_mapM, cmpM_no, catM_no, dcpM_no, cmp_pure, cmp_if, cat2_pure, cat2_if, bindT_nm, bindT_tup, bindT_lst, bindTs_nil, bindO_some, bindTs_cons, wipe_nil, wipe_cons, ev_iseq, asSrc_lst, asSrc_rol, asSrc_tup, oneC, oneI, List.map_cons, List.map_nil, ev_mand, ev_mor, ev_mnot, ev_tife, ev_tyes, ev_chain, ev_op2F, ev_op1F, ev_meth, ev_tupT, ev_lstL, ev_for, ev_setI, ev_raise, ev_brk, ev_cnt, ev_retN, ev_try, ev_asgT, ev_aug, ev_irng1, ev_irng2, ev_ienum, ev_izip, ev_slice, ev_onone, ev_osome, mkT_ok, mkL_ok, and_bl, or_bl, and_blF, and_t, or_t, chB_bl, putF_some, tryK_rt, tryK_nx, noX_rt, noX_nx, bindF_some, augK_ok, rg1_nat, rg2_zero, rg2_one, en1_tup, en1_lst, enums_map, zips_map, zp1_tup, zp1_lst, asI_int, slice_tup, slice_lst, slice_lst', ix_tupM, ix_lstM, len_tup, len_lst, tup_lst, tup_tup, list_lst, list_tup, shortOk, add_tup, add_lst, add_int, sub_int, neg_int, int_int, int_bl, eq_int, ne_int, lt_int, le_int, gt_int, ge_intE, eq_bl, ne_bl, isN_ok, notN_ok, List.length_map, List.map_map, List.length_cons, List.length_nil, isi_tup_tuple, isi_tup_list, isi_tup_int, isi_tup_str, isi_tup_bool, isi_tup_dict, isi_lst_tuple, isi_lst_list, isi_lst_int, isi_lst_str, isi_lst_bool, isi_lst_dict, isi_int_tuple, isi_int_list, isi_int_int, isi_int_str, isi_int_bool, isi_int_dict, isi_str_tuple, isi_str_list, isi_str_int, isi_str_str, isi_str_bool, isi_str_dict, isi_bl_tuple, isi_bl_list, isi_bl_int, isi_bl_str, isi_bl_bool, isi_bl_dict, isi_non_tuple, isi_non_list, isi_non_int, isi_non_str, isi_non_bool, isi_non_dict, isn_tup, isn_lst, isn_int, isn_str, isn_bl, isn_non, ixt0, ixt1, ixt2, ixt3, ixt4, ixt5, ixl0, ixl1, ixl2, ixl3, ixl4, ixl5, in_tupN, in_lstN, notin_tupN, notin_lstN, forS_vals, Bool.not_true, Bool.not_false, Bool.false_or, Bool.true_or, Bool.or_false, Bool.or_true, Bool.and_true, Bool.true_and, Bool.and_false, Bool.false_and, List.nil_append, List.cons_append, vIn2_rl0, vIn2_rd0, vNotIn2_rl0, vNotIn2_rd0, vSub2_rl0, vSub2_rd0, vLen_rl0, vTuple_rl0, vList_rl0, vSum_rl0, vAny_rl0, vAll_rl0, vSorted2_rl0, vMin_rl0, vMax_rl0, vSorted_rl0, vSorted2_rd0, vEq_rl0, vNe_rl0, asT_rl0, vAppend_r0, vExtend_r0, onTy_r0, vIn2_rl1, vIn2_rd1, vNotIn2_rl1, vNotIn2_rd1, vSub2_rl1, vSub2_rd1, vLen_rl1, vTuple_rl1, vList_rl1, vSum_rl1, vAny_rl1, vAll_rl1, vSorted2_rl1, vMin_rl1, vMax_rl1, vSorted_rl1, vSorted2_rd1, vEq_rl1, vNe_rl1, asT_rl1, vAppend_r1, vExtend_r1, onTy_r1, vIn2_rl2, vIn2_rd2, vNotIn2_rl2, vNotIn2_rd2, vSub2_rl2, vSub2_rd2, vLen_rl2, vTuple_rl2, vList_rl2, vSum_rl2, vAny_rl2, vAll_rl2, vSorted2_rl2, vMin_rl2, vMax_rl2, vSorted_rl2, vSorted2_rd2, vEq_rl2, vNe_rl2, asT_rl2, vAppend_r2, vExtend_r2, onTy_r2, vIn2_rl3, vIn2_rd3, vNotIn2_rl3, vNotIn2_rd3, vSub2_rl3, vSub2_rd3, vLen_rl3, vTuple_rl3, vList_rl3, vSum_rl3, vAny_rl3, vAll_rl3, vSorted2_rl3, vMin_rl3, vMax_rl3, vSorted_rl3, vSorted2_rd3, vEq_rl3, vNe_rl3, asT_rl3, vAppend_r3, vExtend_r3, onTy_r3, vIn2_rl4, vIn2_rd4, vNotIn2_rl4, vNotIn2_rd4, vSub2_rl4, vSub2_rd4, vLen_rl4, vTuple_rl4, vList_rl4, vSum_rl4, vAny_rl4, vAll_rl4, vSorted2_rl4, vMin_rl4, vMax_rl4, vSorted_rl4, vSorted2_rd4, vEq_rl4, vNe_rl4, asT_rl4, vAppend_r4, vExtend_r4, onTy_r4, all_tt, all_mapA, any_mapA, cut1, oneD, in_dct, notin_dct, dcS_vals, ev_mdc, dcE_ok, ↓dcp_mapM]
  rfl
/-- a ring between two deeds of unlike pieces -/
def bad (ts : List (List Deed)) (cs : List (List Nat)) (p k i : Nat) : Bool := jn ts p i k && !((piece (cs[p]!) i : Int) == (piece (cs[p]!) k : Int))
def bad3 (ts : List (List Deed)) (cs : List (List Nat)) : Bool := ts.zipIdx.any fun q => (List.range q.1.length).any fun k => (List.range k).any fun i => bad ts cs q.2 k i
theorem first_ok {ts : List (List Deed)} (h : Good ts) {cs : List (List Nat)} (hc : Cut ts cs) : ∃ v, up v = 0 ∧ isNonB v = !(bad3 ts cs) ∧ ∀ μ, callD f_first_ring [eX ts, eC cs] μ = .ok v μ := by
  have hs := h.small
  have hb := h.b
  have hl := hc.l
  have L3 : ∀ p k, p < ts.length → k < (ts[p]!).length → ∀ (x y z : Option Val), _ := fun p k hp hk x y z =>
    forL_ret (t := .nm 5) (body := l1_first_ring) eN (fun sl μ => ∃ y z, sl = [some (eX ts), some (eC cs), some (.int (p : Int)), x, some (.int (k : Int)), y, z] ∧ μ = []) (fun i => bad ts cs p k i) (fun i v μ => up v = 0 ∧ isNonB v = false) (List.range k) [some (eX ts), some (eC cs), some (.int (p : Int)), x, some (.int (k : Int)), y, z] [] ⟨y, z, rfl, rfl⟩ (by
      rintro i hi _ _ ⟨y, z, rfl, rfl⟩
      have hik := List.mem_range.mp hi
      obtain ⟨hu, hr⟩ := rb_ok hs hp (i := i) (by omega) hk
      have hcr := hc.get hp
      have hp1 := piece_ok (cs[p]!) i hcr.l
      have hp2 := piece_ok (cs[p]!) k hcr.l
      have hpc : p < cs.length := by omega
      refine ⟨_, rfl, ?_⟩
      cases hbad : bad ts cs p k i with
      | false =>
        refine .inl ⟨rfl, [some (eX ts), some (eC cs), some (.int (p : Int)), x, some (.int (k : Int)), some (eN i), some (rb ts p i k)], [], .inl ?_, _, _, rfl, rfl⟩
        unfold bad jn at hbad
        simp (config := {implicitDefEqProofs := false}) (disch := (first | (with_reducible assumption) | omega | (with_reducible solve_by_elim (maxDepth := 3)) | (with_reducible exact lt_range (by with_reducible assumption)) | (with_reducible exact lt_rangeF (by with_reducible assumption)) | (with_reducible exact lt_range1 (by with_reducible assumption)) | (with_reducible exact lt_range1F (by with_reducible assumption)) | (simp only [List.length_map, List.length_range, List.length_range', List.length_cons, List.length_nil, List.length_append, LIM]; omega) | (simp only [List.length_map]; with_reducible assumption) | (simp only [List.length_map]; with_reducible solve_by_elim (maxDepth := 3)) | (simp only [List.length_map]; refine len_filter ?_; simp only [List.length_map, List.length_range, List.length_range', LIM]; omega))) only [ev_op2, ev_op1, ev_imm, ev_mut, ev_call, ev_anil, ev_acons, ev_cst, ev_seq, ev_skip, ev_asg, ev_ret, ev_drop, ev_if, ev_not, ev_and, ev_or, ev_ife, ev_bool, ev_truth, ev_mvar, lookR_ok, bnd_ok, bnd_exc, flw_ok, flw_exc, seq_nx', seq_rt', seq_exc', asB_bl, asT_bl, List.getElem?_cons_zero, List.getElem?_cons_succ, List.set_cons_zero, List.set_cons_succ, if_true, if_false, Bool.false_eq_true, bindK_some, cmpS_vals, catS_vals, ev_mlc, ev_mlc2, bndS_ok, ev_mraw, ↓cmp_mapM, ↓cat2_mapM, cmpM_no, catM_no, dcpM_no, cmp_pure, cmp_if, cat2_pure, cat2_if, bindT_nm, bindT_tup, bindT_lst, bindTs_nil, bindO_some, bindTs_cons, wipe_nil, wipe_cons, ev_iseq, asSrc_lst, asSrc_rol, asSrc_tup, oneC, oneI, List.map_cons, List.map_nil, ev_mand, ev_mor, ev_mnot, ev_tife, ev_tyes, ev_chain, ev_op2F, ev_op1F, ev_meth, ev_tupT, ev_lstL, ev_for, ev_setI, ev_raise, ev_brk, ev_cnt, ev_retN, ev_try, ev_asgT, ev_aug, ev_irng1, ev_irng2, ev_ienum, ev_izip, ev_slice, ev_onone, ev_osome, mkT_ok, mkL_ok, and_bl, or_bl, and_blF, and_t, or_t, chB_bl, putF_some, tryK_rt, tryK_nx, noX_rt, noX_nx, bindF_some, augK_ok, rg1_nat, rg2_zero, rg2_one, en1_tup, en1_lst, enums_map, zips_map, zp1_tup, zp1_lst, asI_int, slice_tup, slice_lst, slice_lst', ix_tupM, ix_lstM, len_tup, len_lst, tup_lst, tup_tup, list_lst, list_tup, shortOk, add_tup, add_lst, add_int, sub_int, neg_int, int_int, int_bl, eq_int, ne_int, lt_int, le_int, gt_int, ge_intE, eq_bl, ne_bl, isN_ok, notN_ok, List.length_map, List.map_map, List.length_cons, List.length_nil, isi_tup_tuple, isi_tup_list, isi_tup_int, isi_tup_str, isi_tup_bool, isi_tup_dict, isi_lst_tuple, isi_lst_list, isi_lst_int, isi_lst_str, isi_lst_bool, isi_lst_dict, isi_int_tuple, isi_int_list, isi_int_int, isi_int_str, isi_int_bool, isi_int_dict, isi_str_tuple, isi_str_list, isi_str_int, isi_str_str, isi_str_bool, isi_str_dict, isi_bl_tuple, isi_bl_list, isi_bl_int, isi_bl_str, isi_bl_bool, isi_bl_dict, isi_non_tuple, isi_non_list, isi_non_int, isi_non_str, isi_non_bool, isi_non_dict, isn_tup, isn_lst, isn_int, isn_str, isn_bl, isn_non, ixt0, ixt1, ixt2, ixt3, ixt4, ixt5, ixl0, ixl1, ixl2, ixl3, ixl4, ixl5, in_tupN, in_lstN, notin_tupN, notin_lstN, forS_vals, Bool.not_true, Bool.not_false, Bool.false_or, Bool.true_or, Bool.or_false, Bool.or_true, Bool.and_true, Bool.true_and, Bool.and_false, Bool.false_and, List.nil_append, List.cons_append, vIn2_rl0, vIn2_rd0, vNotIn2_rl0, vNotIn2_rd0, vSub2_rl0, vSub2_rd0, vLen_rl0, vTuple_rl0, vList_rl0, vSum_rl0, vAny_rl0, vAll_rl0, vSorted2_rl0, vMin_rl0, vMax_rl0, vSorted_rl0, vSorted2_rd0, vEq_rl0, vNe_rl0, asT_rl0, vAppend_r0, vExtend_r0, onTy_r0, vIn2_rl1, vIn2_rd1, vNotIn2_rl1, vNotIn2_rd1, vSub2_rl1, vSub2_rd1, vLen_rl1, vTuple_rl1, vList_rl1, vSum_rl1, vAny_rl1, vAll_rl1, vSorted2_rl1, vMin_rl1, vMax_rl1, vSorted_rl1, vSorted2_rd1, vEq_rl1, vNe_rl1, asT_rl1, vAppend_r1, vExtend_r1, onTy_r1, vIn2_rl2, vIn2_rd2, vNotIn2_rl2, vNotIn2_rd2, vSub2_rl2, vSub2_rd2, vLen_rl2, vTuple_rl2, vList_rl2, vSum_rl2, vAny_rl2, vAll_rl2, vSorted2_rl2, vMin_rl2, vMax_rl2, vSorted_rl2, vSorted2_rd2, vEq_rl2, vNe_rl2, asT_rl2, vAppend_r2, vExtend_r2, onTy_r2, vIn2_rl3, vIn2_rd3, vNotIn2_rl3, vNotIn2_rd3, vSub2_rl3, vSub2_rd3, vLen_rl3, vTuple_rl3, vList_rl3, vSum_rl3, vAny_rl3, vAll_rl3, vSorted2_rl3, vMin_rl3, vMax_rl3, vSorted_rl3, vSorted2_rd3, vEq_rl3, vNe_rl3, asT_rl3, vAppend_r3, vExtend_r3, onTy_r3, vIn2_rl4, vIn2_rd4, vNotIn2_rl4, vNotIn2_rd4, vSub2_rl4, vSub2_rd4, vLen_rl4, vTuple_rl4, vList_rl4, vSum_rl4, vAny_rl4, vAll_rl4, vSorted2_rl4, vMin_rl4, vMax_rl4, vSorted_rl4, vSorted2_rd4, vEq_rl4, vNe_rl4, asT_rl4, vAppend_r4, vExtend_r4, onTy_r4, all_tt, all_mapA, any_mapA, cut1, oneD, in_dct, notin_dct, dcS_vals, ev_mdc, dcE_ok, ↓dcp_mapM, hr, hp1, hp2, hbad]
      | true =>
        refine .inr ⟨rfl, .tup [.str "ring", .int (p : Int), eN i, rb ts p i k, .int (k : Int)], [], ?_, ?_, rfl⟩
        · unfold bad jn at hbad
          simp (config := {implicitDefEqProofs := false}) (disch := (first | (with_reducible assumption) | omega | (with_reducible solve_by_elim (maxDepth := 3)) | (with_reducible exact lt_range (by with_reducible assumption)) | (with_reducible exact lt_rangeF (by with_reducible assumption)) | (with_reducible exact lt_range1 (by with_reducible assumption)) | (with_reducible exact lt_range1F (by with_reducible assumption)) | (simp only [List.length_map, List.length_range, List.length_range', List.length_cons, List.length_nil, List.length_append, LIM]; omega) | (simp only [List.length_map]; with_reducible assumption) | (simp only [List.length_map]; with_reducible solve_by_elim (maxDepth := 3)) | (simp only [List.length_map]; refine len_filter ?_; simp only [List.length_map, List.length_range, List.length_range', LIM]; omega))) only [ev_op2, ev_op1, ev_imm, ev_mut, ev_call, ev_anil, ev_acons, ev_cst, ev_seq, ev_skip, ev_asg, ev_ret, ev_drop, ev_if, ev_not, ev_and, ev_or, ev_ife, ev_bool, ev_truth, ev_mvar, lookR_ok, bnd_ok, bnd_exc, flw_ok, flw_exc, seq_nx', seq_rt', seq_exc', asB_bl, asT_bl, List.getElem?_cons_zero, List.getElem?_cons_succ, List.set_cons_zero, List.set_cons_succ, if_true, if_false, Bool.false_eq_true, bindK_some, cmpS_vals, catS_vals, ev_mlc, ev_mlc2, bndS_ok, ev_mraw, ↓cmp_mapM, ↓cat2_mapM, cmpM_no, catM_no, dcpM_no, cmp_pure, cmp_if, cat2_pure, cat2_if, bindT_nm, bindT_tup, bindT_lst, bindTs_nil, bindO_some, bindTs_cons, wipe_nil, wipe_cons, ev_iseq, asSrc_lst, asSrc_rol, asSrc_tup, oneC, oneI, List.map_cons, List.map_nil, ev_mand, ev_mor, ev_mnot, ev_tife, ev_tyes, ev_chain, ev_op2F, ev_op1F, ev_meth, ev_tupT, ev_lstL, ev_for, ev_setI, ev_raise, ev_brk, ev_cnt, ev_retN, ev_try, ev_asgT, ev_aug, ev_irng1, ev_irng2, ev_ienum, ev_izip, ev_slice, ev_onone, ev_osome, mkT_ok, mkL_ok, and_bl, or_bl, and_blF, and_t, or_t, chB_bl, putF_some, tryK_rt, tryK_nx, noX_rt, noX_nx, bindF_some, augK_ok, rg1_nat, rg2_zero, rg2_one, en1_tup, en1_lst, enums_map, zips_map, zp1_tup, zp1_lst, asI_int, slice_tup, slice_lst, slice_lst', ix_tupM, ix_lstM, len_tup, len_lst, tup_lst, tup_tup, list_lst, list_tup, shortOk, add_tup, add_lst, add_int, sub_int, neg_int, int_int, int_bl, eq_int, ne_int, lt_int, le_int, gt_int, ge_intE, eq_bl, ne_bl, isN_ok, notN_ok, List.length_map, List.map_map, List.length_cons, List.length_nil, isi_tup_tuple, isi_tup_list, isi_tup_int, isi_tup_str, isi_tup_bool, isi_tup_dict, isi_lst_tuple, isi_lst_list, isi_lst_int, isi_lst_str, isi_lst_bool, isi_lst_dict, isi_int_tuple, isi_int_list, isi_int_int, isi_int_str, isi_int_bool, isi_int_dict, isi_str_tuple, isi_str_list, isi_str_int, isi_str_str, isi_str_bool, isi_str_dict, isi_bl_tuple, isi_bl_list, isi_bl_int, isi_bl_str, isi_bl_bool, isi_bl_dict, isi_non_tuple, isi_non_list, isi_non_int, isi_non_str, isi_non_bool, isi_non_dict, isn_tup, isn_lst, isn_int, isn_str, isn_bl, isn_non, ixt0, ixt1, ixt2, ixt3, ixt4, ixt5, ixl0, ixl1, ixl2, ixl3, ixl4, ixl5, in_tupN, in_lstN, notin_tupN, notin_lstN, forS_vals, Bool.not_true, Bool.not_false, Bool.false_or, Bool.true_or, Bool.or_false, Bool.or_true, Bool.and_true, Bool.true_and, Bool.and_false, Bool.false_and, List.nil_append, List.cons_append, vIn2_rl0, vIn2_rd0, vNotIn2_rl0, vNotIn2_rd0, vSub2_rl0, vSub2_rd0, vLen_rl0, vTuple_rl0, vList_rl0, vSum_rl0, vAny_rl0, vAll_rl0, vSorted2_rl0, vMin_rl0, vMax_rl0, vSorted_rl0, vSorted2_rd0, vEq_rl0, vNe_rl0, asT_rl0, vAppend_r0, vExtend_r0, onTy_r0, vIn2_rl1, vIn2_rd1, vNotIn2_rl1, vNotIn2_rd1, vSub2_rl1, vSub2_rd1, vLen_rl1, vTuple_rl1, vList_rl1, vSum_rl1, vAny_rl1, vAll_rl1, vSorted2_rl1, vMin_rl1, vMax_rl1, vSorted_rl1, vSorted2_rd1, vEq_rl1, vNe_rl1, asT_rl1, vAppend_r1, vExtend_r1, onTy_r1, vIn2_rl2, vIn2_rd2, vNotIn2_rl2, vNotIn2_rd2, vSub2_rl2, vSub2_rd2, vLen_rl2, vTuple_rl2, vList_rl2, vSum_rl2, vAny_rl2, vAll_rl2, vSorted2_rl2, vMin_rl2, vMax_rl2, vSorted_rl2, vSorted2_rd2, vEq_rl2, vNe_rl2, asT_rl2, vAppend_r2, vExtend_r2, onTy_r2, vIn2_rl3, vIn2_rd3, vNotIn2_rl3, vNotIn2_rd3, vSub2_rl3, vSub2_rd3, vLen_rl3, vTuple_rl3, vList_rl3, vSum_rl3, vAny_rl3, vAll_rl3, vSorted2_rl3, vMin_rl3, vMax_rl3, vSorted_rl3, vSorted2_rd3, vEq_rl3, vNe_rl3, asT_rl3, vAppend_r3, vExtend_r3, onTy_r3, vIn2_rl4, vIn2_rd4, vNotIn2_rl4, vNotIn2_rd4, vSub2_rl4, vSub2_rd4, vLen_rl4, vTuple_rl4, vList_rl4, vSum_rl4, vAny_rl4, vAll_rl4, vSorted2_rl4, vMin_rl4, vMax_rl4, vSorted_rl4, vSorted2_rd4, vEq_rl4, vNe_rl4, asT_rl4, vAppend_r4, vExtend_r4, onTy_r4, all_tt, all_mapA, any_mapA, cut1, oneD, in_dct, notin_dct, dcS_vals, ev_mdc, dcE_ok, ↓dcp_mapM, hr, hp1, hp2, hbad]
        · show max 0 (max 0 (max 0 (max (up (rb ts p i k)) (max 0 0)))) = 0
          rw [hu]; rfl)
  have L2' : ∀ p, p < ts.length → ∀ (u y z : Option Val), _ := fun p hp u y z =>
    forL_ret (t := .nm 4) (body := (sseq (sfor (irng1 (acons (mvar 4) (anil))) (.nm 5)
        l1_first_ring)
      (sskip))) eN (fun sl μ => ∃ u y z, sl = [some (eX ts), some (eC cs), some (.int (p : Int)), some (eR (ts[p]!)), u, y, z] ∧ μ = []) (fun k => (List.range k).any fun i => bad ts cs p k i) (fun k v μ => up v = 0 ∧ isNonB v = false) (List.range (ts[p]!).length) [some (eX ts), some (eC cs), some (.int (p : Int)), some (eR (ts[p]!)), u, y, z] [] ⟨u, y, z, rfl, rfl⟩ (by
      rintro k hk _ _ ⟨u, y, z, rfl, rfl⟩
      have hk' := List.mem_range.mp hk
      have := hs.get hp
      refine ⟨_, rfl, ?_⟩
      rcases L3 p k hp hk' (some (eR (ts[p]!))) y z with ⟨h1, _, _, e, y', z', rfl, rfl⟩ | ⟨i, hf, v, μ', e, hv⟩
      · refine .inl ⟨h1, _, _, .inl ?_, some (.int (k : Int)), y', z', rfl, rfl⟩
        simp (config := {implicitDefEqProofs := false}) (disch := (first | (with_reducible assumption) | omega | (with_reducible solve_by_elim (maxDepth := 3)) | (with_reducible exact lt_range (by with_reducible assumption)) | (with_reducible exact lt_rangeF (by with_reducible assumption)) | (with_reducible exact lt_range1 (by with_reducible assumption)) | (with_reducible exact lt_range1F (by with_reducible assumption)) | (simp only [List.length_map, List.length_range, List.length_range', List.length_cons, List.length_nil, List.length_append, LIM]; omega) | (simp only [List.length_map]; with_reducible assumption) | (simp only [List.length_map]; with_reducible solve_by_elim (maxDepth := 3)) | (simp only [List.length_map]; refine len_filter ?_; simp only [List.length_map, List.length_range, List.length_range', LIM]; omega))) only [ev_op2, ev_op1, ev_imm, ev_mut, ev_call, ev_anil, ev_acons, ev_cst, ev_seq, ev_skip, ev_asg, ev_ret, ev_drop, ev_if, ev_not, ev_and, ev_or, ev_ife, ev_bool, ev_truth, ev_mvar, lookR_ok, bnd_ok, bnd_exc, flw_ok, flw_exc, seq_nx', seq_rt', seq_exc', asB_bl, asT_bl, List.getElem?_cons_zero, List.getElem?_cons_succ, List.set_cons_zero, List.set_cons_succ, if_true, if_false, Bool.false_eq_true, bindK_some, cmpS_vals, catS_vals, ev_mlc, ev_mlc2, bndS_ok, ev_mraw, ↓cmp_mapM, ↓cat2_mapM, cmpM_no, catM_no, dcpM_no, cmp_pure, cmp_if, cat2_pure, cat2_if, bindT_nm, bindT_tup, bindT_lst, bindTs_nil, bindO_some, bindTs_cons, wipe_nil, wipe_cons, ev_iseq, asSrc_lst, asSrc_rol, asSrc_tup, oneC, oneI, List.map_cons, List.map_nil, ev_mand, ev_mor, ev_mnot, ev_tife, ev_tyes, ev_chain, ev_op2F, ev_op1F, ev_meth, ev_tupT, ev_lstL, ev_for, ev_setI, ev_raise, ev_brk, ev_cnt, ev_retN, ev_try, ev_asgT, ev_aug, ev_irng1, ev_irng2, ev_ienum, ev_izip, ev_slice, ev_onone, ev_osome, mkT_ok, mkL_ok, and_bl, or_bl, and_blF, and_t, or_t, chB_bl, putF_some, tryK_rt, tryK_nx, noX_rt, noX_nx, bindF_some, augK_ok, rg1_nat, rg2_zero, rg2_one, en1_tup, en1_lst, enums_map, zips_map, zp1_tup, zp1_lst, asI_int, slice_tup, slice_lst, slice_lst', ix_tupM, ix_lstM, len_tup, len_lst, tup_lst, tup_tup, list_lst, list_tup, shortOk, add_tup, add_lst, add_int, sub_int, neg_int, int_int, int_bl, eq_int, ne_int, lt_int, le_int, gt_int, ge_intE, eq_bl, ne_bl, isN_ok, notN_ok, List.length_map, List.map_map, List.length_cons, List.length_nil, isi_tup_tuple, isi_tup_list, isi_tup_int, isi_tup_str, isi_tup_bool, isi_tup_dict, isi_lst_tuple, isi_lst_list, isi_lst_int, isi_lst_str, isi_lst_bool, isi_lst_dict, isi_int_tuple, isi_int_list, isi_int_int, isi_int_str, isi_int_bool, isi_int_dict, isi_str_tuple, isi_str_list, isi_str_int, isi_str_str, isi_str_bool, isi_str_dict, isi_bl_tuple, isi_bl_list, isi_bl_int, isi_bl_str, isi_bl_bool, isi_bl_dict, isi_non_tuple, isi_non_list, isi_non_int, isi_non_str, isi_non_bool, isi_non_dict, isn_tup, isn_lst, isn_int, isn_str, isn_bl, isn_non, ixt0, ixt1, ixt2, ixt3, ixt4, ixt5, ixl0, ixl1, ixl2, ixl3, ixl4, ixl5, in_tupN, in_lstN, notin_tupN, notin_lstN, forS_vals, Bool.not_true, Bool.not_false, Bool.false_or, Bool.true_or, Bool.or_false, Bool.or_true, Bool.and_true, Bool.true_and, Bool.and_false, Bool.false_and, List.nil_append, List.cons_append, vIn2_rl0, vIn2_rd0, vNotIn2_rl0, vNotIn2_rd0, vSub2_rl0, vSub2_rd0, vLen_rl0, vTuple_rl0, vList_rl0, vSum_rl0, vAny_rl0, vAll_rl0, vSorted2_rl0, vMin_rl0, vMax_rl0, vSorted_rl0, vSorted2_rd0, vEq_rl0, vNe_rl0, asT_rl0, vAppend_r0, vExtend_r0, onTy_r0, vIn2_rl1, vIn2_rd1, vNotIn2_rl1, vNotIn2_rd1, vSub2_rl1, vSub2_rd1, vLen_rl1, vTuple_rl1, vList_rl1, vSum_rl1, vAny_rl1, vAll_rl1, vSorted2_rl1, vMin_rl1, vMax_rl1, vSorted_rl1, vSorted2_rd1, vEq_rl1, vNe_rl1, asT_rl1, vAppend_r1, vExtend_r1, onTy_r1, vIn2_rl2, vIn2_rd2, vNotIn2_rl2, vNotIn2_rd2, vSub2_rl2, vSub2_rd2, vLen_rl2, vTuple_rl2, vList_rl2, vSum_rl2, vAny_rl2, vAll_rl2, vSorted2_rl2, vMin_rl2, vMax_rl2, vSorted_rl2, vSorted2_rd2, vEq_rl2, vNe_rl2, asT_rl2, vAppend_r2, vExtend_r2, onTy_r2, vIn2_rl3, vIn2_rd3, vNotIn2_rl3, vNotIn2_rd3, vSub2_rl3, vSub2_rd3, vLen_rl3, vTuple_rl3, vList_rl3, vSum_rl3, vAny_rl3, vAll_rl3, vSorted2_rl3, vMin_rl3, vMax_rl3, vSorted_rl3, vSorted2_rd3, vEq_rl3, vNe_rl3, asT_rl3, vAppend_r3, vExtend_r3, onTy_r3, vIn2_rl4, vIn2_rd4, vNotIn2_rl4, vNotIn2_rd4, vSub2_rl4, vSub2_rd4, vLen_rl4, vTuple_rl4, vList_rl4, vSum_rl4, vAny_rl4, vAll_rl4, vSorted2_rl4, vMin_rl4, vMax_rl4, vSorted_rl4, vSorted2_rd4, vEq_rl4, vNe_rl4, asT_rl4, vAppend_r4, vExtend_r4, onTy_r4, all_tt, all_mapA, any_mapA, cut1, oneD, in_dct, notin_dct, dcS_vals, ev_mdc, dcE_ok, ↓dcp_mapM, e]
      · refine .inr ⟨?_, v, μ', ?_, hv⟩
        · exact List.any_eq_true.mpr ⟨i, List.mem_of_find?_eq_some hf, List.find?_some hf⟩
        · simp (config := {implicitDefEqProofs := false}) (disch := (first | (with_reducible assumption) | omega | (with_reducible solve_by_elim (maxDepth := 3)) | (with_reducible exact lt_range (by with_reducible assumption)) | (with_reducible exact lt_rangeF (by with_reducible assumption)) | (with_reducible exact lt_range1 (by with_reducible assumption)) | (with_reducible exact lt_range1F (by with_reducible assumption)) | (simp only [List.length_map, List.length_range, List.length_range', List.length_cons, List.length_nil, List.length_append, LIM]; omega) | (simp only [List.length_map]; with_reducible assumption) | (simp only [List.length_map]; with_reducible solve_by_elim (maxDepth := 3)) | (simp only [List.length_map]; refine len_filter ?_; simp only [List.length_map, List.length_range, List.length_range', LIM]; omega))) only [ev_op2, ev_op1, ev_imm, ev_mut, ev_call, ev_anil, ev_acons, ev_cst, ev_seq, ev_skip, ev_asg, ev_ret, ev_drop, ev_if, ev_not, ev_and, ev_or, ev_ife, ev_bool, ev_truth, ev_mvar, lookR_ok, bnd_ok, bnd_exc, flw_ok, flw_exc, seq_nx', seq_rt', seq_exc', asB_bl, asT_bl, List.getElem?_cons_zero, List.getElem?_cons_succ, List.set_cons_zero, List.set_cons_succ, if_true, if_false, Bool.false_eq_true, bindK_some, cmpS_vals, catS_vals, ev_mlc, ev_mlc2, bndS_ok, ev_mraw, ↓cmp_mapM, ↓cat2_mapM, cmpM_no, catM_no, dcpM_no, cmp_pure, cmp_if, cat2_pure, cat2_if, bindT_nm, bindT_tup, bindT_lst, bindTs_nil, bindO_some, bindTs_cons, wipe_nil, wipe_cons, ev_iseq, asSrc_lst, asSrc_rol, asSrc_tup, oneC, oneI, List.map_cons, List.map_nil, ev_mand, ev_mor, ev_mnot, ev_tife, ev_tyes, ev_chain, ev_op2F, ev_op1F, ev_meth, ev_tupT, ev_lstL, ev_for, ev_setI, ev_raise, ev_brk, ev_cnt, ev_retN, ev_try, ev_asgT, ev_aug, ev_irng1, ev_irng2, ev_ienum, ev_izip, ev_slice, ev_onone, ev_osome, mkT_ok, mkL_ok, and_bl, or_bl, and_blF, and_t, or_t, chB_bl, putF_some, tryK_rt, tryK_nx, noX_rt, noX_nx, bindF_some, augK_ok, rg1_nat, rg2_zero, rg2_one, en1_tup, en1_lst, enums_map, zips_map, zp1_tup, zp1_lst, asI_int, slice_tup, slice_lst, slice_lst', ix_tupM, ix_lstM, len_tup, len_lst, tup_lst, tup_tup, list_lst, list_tup, shortOk, add_tup, add_lst, add_int, sub_int, neg_int, int_int, int_bl, eq_int, ne_int, lt_int, le_int, gt_int, ge_intE, eq_bl, ne_bl, isN_ok, notN_ok, List.length_map, List.map_map, List.length_cons, List.length_nil, isi_tup_tuple, isi_tup_list, isi_tup_int, isi_tup_str, isi_tup_bool, isi_tup_dict, isi_lst_tuple, isi_lst_list, isi_lst_int, isi_lst_str, isi_lst_bool, isi_lst_dict, isi_int_tuple, isi_int_list, isi_int_int, isi_int_str, isi_int_bool, isi_int_dict, isi_str_tuple, isi_str_list, isi_str_int, isi_str_str, isi_str_bool, isi_str_dict, isi_bl_tuple, isi_bl_list, isi_bl_int, isi_bl_str, isi_bl_bool, isi_bl_dict, isi_non_tuple, isi_non_list, isi_non_int, isi_non_str, isi_non_bool, isi_non_dict, isn_tup, isn_lst, isn_int, isn_str, isn_bl, isn_non, ixt0, ixt1, ixt2, ixt3, ixt4, ixt5, ixl0, ixl1, ixl2, ixl3, ixl4, ixl5, in_tupN, in_lstN, notin_tupN, notin_lstN, forS_vals, Bool.not_true, Bool.not_false, Bool.false_or, Bool.true_or, Bool.or_false, Bool.or_true, Bool.and_true, Bool.true_and, Bool.and_false, Bool.false_and, List.nil_append, List.cons_append, vIn2_rl0, vIn2_rd0, vNotIn2_rl0, vNotIn2_rd0, vSub2_rl0, vSub2_rd0, vLen_rl0, vTuple_rl0, vList_rl0, vSum_rl0, vAny_rl0, vAll_rl0, vSorted2_rl0, vMin_rl0, vMax_rl0, vSorted_rl0, vSorted2_rd0, vEq_rl0, vNe_rl0, asT_rl0, vAppend_r0, vExtend_r0, onTy_r0, vIn2_rl1, vIn2_rd1, vNotIn2_rl1, vNotIn2_rd1, vSub2_rl1, vSub2_rd1, vLen_rl1, vTuple_rl1, vList_rl1, vSum_rl1, vAny_rl1, vAll_rl1, vSorted2_rl1, vMin_rl1, vMax_rl1, vSorted_rl1, vSorted2_rd1, vEq_rl1, vNe_rl1, asT_rl1, vAppend_r1, vExtend_r1, onTy_r1, vIn2_rl2, vIn2_rd2, vNotIn2_rl2, vNotIn2_rd2, vSub2_rl2, vSub2_rd2, vLen_rl2, vTuple_rl2, vList_rl2, vSum_rl2, vAny_rl2, vAll_rl2, vSorted2_rl2, vMin_rl2, vMax_rl2, vSorted_rl2, vSorted2_rd2, vEq_rl2, vNe_rl2, asT_rl2, vAppend_r2, vExtend_r2, onTy_r2, vIn2_rl3, vIn2_rd3, vNotIn2_rl3, vNotIn2_rd3, vSub2_rl3, vSub2_rd3, vLen_rl3, vTuple_rl3, vList_rl3, vSum_rl3, vAny_rl3, vAll_rl3, vSorted2_rl3, vMin_rl3, vMax_rl3, vSorted_rl3, vSorted2_rd3, vEq_rl3, vNe_rl3, asT_rl3, vAppend_r3, vExtend_r3, onTy_r3, vIn2_rl4, vIn2_rd4, vNotIn2_rl4, vNotIn2_rd4, vSub2_rl4, vSub2_rd4, vLen_rl4, vTuple_rl4, vList_rl4, vSum_rl4, vAny_rl4, vAll_rl4, vSorted2_rl4, vMin_rl4, vMax_rl4, vSorted_rl4, vSorted2_rd4, vEq_rl4, vNe_rl4, asT_rl4, vAppend_r4, vExtend_r4, onTy_r4, all_tt, all_mapA, any_mapA, cut1, oneD, in_dct, notin_dct, dcS_vals, ev_mdc, dcE_ok, ↓dcp_mapM, e])
  have L1 := forL_ret (t := .tp [.nm 2, .nm 3]) (body := (sseq (sfor (irng1 (acons (mcall vLen (acons (mvar 3) (anil))) (anil))) (.nm 4)
      (sseq (sfor (irng1 (acons (mvar 4) (anil))) (.nm 5)
        l1_first_ring)
      (sskip)))
    (sskip))) (fun (q : List Deed × Nat) => .tup [.int (q.2 : Nat), eR q.1]) (fun sl μ => ∃ r s u y z, sl = [some (eX ts), some (eC cs), r, s, u, y, z] ∧ μ = []) (fun q => (List.range q.1.length).any fun k => (List.range k).any fun i => bad ts cs q.2 k i) (fun q v μ => up v = 0 ∧ isNonB v = false) ts.zipIdx [some (eX ts), some (eC cs), none, none, none, none, none] [] ⟨none, none, none, none, none, rfl, rfl⟩ (by
      rintro q hq _ _ ⟨r, s, u, y, z, rfl, rfl⟩
      obtain ⟨hq1, hq2⟩ := mem_zipIdx hq
      have := hs.get hq1
      refine ⟨_, rfl, ?_⟩
      rw [hq2]
      rcases L2' q.2 hq1 u y z with ⟨h1, _, _, e, u', y', z', rfl, rfl⟩ | ⟨k, hf, v, μ', e, hv⟩
      · refine .inl ⟨h1, _, _, .inl ?_, some (.int (q.2 : Int)), some (eR (ts[q.2]!)), u', y', z', rfl, rfl⟩
        simp (config := {implicitDefEqProofs := false}) (disch := (first | (with_reducible assumption) | omega | (with_reducible solve_by_elim (maxDepth := 3)) | (with_reducible exact lt_range (by with_reducible assumption)) | (with_reducible exact lt_rangeF (by with_reducible assumption)) | (with_reducible exact lt_range1 (by with_reducible assumption)) | (with_reducible exact lt_range1F (by with_reducible assumption)) | (simp only [List.length_map, List.length_range, List.length_range', List.length_cons, List.length_nil, List.length_append, LIM]; omega) | (simp only [List.length_map]; with_reducible assumption) | (simp only [List.length_map]; with_reducible solve_by_elim (maxDepth := 3)) | (simp only [List.length_map]; refine len_filter ?_; simp only [List.length_map, List.length_range, List.length_range', LIM]; omega))) only [ev_op2, ev_op1, ev_imm, ev_mut, ev_call, ev_anil, ev_acons, ev_cst, ev_seq, ev_skip, ev_asg, ev_ret, ev_drop, ev_if, ev_not, ev_and, ev_or, ev_ife, ev_bool, ev_truth, ev_mvar, lookR_ok, bnd_ok, bnd_exc, flw_ok, flw_exc, seq_nx', seq_rt', seq_exc', asB_bl, asT_bl, List.getElem?_cons_zero, List.getElem?_cons_succ, List.set_cons_zero, List.set_cons_succ, if_true, if_false, Bool.false_eq_true, bindK_some, cmpS_vals, catS_vals, ev_mlc, ev_mlc2, bndS_ok, ev_mraw, ↓cmp_mapM, ↓cat2_mapM, cmpM_no, catM_no, dcpM_no, cmp_pure, cmp_if, cat2_pure, cat2_if, bindT_nm, bindT_tup, bindT_lst, bindTs_nil, bindO_some, bindTs_cons, wipe_nil, wipe_cons, ev_iseq, asSrc_lst, asSrc_rol, asSrc_tup, oneC, oneI, List.map_cons, List.map_nil, ev_mand, ev_mor, ev_mnot, ev_tife, ev_tyes, ev_chain, ev_op2F, ev_op1F, ev_meth, ev_tupT, ev_lstL, ev_for, ev_setI, ev_raise, ev_brk, ev_cnt, ev_retN, ev_try, ev_asgT, ev_aug, ev_irng1, ev_irng2, ev_ienum, ev_izip, ev_slice, ev_onone, ev_osome, mkT_ok, mkL_ok, and_bl, or_bl, and_blF, and_t, or_t, chB_bl, putF_some, tryK_rt, tryK_nx, noX_rt, noX_nx, bindF_some, augK_ok, rg1_nat, rg2_zero, rg2_one, en1_tup, en1_lst, enums_map, zips_map, zp1_tup, zp1_lst, asI_int, slice_tup, slice_lst, slice_lst', ix_tupM, ix_lstM, len_tup, len_lst, tup_lst, tup_tup, list_lst, list_tup, shortOk, add_tup, add_lst, add_int, sub_int, neg_int, int_int, int_bl, eq_int, ne_int, lt_int, le_int, gt_int, ge_intE, eq_bl, ne_bl, isN_ok, notN_ok, List.length_map, List.map_map, List.length_cons, List.length_nil, isi_tup_tuple, isi_tup_list, isi_tup_int, isi_tup_str, isi_tup_bool, isi_tup_dict, isi_lst_tuple, isi_lst_list, isi_lst_int, isi_lst_str, isi_lst_bool, isi_lst_dict, isi_int_tuple, isi_int_list, isi_int_int, isi_int_str, isi_int_bool, isi_int_dict, isi_str_tuple, isi_str_list, isi_str_int, isi_str_str, isi_str_bool, isi_str_dict, isi_bl_tuple, isi_bl_list, isi_bl_int, isi_bl_str, isi_bl_bool, isi_bl_dict, isi_non_tuple, isi_non_list, isi_non_int, isi_non_str, isi_non_bool, isi_non_dict, isn_tup, isn_lst, isn_int, isn_str, isn_bl, isn_non, ixt0, ixt1, ixt2, ixt3, ixt4, ixt5, ixl0, ixl1, ixl2, ixl3, ixl4, ixl5, in_tupN, in_lstN, notin_tupN, notin_lstN, forS_vals, Bool.not_true, Bool.not_false, Bool.false_or, Bool.true_or, Bool.or_false, Bool.or_true, Bool.and_true, Bool.true_and, Bool.and_false, Bool.false_and, List.nil_append, List.cons_append, vIn2_rl0, vIn2_rd0, vNotIn2_rl0, vNotIn2_rd0, vSub2_rl0, vSub2_rd0, vLen_rl0, vTuple_rl0, vList_rl0, vSum_rl0, vAny_rl0, vAll_rl0, vSorted2_rl0, vMin_rl0, vMax_rl0, vSorted_rl0, vSorted2_rd0, vEq_rl0, vNe_rl0, asT_rl0, vAppend_r0, vExtend_r0, onTy_r0, vIn2_rl1, vIn2_rd1, vNotIn2_rl1, vNotIn2_rd1, vSub2_rl1, vSub2_rd1, vLen_rl1, vTuple_rl1, vList_rl1, vSum_rl1, vAny_rl1, vAll_rl1, vSorted2_rl1, vMin_rl1, vMax_rl1, vSorted_rl1, vSorted2_rd1, vEq_rl1, vNe_rl1, asT_rl1, vAppend_r1, vExtend_r1, onTy_r1, vIn2_rl2, vIn2_rd2, vNotIn2_rl2, vNotIn2_rd2, vSub2_rl2, vSub2_rd2, vLen_rl2, vTuple_rl2, vList_rl2, vSum_rl2, vAny_rl2, vAll_rl2, vSorted2_rl2, vMin_rl2, vMax_rl2, vSorted_rl2, vSorted2_rd2, vEq_rl2, vNe_rl2, asT_rl2, vAppend_r2, vExtend_r2, onTy_r2, vIn2_rl3, vIn2_rd3, vNotIn2_rl3, vNotIn2_rd3, vSub2_rl3, vSub2_rd3, vLen_rl3, vTuple_rl3, vList_rl3, vSum_rl3, vAny_rl3, vAll_rl3, vSorted2_rl3, vMin_rl3, vMax_rl3, vSorted_rl3, vSorted2_rd3, vEq_rl3, vNe_rl3, asT_rl3, vAppend_r3, vExtend_r3, onTy_r3, vIn2_rl4, vIn2_rd4, vNotIn2_rl4, vNotIn2_rd4, vSub2_rl4, vSub2_rd4, vLen_rl4, vTuple_rl4, vList_rl4, vSum_rl4, vAny_rl4, vAll_rl4, vSorted2_rl4, vMin_rl4, vMax_rl4, vSorted_rl4, vSorted2_rd4, vEq_rl4, vNe_rl4, asT_rl4, vAppend_r4, vExtend_r4, onTy_r4, all_tt, all_mapA, any_mapA, cut1, oneD, in_dct, notin_dct, dcS_vals, ev_mdc, dcE_ok, ↓dcp_mapM, e]
      · refine .inr ⟨?_, v, μ', ?_, hv⟩
        · exact List.any_eq_true.mpr ⟨k, List.mem_of_find?_eq_some hf, List.find?_some (p := fun k => (List.range k).any fun i => bad ts cs q.2 k i) hf⟩
        · simp (config := {implicitDefEqProofs := false}) (disch := (first | (with_reducible assumption) | omega | (with_reducible solve_by_elim (maxDepth := 3)) | (with_reducible exact lt_range (by with_reducible assumption)) | (with_reducible exact lt_rangeF (by with_reducible assumption)) | (with_reducible exact lt_range1 (by with_reducible assumption)) | (with_reducible exact lt_range1F (by with_reducible assumption)) | (simp only [List.length_map, List.length_range, List.length_range', List.length_cons, List.length_nil, List.length_append, LIM]; omega) | (simp only [List.length_map]; with_reducible assumption) | (simp only [List.length_map]; with_reducible solve_by_elim (maxDepth := 3)) | (simp only [List.length_map]; refine len_filter ?_; simp only [List.length_map, List.length_range, List.length_range', LIM]; omega))) only [ev_op2, ev_op1, ev_imm, ev_mut, ev_call, ev_anil, ev_acons, ev_cst, ev_seq, ev_skip, ev_asg, ev_ret, ev_drop, ev_if, ev_not, ev_and, ev_or, ev_ife, ev_bool, ev_truth, ev_mvar, lookR_ok, bnd_ok, bnd_exc, flw_ok, flw_exc, seq_nx', seq_rt', seq_exc', asB_bl, asT_bl, List.getElem?_cons_zero, List.getElem?_cons_succ, List.set_cons_zero, List.set_cons_succ, if_true, if_false, Bool.false_eq_true, bindK_some, cmpS_vals, catS_vals, ev_mlc, ev_mlc2, bndS_ok, ev_mraw, ↓cmp_mapM, ↓cat2_mapM, cmpM_no, catM_no, dcpM_no, cmp_pure, cmp_if, cat2_pure, cat2_if, bindT_nm, bindT_tup, bindT_lst, bindTs_nil, bindO_some, bindTs_cons, wipe_nil, wipe_cons, ev_iseq, asSrc_lst, asSrc_rol, asSrc_tup, oneC, oneI, List.map_cons, List.map_nil, ev_mand, ev_mor, ev_mnot, ev_tife, ev_tyes, ev_chain, ev_op2F, ev_op1F, ev_meth, ev_tupT, ev_lstL, ev_for, ev_setI, ev_raise, ev_brk, ev_cnt, ev_retN, ev_try, ev_asgT, ev_aug, ev_irng1, ev_irng2, ev_ienum, ev_izip, ev_slice, ev_onone, ev_osome, mkT_ok, mkL_ok, and_bl, or_bl, and_blF, and_t, or_t, chB_bl, putF_some, tryK_rt, tryK_nx, noX_rt, noX_nx, bindF_some, augK_ok, rg1_nat, rg2_zero, rg2_one, en1_tup, en1_lst, enums_map, zips_map, zp1_tup, zp1_lst, asI_int, slice_tup, slice_lst, slice_lst', ix_tupM, ix_lstM, len_tup, len_lst, tup_lst, tup_tup, list_lst, list_tup, shortOk, add_tup, add_lst, add_int, sub_int, neg_int, int_int, int_bl, eq_int, ne_int, lt_int, le_int, gt_int, ge_intE, eq_bl, ne_bl, isN_ok, notN_ok, List.length_map, List.map_map, List.length_cons, List.length_nil, isi_tup_tuple, isi_tup_list, isi_tup_int, isi_tup_str, isi_tup_bool, isi_tup_dict, isi_lst_tuple, isi_lst_list, isi_lst_int, isi_lst_str, isi_lst_bool, isi_lst_dict, isi_int_tuple, isi_int_list, isi_int_int, isi_int_str, isi_int_bool, isi_int_dict, isi_str_tuple, isi_str_list, isi_str_int, isi_str_str, isi_str_bool, isi_str_dict, isi_bl_tuple, isi_bl_list, isi_bl_int, isi_bl_str, isi_bl_bool, isi_bl_dict, isi_non_tuple, isi_non_list, isi_non_int, isi_non_str, isi_non_bool, isi_non_dict, isn_tup, isn_lst, isn_int, isn_str, isn_bl, isn_non, ixt0, ixt1, ixt2, ixt3, ixt4, ixt5, ixl0, ixl1, ixl2, ixl3, ixl4, ixl5, in_tupN, in_lstN, notin_tupN, notin_lstN, forS_vals, Bool.not_true, Bool.not_false, Bool.false_or, Bool.true_or, Bool.or_false, Bool.or_true, Bool.and_true, Bool.true_and, Bool.and_false, Bool.false_and, List.nil_append, List.cons_append, vIn2_rl0, vIn2_rd0, vNotIn2_rl0, vNotIn2_rd0, vSub2_rl0, vSub2_rd0, vLen_rl0, vTuple_rl0, vList_rl0, vSum_rl0, vAny_rl0, vAll_rl0, vSorted2_rl0, vMin_rl0, vMax_rl0, vSorted_rl0, vSorted2_rd0, vEq_rl0, vNe_rl0, asT_rl0, vAppend_r0, vExtend_r0, onTy_r0, vIn2_rl1, vIn2_rd1, vNotIn2_rl1, vNotIn2_rd1, vSub2_rl1, vSub2_rd1, vLen_rl1, vTuple_rl1, vList_rl1, vSum_rl1, vAny_rl1, vAll_rl1, vSorted2_rl1, vMin_rl1, vMax_rl1, vSorted_rl1, vSorted2_rd1, vEq_rl1, vNe_rl1, asT_rl1, vAppend_r1, vExtend_r1, onTy_r1, vIn2_rl2, vIn2_rd2, vNotIn2_rl2, vNotIn2_rd2, vSub2_rl2, vSub2_rd2, vLen_rl2, vTuple_rl2, vList_rl2, vSum_rl2, vAny_rl2, vAll_rl2, vSorted2_rl2, vMin_rl2, vMax_rl2, vSorted_rl2, vSorted2_rd2, vEq_rl2, vNe_rl2, asT_rl2, vAppend_r2, vExtend_r2, onTy_r2, vIn2_rl3, vIn2_rd3, vNotIn2_rl3, vNotIn2_rd3, vSub2_rl3, vSub2_rd3, vLen_rl3, vTuple_rl3, vList_rl3, vSum_rl3, vAny_rl3, vAll_rl3, vSorted2_rl3, vMin_rl3, vMax_rl3, vSorted_rl3, vSorted2_rd3, vEq_rl3, vNe_rl3, asT_rl3, vAppend_r3, vExtend_r3, onTy_r3, vIn2_rl4, vIn2_rd4, vNotIn2_rl4, vNotIn2_rd4, vSub2_rl4, vSub2_rd4, vLen_rl4, vTuple_rl4, vList_rl4, vSum_rl4, vAny_rl4, vAll_rl4, vSorted2_rl4, vMin_rl4, vMax_rl4, vSorted_rl4, vSorted2_rd4, vEq_rl4, vNe_rl4, asT_rl4, vAppend_r4, vExtend_r4, onTy_r4, all_tt, all_mapA, any_mapA, cut1, oneD, in_dct, notin_dct, dcS_vals, ev_mdc, dcE_ok, ↓dcp_mapM, e])
  rcases L1 with ⟨h1, _, _, e, r, s, u, y, z, rfl, rfl⟩ | ⟨q, hf, v, μ', e, hv⟩
  · refine ⟨.non, rfl, ?_, fun μ => call_rt (ups2 (up_eX ts) (up_eC cs)) rfl (v := .non) (μ' := []) ?_ rfl μ⟩
    · show true = !(bad3 ts cs)
      unfold bad3; rw [h1]; rfl
    · show b_first_ring [some (eX ts), some (eC cs), none, none, none, none, none] [] = _
      unfold b_first_ring
      simp (config := {implicitDefEqProofs := false}) (disch := (first | (with_reducible assumption) | omega | (with_reducible solve_by_elim (maxDepth := 3)) | (with_reducible exact lt_range (by with_reducible assumption)) | (with_reducible exact lt_rangeF (by with_reducible assumption)) | (with_reducible exact lt_range1 (by with_reducible assumption)) | (with_reducible exact lt_range1F (by with_reducible assumption)) | (simp only [List.length_map, List.length_range, List.length_range', List.length_cons, List.length_nil, List.length_append, LIM]; omega) | (simp only [List.length_map]; with_reducible assumption) | (simp only [List.length_map]; with_reducible solve_by_elim (maxDepth := 3)) | (simp only [List.length_map]; refine len_filter ?_; simp only [List.length_map, List.length_range, List.length_range', LIM]; omega))) only [ev_op2, ev_op1, ev_imm, ev_mut, ev_call, ev_anil, ev_acons, ev_cst, ev_seq, ev_skip, ev_asg, ev_ret, ev_drop, ev_if, ev_not, ev_and, ev_or, ev_ife, ev_bool, ev_truth, ev_mvar, lookR_ok, bnd_ok, bnd_exc, flw_ok, flw_exc, seq_nx', seq_rt', seq_exc', asB_bl, asT_bl, List.getElem?_cons_zero, List.getElem?_cons_succ, List.set_cons_zero, List.set_cons_succ, if_true, if_false, Bool.false_eq_true, bindK_some, cmpS_vals, catS_vals, ev_mlc, ev_mlc2, bndS_ok, ev_mraw, ↓cmp_mapM, ↓cat2_mapM, cmpM_no, catM_no, dcpM_no, cmp_pure, cmp_if, cat2_pure, cat2_if, bindT_nm, bindT_tup, bindT_lst, bindTs_nil, bindO_some, bindTs_cons, wipe_nil, wipe_cons, ev_iseq, asSrc_lst, asSrc_rol, asSrc_tup, oneC, oneI, List.map_cons, List.map_nil, ev_mand, ev_mor, ev_mnot, ev_tife, ev_tyes, ev_chain, ev_op2F, ev_op1F, ev_meth, ev_tupT, ev_lstL, ev_for, ev_setI, ev_raise, ev_brk, ev_cnt, ev_retN, ev_try, ev_asgT, ev_aug, ev_irng1, ev_irng2, ev_ienum, ev_izip, ev_slice, ev_onone, ev_osome, mkT_ok, mkL_ok, and_bl, or_bl, and_blF, and_t, or_t, chB_bl, putF_some, tryK_rt, tryK_nx, noX_rt, noX_nx, bindF_some, augK_ok, rg1_nat, rg2_zero, rg2_one, en1_tup, en1_lst, enums_map, zips_map, zp1_tup, zp1_lst, asI_int, slice_tup, slice_lst, slice_lst', ix_tupM, ix_lstM, len_tup, len_lst, tup_lst, tup_tup, list_lst, list_tup, shortOk, add_tup, add_lst, add_int, sub_int, neg_int, int_int, int_bl, eq_int, ne_int, lt_int, le_int, gt_int, ge_intE, eq_bl, ne_bl, isN_ok, notN_ok, List.length_map, List.map_map, List.length_cons, List.length_nil, isi_tup_tuple, isi_tup_list, isi_tup_int, isi_tup_str, isi_tup_bool, isi_tup_dict, isi_lst_tuple, isi_lst_list, isi_lst_int, isi_lst_str, isi_lst_bool, isi_lst_dict, isi_int_tuple, isi_int_list, isi_int_int, isi_int_str, isi_int_bool, isi_int_dict, isi_str_tuple, isi_str_list, isi_str_int, isi_str_str, isi_str_bool, isi_str_dict, isi_bl_tuple, isi_bl_list, isi_bl_int, isi_bl_str, isi_bl_bool, isi_bl_dict, isi_non_tuple, isi_non_list, isi_non_int, isi_non_str, isi_non_bool, isi_non_dict, isn_tup, isn_lst, isn_int, isn_str, isn_bl, isn_non, ixt0, ixt1, ixt2, ixt3, ixt4, ixt5, ixl0, ixl1, ixl2, ixl3, ixl4, ixl5, in_tupN, in_lstN, notin_tupN, notin_lstN, forS_vals, Bool.not_true, Bool.not_false, Bool.false_or, Bool.true_or, Bool.or_false, Bool.or_true, Bool.and_true, Bool.true_and, Bool.and_false, Bool.false_and, List.nil_append, List.cons_append, vIn2_rl0, vIn2_rd0, vNotIn2_rl0, vNotIn2_rd0, vSub2_rl0, vSub2_rd0, vLen_rl0, vTuple_rl0, vList_rl0, vSum_rl0, vAny_rl0, vAll_rl0, vSorted2_rl0, vMin_rl0, vMax_rl0, vSorted_rl0, vSorted2_rd0, vEq_rl0, vNe_rl0, asT_rl0, vAppend_r0, vExtend_r0, onTy_r0, vIn2_rl1, vIn2_rd1, vNotIn2_rl1, vNotIn2_rd1, vSub2_rl1, vSub2_rd1, vLen_rl1, vTuple_rl1, vList_rl1, vSum_rl1, vAny_rl1, vAll_rl1, vSorted2_rl1, vMin_rl1, vMax_rl1, vSorted_rl1, vSorted2_rd1, vEq_rl1, vNe_rl1, asT_rl1, vAppend_r1, vExtend_r1, onTy_r1, vIn2_rl2, vIn2_rd2, vNotIn2_rl2, vNotIn2_rd2, vSub2_rl2, vSub2_rd2, vLen_rl2, vTuple_rl2, vList_rl2, vSum_rl2, vAny_rl2, vAll_rl2, vSorted2_rl2, vMin_rl2, vMax_rl2, vSorted_rl2, vSorted2_rd2, vEq_rl2, vNe_rl2, asT_rl2, vAppend_r2, vExtend_r2, onTy_r2, vIn2_rl3, vIn2_rd3, vNotIn2_rl3, vNotIn2_rd3, vSub2_rl3, vSub2_rd3, vLen_rl3, vTuple_rl3, vList_rl3, vSum_rl3, vAny_rl3, vAll_rl3, vSorted2_rl3, vMin_rl3, vMax_rl3, vSorted_rl3, vSorted2_rd3, vEq_rl3, vNe_rl3, asT_rl3, vAppend_r3, vExtend_r3, onTy_r3, vIn2_rl4, vIn2_rd4, vNotIn2_rl4, vNotIn2_rd4, vSub2_rl4, vSub2_rd4, vLen_rl4, vTuple_rl4, vList_rl4, vSum_rl4, vAny_rl4, vAll_rl4, vSorted2_rl4, vMin_rl4, vMax_rl4, vSorted_rl4, vSorted2_rd4, vEq_rl4, vNe_rl4, asT_rl4, vAppend_r4, vExtend_r4, onTy_r4, all_tt, all_mapA, any_mapA, cut1, oneD, in_dct, notin_dct, dcS_vals, ev_mdc, dcE_ok, ↓dcp_mapM, e]
  · refine ⟨v, hv.1, ?_, fun μ => call_rt (ups2 (up_eX ts) (up_eC cs)) rfl (v := v) (μ' := μ') ?_ hv.1 μ⟩
    · rw [hv.2]
      have : bad3 ts cs = true := List.any_eq_true.mpr ⟨q, List.mem_of_find?_eq_some hf, List.find?_some (p := fun (q : List Deed × Nat) => (List.range q.1.length).any fun k => (List.range k).any fun i => bad ts cs q.2 k i) hf⟩
      rw [this]; rfl
    · show b_first_ring [some (eX ts), some (eC cs), none, none, none, none, none] [] = _
      unfold b_first_ring
      simp (config := {implicitDefEqProofs := false}) (disch := (first | (with_reducible assumption) | omega | (with_reducible solve_by_elim (maxDepth := 3)) | (with_reducible exact lt_range (by with_reducible assumption)) | (with_reducible exact lt_rangeF (by with_reducible assumption)) | (with_reducible exact lt_range1 (by with_reducible assumption)) | (with_reducible exact lt_range1F (by with_reducible assumption)) | (simp only [List.length_map, List.length_range, List.length_range', List.length_cons, List.length_nil, List.length_append, LIM]; omega) | (simp only [List.length_map]; with_reducible assumption) | (simp only [List.length_map]; with_reducible solve_by_elim (maxDepth := 3)) | (simp only [List.length_map]; refine len_filter ?_; simp only [List.length_map, List.length_range, List.length_range', LIM]; omega))) only [ev_op2, ev_op1, ev_imm, ev_mut, ev_call, ev_anil, ev_acons, ev_cst, ev_seq, ev_skip, ev_asg, ev_ret, ev_drop, ev_if, ev_not, ev_and, ev_or, ev_ife, ev_bool, ev_truth, ev_mvar, lookR_ok, bnd_ok, bnd_exc, flw_ok, flw_exc, seq_nx', seq_rt', seq_exc', asB_bl, asT_bl, List.getElem?_cons_zero, List.getElem?_cons_succ, List.set_cons_zero, List.set_cons_succ, if_true, if_false, Bool.false_eq_true, bindK_some, cmpS_vals, catS_vals, ev_mlc, ev_mlc2, bndS_ok, ev_mraw, ↓cmp_mapM, ↓cat2_mapM, cmpM_no, catM_no, dcpM_no, cmp_pure, cmp_if, cat2_pure, cat2_if, bindT_nm, bindT_tup, bindT_lst, bindTs_nil, bindO_some, bindTs_cons, wipe_nil, wipe_cons, ev_iseq, asSrc_lst, asSrc_rol, asSrc_tup, oneC, oneI, List.map_cons, List.map_nil, ev_mand, ev_mor, ev_mnot, ev_tife, ev_tyes, ev_chain, ev_op2F, ev_op1F, ev_meth, ev_tupT, ev_lstL, ev_for, ev_setI, ev_raise, ev_brk, ev_cnt, ev_retN, ev_try, ev_asgT, ev_aug, ev_irng1, ev_irng2, ev_ienum, ev_izip, ev_slice, ev_onone, ev_osome, mkT_ok, mkL_ok, and_bl, or_bl, and_blF, and_t, or_t, chB_bl, putF_some, tryK_rt, tryK_nx, noX_rt, noX_nx, bindF_some, augK_ok, rg1_nat, rg2_zero, rg2_one, en1_tup, en1_lst, enums_map, zips_map, zp1_tup, zp1_lst, asI_int, slice_tup, slice_lst, slice_lst', ix_tupM, ix_lstM, len_tup, len_lst, tup_lst, tup_tup, list_lst, list_tup, shortOk, add_tup, add_lst, add_int, sub_int, neg_int, int_int, int_bl, eq_int, ne_int, lt_int, le_int, gt_int, ge_intE, eq_bl, ne_bl, isN_ok, notN_ok, List.length_map, List.map_map, List.length_cons, List.length_nil, isi_tup_tuple, isi_tup_list, isi_tup_int, isi_tup_str, isi_tup_bool, isi_tup_dict, isi_lst_tuple, isi_lst_list, isi_lst_int, isi_lst_str, isi_lst_bool, isi_lst_dict, isi_int_tuple, isi_int_list, isi_int_int, isi_int_str, isi_int_bool, isi_int_dict, isi_str_tuple, isi_str_list, isi_str_int, isi_str_str, isi_str_bool, isi_str_dict, isi_bl_tuple, isi_bl_list, isi_bl_int, isi_bl_str, isi_bl_bool, isi_bl_dict, isi_non_tuple, isi_non_list, isi_non_int, isi_non_str, isi_non_bool, isi_non_dict, isn_tup, isn_lst, isn_int, isn_str, isn_bl, isn_non, ixt0, ixt1, ixt2, ixt3, ixt4, ixt5, ixl0, ixl1, ixl2, ixl3, ixl4, ixl5, in_tupN, in_lstN, notin_tupN, notin_lstN, forS_vals, Bool.not_true, Bool.not_false, Bool.false_or, Bool.true_or, Bool.or_false, Bool.or_true, Bool.and_true, Bool.true_and, Bool.and_false, Bool.false_and, List.nil_append, List.cons_append, vIn2_rl0, vIn2_rd0, vNotIn2_rl0, vNotIn2_rd0, vSub2_rl0, vSub2_rd0, vLen_rl0, vTuple_rl0, vList_rl0, vSum_rl0, vAny_rl0, vAll_rl0, vSorted2_rl0, vMin_rl0, vMax_rl0, vSorted_rl0, vSorted2_rd0, vEq_rl0, vNe_rl0, asT_rl0, vAppend_r0, vExtend_r0, onTy_r0, vIn2_rl1, vIn2_rd1, vNotIn2_rl1, vNotIn2_rd1, vSub2_rl1, vSub2_rd1, vLen_rl1, vTuple_rl1, vList_rl1, vSum_rl1, vAny_rl1, vAll_rl1, vSorted2_rl1, vMin_rl1, vMax_rl1, vSorted_rl1, vSorted2_rd1, vEq_rl1, vNe_rl1, asT_rl1, vAppend_r1, vExtend_r1, onTy_r1, vIn2_rl2, vIn2_rd2, vNotIn2_rl2, vNotIn2_rd2, vSub2_rl2, vSub2_rd2, vLen_rl2, vTuple_rl2, vList_rl2, vSum_rl2, vAny_rl2, vAll_rl2, vSorted2_rl2, vMin_rl2, vMax_rl2, vSorted_rl2, vSorted2_rd2, vEq_rl2, vNe_rl2, asT_rl2, vAppend_r2, vExtend_r2, onTy_r2, vIn2_rl3, vIn2_rd3, vNotIn2_rl3, vNotIn2_rd3, vSub2_rl3, vSub2_rd3, vLen_rl3, vTuple_rl3, vList_rl3, vSum_rl3, vAny_rl3, vAll_rl3, vSorted2_rl3, vMin_rl3, vMax_rl3, vSorted_rl3, vSorted2_rd3, vEq_rl3, vNe_rl3, asT_rl3, vAppend_r3, vExtend_r3, onTy_r3, vIn2_rl4, vIn2_rd4, vNotIn2_rl4, vNotIn2_rd4, vSub2_rl4, vSub2_rd4, vLen_rl4, vTuple_rl4, vList_rl4, vSum_rl4, vAny_rl4, vAll_rl4, vSorted2_rl4, vMin_rl4, vMax_rl4, vSorted_rl4, vSorted2_rd4, vEq_rl4, vNe_rl4, asT_rl4, vAppend_r4, vExtend_r4, onTy_r4, all_tt, all_mapA, any_mapA, cut1, oneD, in_dct, notin_dct, dcS_vals, ev_mdc, dcE_ok, ↓dcp_mapM, e]
theorem cutring_ok {ts : List (List Deed)} (h : Good ts) {cs : List (List Nat)} (hc : Cut ts cs) : ∃ v, isNonB v = !(bad3 ts cs) ∧ ∀ μ, callD f_cut_ring [eX ts, eC cs] μ = .ok v μ := by
  obtain ⟨v, hu, hn, e⟩ := first_ok h hc
  refine ⟨v, hn, fun μ => call_rt (ups2 (up_eX ts) (up_eC cs)) rfl (v := v) (μ' := []) ?_ hu μ⟩
  show b_cut_ring [some (eX ts), some (eC cs)] [] = _
  unfold b_cut_ring
  simp (config := {implicitDefEqProofs := false}) (disch := (first | (with_reducible assumption) | omega | (with_reducible solve_by_elim (maxDepth := 3)) | (with_reducible exact lt_range (by with_reducible assumption)) | (with_reducible exact lt_rangeF (by with_reducible assumption)) | (with_reducible exact lt_range1 (by with_reducible assumption)) | (with_reducible exact lt_range1F (by with_reducible assumption)) | (simp only [List.length_map, List.length_range, List.length_range', List.length_cons, List.length_nil, List.length_append, LIM]; omega) | (simp only [List.length_map]; with_reducible assumption) | (simp only [List.length_map]; with_reducible solve_by_elim (maxDepth := 3)) | (simp only [List.length_map]; refine len_filter ?_; simp only [List.length_map, List.length_range, List.length_range', LIM]; omega))) only [ev_op2, ev_op1, ev_imm, ev_mut, ev_call, ev_anil, ev_acons, ev_cst, ev_seq, ev_skip, ev_asg, ev_ret, ev_drop, ev_if, ev_not, ev_and, ev_or, ev_ife, ev_bool, ev_truth, ev_mvar, lookR_ok, bnd_ok, bnd_exc, flw_ok, flw_exc, seq_nx', seq_rt', seq_exc', asB_bl, asT_bl, List.getElem?_cons_zero, List.getElem?_cons_succ, List.set_cons_zero, List.set_cons_succ, if_true, if_false, Bool.false_eq_true, bindK_some, cmpS_vals, catS_vals, ev_mlc, ev_mlc2, bndS_ok, ev_mraw, ↓cmp_mapM, ↓cat2_mapM, cmpM_no, catM_no, dcpM_no, cmp_pure, cmp_if, cat2_pure, cat2_if, bindT_nm, bindT_tup, bindT_lst, bindTs_nil, bindO_some, bindTs_cons, wipe_nil, wipe_cons, ev_iseq, asSrc_lst, asSrc_rol, asSrc_tup, oneC, oneI, List.map_cons, List.map_nil, ev_mand, ev_mor, ev_mnot, ev_tife, ev_tyes, ev_chain, ev_op2F, ev_op1F, ev_meth, ev_tupT, ev_lstL, ev_for, ev_setI, ev_raise, ev_brk, ev_cnt, ev_retN, ev_try, ev_asgT, ev_aug, ev_irng1, ev_irng2, ev_ienum, ev_izip, ev_slice, ev_onone, ev_osome, mkT_ok, mkL_ok, and_bl, or_bl, and_blF, and_t, or_t, chB_bl, putF_some, tryK_rt, tryK_nx, noX_rt, noX_nx, bindF_some, augK_ok, rg1_nat, rg2_zero, rg2_one, en1_tup, en1_lst, enums_map, zips_map, zp1_tup, zp1_lst, asI_int, slice_tup, slice_lst, slice_lst', ix_tupM, ix_lstM, len_tup, len_lst, tup_lst, tup_tup, list_lst, list_tup, shortOk, add_tup, add_lst, add_int, sub_int, neg_int, int_int, int_bl, eq_int, ne_int, lt_int, le_int, gt_int, ge_intE, eq_bl, ne_bl, isN_ok, notN_ok, List.length_map, List.map_map, List.length_cons, List.length_nil, isi_tup_tuple, isi_tup_list, isi_tup_int, isi_tup_str, isi_tup_bool, isi_tup_dict, isi_lst_tuple, isi_lst_list, isi_lst_int, isi_lst_str, isi_lst_bool, isi_lst_dict, isi_int_tuple, isi_int_list, isi_int_int, isi_int_str, isi_int_bool, isi_int_dict, isi_str_tuple, isi_str_list, isi_str_int, isi_str_str, isi_str_bool, isi_str_dict, isi_bl_tuple, isi_bl_list, isi_bl_int, isi_bl_str, isi_bl_bool, isi_bl_dict, isi_non_tuple, isi_non_list, isi_non_int, isi_non_str, isi_non_bool, isi_non_dict, isn_tup, isn_lst, isn_int, isn_str, isn_bl, isn_non, ixt0, ixt1, ixt2, ixt3, ixt4, ixt5, ixl0, ixl1, ixl2, ixl3, ixl4, ixl5, in_tupN, in_lstN, notin_tupN, notin_lstN, forS_vals, Bool.not_true, Bool.not_false, Bool.false_or, Bool.true_or, Bool.or_false, Bool.or_true, Bool.and_true, Bool.true_and, Bool.and_false, Bool.false_and, List.nil_append, List.cons_append, vIn2_rl0, vIn2_rd0, vNotIn2_rl0, vNotIn2_rd0, vSub2_rl0, vSub2_rd0, vLen_rl0, vTuple_rl0, vList_rl0, vSum_rl0, vAny_rl0, vAll_rl0, vSorted2_rl0, vMin_rl0, vMax_rl0, vSorted_rl0, vSorted2_rd0, vEq_rl0, vNe_rl0, asT_rl0, vAppend_r0, vExtend_r0, onTy_r0, vIn2_rl1, vIn2_rd1, vNotIn2_rl1, vNotIn2_rd1, vSub2_rl1, vSub2_rd1, vLen_rl1, vTuple_rl1, vList_rl1, vSum_rl1, vAny_rl1, vAll_rl1, vSorted2_rl1, vMin_rl1, vMax_rl1, vSorted_rl1, vSorted2_rd1, vEq_rl1, vNe_rl1, asT_rl1, vAppend_r1, vExtend_r1, onTy_r1, vIn2_rl2, vIn2_rd2, vNotIn2_rl2, vNotIn2_rd2, vSub2_rl2, vSub2_rd2, vLen_rl2, vTuple_rl2, vList_rl2, vSum_rl2, vAny_rl2, vAll_rl2, vSorted2_rl2, vMin_rl2, vMax_rl2, vSorted_rl2, vSorted2_rd2, vEq_rl2, vNe_rl2, asT_rl2, vAppend_r2, vExtend_r2, onTy_r2, vIn2_rl3, vIn2_rd3, vNotIn2_rl3, vNotIn2_rd3, vSub2_rl3, vSub2_rd3, vLen_rl3, vTuple_rl3, vList_rl3, vSum_rl3, vAny_rl3, vAll_rl3, vSorted2_rl3, vMin_rl3, vMax_rl3, vSorted_rl3, vSorted2_rd3, vEq_rl3, vNe_rl3, asT_rl3, vAppend_r3, vExtend_r3, onTy_r3, vIn2_rl4, vIn2_rd4, vNotIn2_rl4, vNotIn2_rd4, vSub2_rl4, vSub2_rd4, vLen_rl4, vTuple_rl4, vList_rl4, vSum_rl4, vAny_rl4, vAll_rl4, vSorted2_rl4, vMin_rl4, vMax_rl4, vSorted_rl4, vSorted2_rd4, vEq_rl4, vNe_rl4, asT_rl4, vAppend_r4, vExtend_r4, onTy_r4, all_tt, all_mapA, any_mapA, cut1, oneD, in_dct, notin_dct, dcS_vals, ev_mdc, dcE_ok, ↓dcp_mapM, checkcut_ok h hc, e]
end Y

namespace Y
open G PySem
/-! ### all cuts of texts -/
/-- rows up to a place -/
structure RowP (m : Nat) (c : List Nat) : Prop where
  a : ∀ k ∈ c, 1 ≤ k ∧ k < m
  l : c.length + 1 ≤ m
  s : c.Pairwise (· < ·)
theorem RowP.next {m : Nat} {c : List Nat} (h : RowP m c) (hm : 1 ≤ m) : RowP (m + 1) c := ⟨fun k hk => by have := h.a k hk; omega, by have := h.l; omega, h.s⟩
theorem RowP.put {m : Nat} {c : List Nat} (h : RowP m c) (hm : 1 ≤ m) : RowP (m + 1) (c ++ [m]) := by
  refine ⟨fun k hk => ?_, by rw [List.length_append]; have := h.l; simp; omega, ?_⟩
  · rcases List.mem_append.mp hk with hk | hk
    · have := h.a k hk; omega
    · rw [List.mem_singleton] at hk; omega
  · rw [List.pairwise_append]
    refine ⟨h.s, by simp, fun x hx y hy => ?_⟩
    rw [List.mem_singleton] at hy
    have := h.a x hx; omega
theorem zip_drop : ∀ (c : List Nat), c.Pairwise (· < ·) → (c.zip (c.drop 1)).all (fun q => decide ((q.1 : Int) < (q.2 : Int))) = true
  | [], _ => rfl
  | [x], _ => rfl
  | x :: y :: c, h => by
    have h2 := List.pairwise_cons.mp h
    have ih := zip_drop (y :: c) h2.2
    have hxy := h2.1 y List.mem_cons_self
    show (decide ((x : Int) < (y : Int)) && ((y :: c).zip ((y :: c).drop 1)).all _) = true
    rw [ih, decide_eq_true (by omega)]; rfl
theorem RowP.cut {n : Nat} {c : List Nat} (h : RowP n c) (hn : n ≤ 5) : CutR n c := ⟨h.a, by have := h.l; omega, zip_drop c h.s⟩
theorem mem_dbl {m : Nat} (rows : List (List Nat)) (hr : ∀ c ∈ rows, RowP m c) (hm : 1 ≤ m) : ∀ c ∈ rows ++ rows.map (· ++ [m]), RowP (m + 1) c := fun c hc => by
  rcases List.mem_append.mp hc with hc | hc
  · exact (hr c hc).next hm
  · obtain ⟨d, hd, rfl⟩ := List.mem_map.mp hc
    exact (hr d hd).put hm
/-- the rows of a text -/
theorem rows_loop (a b c d e f : Option Val) (μ : Mu) : ∀ (n m : Nat) (rows : List (List Nat)) (w : Option Val), 1 ≤ m → m + n ≤ 5 → (∀ c ∈ rows, RowP m c) → rows.length * 2 ^ n ≤ 16 →
    ∃ (rows' : List (List Nat)) (w' : Option Val), (∀ c ∈ rows', RowP (m + n) c) ∧ rows'.length = rows.length * 2 ^ n ∧ forL (.nm 4) l2__law_cuts ((List.range' m n).map eN) [a, b, c, some (.lst (rows.map eL)), w, d, e, f] μ = .nx [a, b, c, some (.lst (rows'.map eL)), w', d, e, f] μ
  | 0, m, rows, w, _, _, hr, hl => ⟨rows, w, hr, by simp, rfl⟩
  | n + 1, m, rows, w, h1, h2, hr, hl => by
    have hl2 : rows.length * 2 ≤ 16 := by
      rw [Nat.pow_succ, Nat.mul_comm (2 ^ n) 2, ← Nat.mul_assoc] at hl
      exact Nat.le_trans (Nat.le_mul_of_pos_right _ (Nat.two_pow_pos n)) hl
    obtain ⟨rows', w', g1, g2, g3⟩ := rows_loop a b c d e f μ n (m + 1) (rows ++ rows.map (· ++ [m])) (some (eN m)) (by omega) (by omega) (mem_dbl rows hr h1) (by
      rw [List.length_append, List.length_map, ← Nat.mul_two, Nat.mul_assoc, Nat.mul_comm 2, ← Nat.pow_succ]; exact hl)
    refine ⟨rows', w', by rw [show m + (n + 1) = m + 1 + n by omega]; exact g1, by
      rw [g2, List.length_append, List.length_map, ← Nat.mul_two, Nat.mul_assoc, Nat.mul_comm 2, ← Nat.pow_succ], ?_⟩
    rw [List.range'_succ, List.map_cons]
    conv => lhs; unfold forL
    dsimp only [bindT_nm, List.set_cons_succ, List.set_cons_zero]
    have hx : ∀ x, x ∈ rows → (x.map eN).length + [Val.int (m : Int)].length ≤ LIM := fun x hx => by
      have := (hr x hx).l
      rw [List.length_map, List.length_singleton]; unfold LIM; omega
    have hrl : rows.length + rows.length ≤ LIM := by unfold LIM; omega
    have e : l2__law_cuts [a, b, c, some (.lst (rows.map eL)), some (eN m), d, e, f] μ = .nx [a, b, c, some (.lst ((rows ++ rows.map (· ++ [m])).map eL)), some (eN m), d, e, f] μ := by
      have hm : (rows.map fun x => Val.tup (x.map eN ++ [Val.int (m : Int)])) = (rows.map (· ++ [m])).map eL := by
        rw [List.map_map]
        apply List.map_congr_left
        intro x _
        show Val.tup _ = Val.tup ((x ++ [m]).map eN)
        rw [List.map_append]; rfl
      unfold l2__law_cuts
      simp (config := {implicitDefEqProofs := false}) (disch := (first | (with_reducible assumption) | omega | (with_reducible solve_by_elim (maxDepth := 3)) | (with_reducible exact lt_range (by with_reducible assumption)) | (with_reducible exact lt_rangeF (by with_reducible assumption)) | (with_reducible exact lt_range1 (by with_reducible assumption)) | (with_reducible exact lt_range1F (by with_reducible assumption)) | (simp only [List.length_map, List.length_range, List.length_range', List.length_cons, List.length_nil, List.length_append, LIM]; omega) | (simp only [List.length_map]; with_reducible assumption) | (simp only [List.length_map]; with_reducible solve_by_elim (maxDepth := 3)) | (simp only [List.length_map]; refine len_filter ?_; simp only [List.length_map, List.length_range, List.length_range', LIM]; omega))) only [ev_op2, ev_op1, ev_imm, ev_mut, ev_call, ev_anil, ev_acons, ev_cst, ev_seq, ev_skip, ev_asg, ev_ret, ev_drop, ev_if, ev_not, ev_and, ev_or, ev_ife, ev_bool, ev_truth, ev_mvar, lookR_ok, bnd_ok, bnd_exc, flw_ok, flw_exc, seq_nx', seq_rt', seq_exc', asB_bl, asT_bl, List.getElem?_cons_zero, List.getElem?_cons_succ, List.set_cons_zero, List.set_cons_succ, if_true, if_false, Bool.false_eq_true, bindK_some, cmpS_vals, catS_vals, ev_mlc, ev_mlc2, bndS_ok, ev_mraw, ↓cmp_mapM, ↓cat2_mapM, cmpM_no, catM_no, dcpM_no, cmp_pure, cmp_if, cat2_pure, cat2_if, bindT_nm, bindT_tup, bindT_lst, bindTs_nil, bindO_some, bindTs_cons, wipe_nil, wipe_cons, ev_iseq, asSrc_lst, asSrc_rol, asSrc_tup, oneC, oneI, List.map_cons, List.map_nil, ev_mand, ev_mor, ev_mnot, ev_tife, ev_tyes, ev_chain, ev_op2F, ev_op1F, ev_meth, ev_tupT, ev_lstL, ev_for, ev_setI, ev_raise, ev_brk, ev_cnt, ev_retN, ev_try, ev_asgT, ev_aug, ev_irng1, ev_irng2, ev_ienum, ev_izip, ev_slice, ev_onone, ev_osome, mkT_ok, mkL_ok, and_bl, or_bl, and_blF, and_t, or_t, chB_bl, putF_some, tryK_rt, tryK_nx, noX_rt, noX_nx, bindF_some, augK_ok, rg1_nat, rg2_zero, rg2_one, en1_tup, en1_lst, enums_map, zips_map, zp1_tup, zp1_lst, asI_int, slice_tup, slice_lst, slice_lst', ix_tupM, ix_lstM, len_tup, len_lst, tup_lst, tup_tup, list_lst, list_tup, shortOk, add_tup, add_lst, add_int, sub_int, neg_int, int_int, int_bl, eq_int, ne_int, lt_int, le_int, gt_int, ge_intE, eq_bl, ne_bl, isN_ok, notN_ok, List.length_map, List.map_map, List.length_cons, List.length_nil, isi_tup_tuple, isi_tup_list, isi_tup_int, isi_tup_str, isi_tup_bool, isi_tup_dict, isi_lst_tuple, isi_lst_list, isi_lst_int, isi_lst_str, isi_lst_bool, isi_lst_dict, isi_int_tuple, isi_int_list, isi_int_int, isi_int_str, isi_int_bool, isi_int_dict, isi_str_tuple, isi_str_list, isi_str_int, isi_str_str, isi_str_bool, isi_str_dict, isi_bl_tuple, isi_bl_list, isi_bl_int, isi_bl_str, isi_bl_bool, isi_bl_dict, isi_non_tuple, isi_non_list, isi_non_int, isi_non_str, isi_non_bool, isi_non_dict, isn_tup, isn_lst, isn_int, isn_str, isn_bl, isn_non, ixt0, ixt1, ixt2, ixt3, ixt4, ixt5, ixl0, ixl1, ixl2, ixl3, ixl4, ixl5, in_tupN, in_lstN, notin_tupN, notin_lstN, forS_vals, Bool.not_true, Bool.not_false, Bool.false_or, Bool.true_or, Bool.or_false, Bool.or_true, Bool.and_true, Bool.true_and, Bool.and_false, Bool.false_and, List.nil_append, List.cons_append, vIn2_rl0, vIn2_rd0, vNotIn2_rl0, vNotIn2_rd0, vSub2_rl0, vSub2_rd0, vLen_rl0, vTuple_rl0, vList_rl0, vSum_rl0, vAny_rl0, vAll_rl0, vSorted2_rl0, vMin_rl0, vMax_rl0, vSorted_rl0, vSorted2_rd0, vEq_rl0, vNe_rl0, asT_rl0, vAppend_r0, vExtend_r0, onTy_r0, vIn2_rl1, vIn2_rd1, vNotIn2_rl1, vNotIn2_rd1, vSub2_rl1, vSub2_rd1, vLen_rl1, vTuple_rl1, vList_rl1, vSum_rl1, vAny_rl1, vAll_rl1, vSorted2_rl1, vMin_rl1, vMax_rl1, vSorted_rl1, vSorted2_rd1, vEq_rl1, vNe_rl1, asT_rl1, vAppend_r1, vExtend_r1, onTy_r1, vIn2_rl2, vIn2_rd2, vNotIn2_rl2, vNotIn2_rd2, vSub2_rl2, vSub2_rd2, vLen_rl2, vTuple_rl2, vList_rl2, vSum_rl2, vAny_rl2, vAll_rl2, vSorted2_rl2, vMin_rl2, vMax_rl2, vSorted_rl2, vSorted2_rd2, vEq_rl2, vNe_rl2, asT_rl2, vAppend_r2, vExtend_r2, onTy_r2, vIn2_rl3, vIn2_rd3, vNotIn2_rl3, vNotIn2_rd3, vSub2_rl3, vSub2_rd3, vLen_rl3, vTuple_rl3, vList_rl3, vSum_rl3, vAny_rl3, vAll_rl3, vSorted2_rl3, vMin_rl3, vMax_rl3, vSorted_rl3, vSorted2_rd3, vEq_rl3, vNe_rl3, asT_rl3, vAppend_r3, vExtend_r3, onTy_r3, vIn2_rl4, vIn2_rd4, vNotIn2_rl4, vNotIn2_rd4, vSub2_rl4, vSub2_rd4, vLen_rl4, vTuple_rl4, vList_rl4, vSum_rl4, vAny_rl4, vAll_rl4, vSorted2_rl4, vMin_rl4, vMax_rl4, vSorted_rl4, vSorted2_rd4, vEq_rl4, vNe_rl4, asT_rl4, vAppend_r4, vExtend_r4, onTy_r4, all_tt, all_mapA, any_mapA, cut1, oneD, in_dct, notin_dct, dcS_vals, ev_mdc, dcE_ok, ↓dcp_mapM, hm]
      simp only [List.map_append, List.map_map]
    rw [e]
    exact g3
/-- a cut's rows so far -/
structure CutP (pre : List (List Deed)) (cs : List (List Nat)) : Prop where
  l : cs.length = pre.length
  r : ∀ q ∈ pre.zip cs, CutR q.1.length q.2
theorem CutP.put {pre : List (List Deed)} {cs : List (List Nat)} (h : CutP pre cs) {t : List Deed} {row : List Nat} (hr : CutR t.length row) : CutP (pre ++ [t]) (cs ++ [row]) := by
  refine ⟨by simp [h.l], fun q hq => ?_⟩
  rw [List.zip_append h.l.symm] at hq
  rcases List.mem_append.mp hq with hq | hq
  · exact h.r q hq
  · rw [show [t].zip [row] = [(t, row)] from rfl, List.mem_singleton] at hq
    subst hq; exact hr
theorem longer_loop (a b c e : Option Val) (rows : List (List Nat)) (μ : Mu) (hrl : rows.length ≤ 16) : ∀ (found longer : List (List (List Nat))) (w v : Option Val), (∀ c ∈ found, c.length ≤ 4) → longer.length + found.length * 16 ≤ 1000000 →
    ∃ w' : Option Val, forL (.nm 6) l1__law_cuts (found.map eC) [a, b, c, some (.lst (rows.map eL)), e, some (.lst (longer.map eC)), w, v] μ = .nx [a, b, c, some (.lst (rows.map eL)), e, some (.lst ((longer ++ found.flatMap fun c => rows.map fun row => c ++ [row]).map eC)), w', v] μ
  | [], longer, w, v, _, _ => ⟨w, by simp [forL]⟩
  | x :: found, longer, w, v, hf, hl => by
    rw [List.length_cons] at hl
    obtain ⟨w', g⟩ := longer_loop a b c e rows μ hrl found (longer ++ rows.map fun row => x ++ [row]) (some (eC x)) v (fun c hc => hf c (List.mem_cons_of_mem _ hc)) (by rw [List.length_append, List.length_map]; omega)
    refine ⟨w', ?_⟩
    rw [List.map_cons]
    conv => lhs; unfold forL
    dsimp only [bindT_nm, List.set_cons_succ, List.set_cons_zero]
    have hx := hf x List.mem_cons_self
    have hxl : ∀ y, (x.map eL).length + [eL y].length ≤ LIM := fun y => by
      rw [List.length_map, List.length_singleton]; unfold LIM; omega
    have hrl2 : longer.length + rows.length ≤ LIM := by unfold LIM; omega
    have e : l1__law_cuts [a, b, c, some (.lst (rows.map eL)), e, some (.lst (longer.map eC)), some (eC x), v] μ = .nx [a, b, c, some (.lst (rows.map eL)), e, some (.lst ((longer ++ rows.map fun row => x ++ [row]).map eC)), some (eC x), v] μ := by
      have hm : (rows.map fun y => Val.tup (x.map eL ++ [eL y])) = (rows.map fun row => x ++ [row]).map eC := by
        rw [List.map_map]
        apply List.map_congr_left
        intro y _
        show Val.tup _ = Val.tup ((x ++ [y]).map eL)
        rw [List.map_append]; rfl
      unfold l1__law_cuts
      simp (config := {implicitDefEqProofs := false}) (disch := (first | (with_reducible assumption) | omega | (with_reducible solve_by_elim (maxDepth := 3)) | (with_reducible exact lt_range (by with_reducible assumption)) | (with_reducible exact lt_rangeF (by with_reducible assumption)) | (with_reducible exact lt_range1 (by with_reducible assumption)) | (with_reducible exact lt_range1F (by with_reducible assumption)) | (simp only [List.length_map, List.length_range, List.length_range', List.length_cons, List.length_nil, List.length_append, LIM]; omega) | (simp only [List.length_map]; with_reducible assumption) | (simp only [List.length_map]; with_reducible solve_by_elim (maxDepth := 3)) | (simp only [List.length_map]; refine len_filter ?_; simp only [List.length_map, List.length_range, List.length_range', LIM]; omega))) only [ev_op2, ev_op1, ev_imm, ev_mut, ev_call, ev_anil, ev_acons, ev_cst, ev_seq, ev_skip, ev_asg, ev_ret, ev_drop, ev_if, ev_not, ev_and, ev_or, ev_ife, ev_bool, ev_truth, ev_mvar, lookR_ok, bnd_ok, bnd_exc, flw_ok, flw_exc, seq_nx', seq_rt', seq_exc', asB_bl, asT_bl, List.getElem?_cons_zero, List.getElem?_cons_succ, List.set_cons_zero, List.set_cons_succ, if_true, if_false, Bool.false_eq_true, bindK_some, cmpS_vals, catS_vals, ev_mlc, ev_mlc2, bndS_ok, ev_mraw, ↓cmp_mapM, ↓cat2_mapM, cmpM_no, catM_no, dcpM_no, cmp_pure, cmp_if, cat2_pure, cat2_if, bindT_nm, bindT_tup, bindT_lst, bindTs_nil, bindO_some, bindTs_cons, wipe_nil, wipe_cons, ev_iseq, asSrc_lst, asSrc_rol, asSrc_tup, oneC, oneI, List.map_cons, List.map_nil, ev_mand, ev_mor, ev_mnot, ev_tife, ev_tyes, ev_chain, ev_op2F, ev_op1F, ev_meth, ev_tupT, ev_lstL, ev_for, ev_setI, ev_raise, ev_brk, ev_cnt, ev_retN, ev_try, ev_asgT, ev_aug, ev_irng1, ev_irng2, ev_ienum, ev_izip, ev_slice, ev_onone, ev_osome, mkT_ok, mkL_ok, and_bl, or_bl, and_blF, and_t, or_t, chB_bl, putF_some, tryK_rt, tryK_nx, noX_rt, noX_nx, bindF_some, augK_ok, rg1_nat, rg2_zero, rg2_one, en1_tup, en1_lst, enums_map, zips_map, zp1_tup, zp1_lst, asI_int, slice_tup, slice_lst, slice_lst', ix_tupM, ix_lstM, len_tup, len_lst, tup_lst, tup_tup, list_lst, list_tup, shortOk, add_tup, add_lst, add_int, sub_int, neg_int, int_int, int_bl, eq_int, ne_int, lt_int, le_int, gt_int, ge_intE, eq_bl, ne_bl, isN_ok, notN_ok, List.length_map, List.map_map, List.length_cons, List.length_nil, isi_tup_tuple, isi_tup_list, isi_tup_int, isi_tup_str, isi_tup_bool, isi_tup_dict, isi_lst_tuple, isi_lst_list, isi_lst_int, isi_lst_str, isi_lst_bool, isi_lst_dict, isi_int_tuple, isi_int_list, isi_int_int, isi_int_str, isi_int_bool, isi_int_dict, isi_str_tuple, isi_str_list, isi_str_int, isi_str_str, isi_str_bool, isi_str_dict, isi_bl_tuple, isi_bl_list, isi_bl_int, isi_bl_str, isi_bl_bool, isi_bl_dict, isi_non_tuple, isi_non_list, isi_non_int, isi_non_str, isi_non_bool, isi_non_dict, isn_tup, isn_lst, isn_int, isn_str, isn_bl, isn_non, ixt0, ixt1, ixt2, ixt3, ixt4, ixt5, ixl0, ixl1, ixl2, ixl3, ixl4, ixl5, in_tupN, in_lstN, notin_tupN, notin_lstN, forS_vals, Bool.not_true, Bool.not_false, Bool.false_or, Bool.true_or, Bool.or_false, Bool.or_true, Bool.and_true, Bool.true_and, Bool.and_false, Bool.false_and, List.nil_append, List.cons_append, vIn2_rl0, vIn2_rd0, vNotIn2_rl0, vNotIn2_rd0, vSub2_rl0, vSub2_rd0, vLen_rl0, vTuple_rl0, vList_rl0, vSum_rl0, vAny_rl0, vAll_rl0, vSorted2_rl0, vMin_rl0, vMax_rl0, vSorted_rl0, vSorted2_rd0, vEq_rl0, vNe_rl0, asT_rl0, vAppend_r0, vExtend_r0, onTy_r0, vIn2_rl1, vIn2_rd1, vNotIn2_rl1, vNotIn2_rd1, vSub2_rl1, vSub2_rd1, vLen_rl1, vTuple_rl1, vList_rl1, vSum_rl1, vAny_rl1, vAll_rl1, vSorted2_rl1, vMin_rl1, vMax_rl1, vSorted_rl1, vSorted2_rd1, vEq_rl1, vNe_rl1, asT_rl1, vAppend_r1, vExtend_r1, onTy_r1, vIn2_rl2, vIn2_rd2, vNotIn2_rl2, vNotIn2_rd2, vSub2_rl2, vSub2_rd2, vLen_rl2, vTuple_rl2, vList_rl2, vSum_rl2, vAny_rl2, vAll_rl2, vSorted2_rl2, vMin_rl2, vMax_rl2, vSorted_rl2, vSorted2_rd2, vEq_rl2, vNe_rl2, asT_rl2, vAppend_r2, vExtend_r2, onTy_r2, vIn2_rl3, vIn2_rd3, vNotIn2_rl3, vNotIn2_rd3, vSub2_rl3, vSub2_rd3, vLen_rl3, vTuple_rl3, vList_rl3, vSum_rl3, vAny_rl3, vAll_rl3, vSorted2_rl3, vMin_rl3, vMax_rl3, vSorted_rl3, vSorted2_rd3, vEq_rl3, vNe_rl3, asT_rl3, vAppend_r3, vExtend_r3, onTy_r3, vIn2_rl4, vIn2_rd4, vNotIn2_rl4, vNotIn2_rd4, vSub2_rl4, vSub2_rd4, vLen_rl4, vTuple_rl4, vList_rl4, vSum_rl4, vAny_rl4, vAll_rl4, vSorted2_rl4, vMin_rl4, vMax_rl4, vSorted_rl4, vSorted2_rd4, vEq_rl4, vNe_rl4, asT_rl4, vAppend_r4, vExtend_r4, onTy_r4, all_tt, all_mapA, any_mapA, cut1, oneD, in_dct, notin_dct, dcS_vals, ev_mdc, dcE_ok, ↓dcp_mapM, hm, hxl]
      simp only [List.map_append, List.map_map]
    rw [e, List.flatMap_cons, ← List.append_assoc]
    exact g
def bd (n : Nat) : Nat := if n = 0 then 1 else if n = 1 then 16 else if n = 2 then 256 else 4096
theorem bd_next {n m : Nat} (h : m ≤ bd n * 16) (hn : n + 1 ≤ 3) : m ≤ bd (n + 1) := by
  unfold bd at *
  have : n = 0 ∨ n = 1 ∨ n = 2 := by omega
  rcases this with rfl | rfl | rfl <;> simp at * <;> omega
theorem bd_le (n : Nat) : bd n ≤ 4096 := by
  unfold bd
  split
  · omega
  · split
    · omega
    · split <;> omega
theorem cuts_loop (a : Option Val) (μ : Mu) : ∀ (ts pre : List (List Deed)) (found : List (List (List Nat))) (b c d e f g : Option Val), (∀ t ∈ ts, 1 ≤ t.length ∧ t.length ≤ 5) → pre.length + ts.length ≤ 4 → (∀ c ∈ found, CutP pre c) → (ts = [] ∨ found.length ≤ bd pre.length) →
    ∃ (found' : List (List (List Nat))) (b' c' d' e' f' g' : Option Val), (∀ c ∈ found', CutP (pre ++ ts) c) ∧ forL (.nm 2) l3__law_cuts (ts.map eR) [a, some (.lst (found.map eC)), b, c, d, e, f, g] μ = .nx [a, some (.lst (found'.map eC)), b', c', d', e', f', g'] μ := by
  intro ts
  induction ts with
  | nil => exact fun pre found b c d e f g _ _ hf _ => ⟨found, b, c, d, e, f, g, by simpa using hf, rfl⟩
  | cons t ts ih =>
    intro pre found b c d e f g ht hp hf hl
    obtain ⟨ht1, ht2⟩ := ht t List.mem_cons_self
    rw [List.length_cons] at hp
    have hl : found.length ≤ bd pre.length := by
      rcases hl with hl | hl
      · cases hl
      · exact hl
    have hfl : found.length ≤ 4096 := Nat.le_trans hl (bd_le _)
    obtain ⟨rows, d', hr1, hr2, hr3⟩ := rows_loop a (some (.lst (found.map eC))) (some (eR t)) e f g μ (t.length - 1) 1 [[]] d (by omega) (by omega) (fun c hc => by
      rw [List.mem_singleton] at hc; subst hc
      exact ⟨fun k hk => (by cases hk), by simp, List.Pairwise.nil⟩) (by
      have : 2 ^ (t.length - 1) ≤ 2 ^ 4 := Nat.pow_le_pow_right (by omega) (by omega)
      simpa using this)
    rw [show 1 + (t.length - 1) = t.length by omega] at hr1
    have hrl : rows.length ≤ 16 := by
      have : 2 ^ (t.length - 1) ≤ 2 ^ 4 := Nat.pow_le_pow_right (by omega) (by omega)
      rw [hr2]; simpa using this
    obtain ⟨f', hlo⟩ := longer_loop a (some (.lst (found.map eC))) (some (eR t)) d' rows μ hrl found [] f g (fun c hc => by have := (hf c hc).l; omega) (by simp; omega)
    obtain ⟨found', b', c', d2, e', f2, g', h1, h2⟩ := ih (pre ++ [t]) (found.flatMap fun c => rows.map fun row => c ++ [row]) (some (eR t)) (some (.lst (rows.map eL))) d' (some (.lst ((found.flatMap fun c => rows.map fun row => c ++ [row]).map eC))) f' g (fun x hx => ht x (List.mem_cons_of_mem _ hx)) (by rw [List.length_append]; simp; omega) (fun c hc => by
      obtain ⟨c0, hc0, hc⟩ := List.mem_flatMap.mp hc
      obtain ⟨row, hrow, rfl⟩ := List.mem_map.mp hc
      exact (hf c0 hc0).put ((hr1 row hrow).cut ht2)) (by
      have h3 : (found.flatMap fun c => rows.map fun row => c ++ [row]).length ≤ found.length * 16 := len_flat found.length 16 (Nat.le_refl _) (fun x _ => by rw [List.length_map]; exact hrl) (Nat.le_refl _)
      cases ts with
      | nil => exact .inl rfl
      | cons t2 ts2 =>
        right
        rw [List.length_append, List.length_singleton]
        rw [List.length_cons] at hp
        exact bd_next (by omega) (by omega))
    refine ⟨found', b', c', d2, e', f2, g', by rw [List.append_assoc] at h1; exact h1, ?_⟩
    simp only [List.map_nil, List.nil_append] at hlo
    have e : l3__law_cuts [a, some (.lst (found.map eC)), some (eR t), c, d, e, f, g] μ = .nx [a, some (.lst ((found.flatMap fun c => rows.map fun row => c ++ [row]).map eC)), some (eR t), some (.lst (rows.map eL)), d', some (.lst ((found.flatMap fun c => rows.map fun row => c ++ [row]).map eC)), f', g] μ := by
      have hr4 : forL (.nm 4) l2__law_cuts ((List.range' 1 (t.length - 1)).map eN) [a, some (.lst (found.map eC)), some (eR t), some (.lst [.tup []]), d, e, f, g] μ = .nx [a, some (.lst (found.map eC)), some (eR t), some (.lst (rows.map eL)), d', e, f, g] μ := hr3
      unfold l3__law_cuts
      simp (config := {implicitDefEqProofs := false}) (disch := (first | (with_reducible assumption) | omega | (with_reducible solve_by_elim (maxDepth := 3)) | (with_reducible exact lt_range (by with_reducible assumption)) | (with_reducible exact lt_rangeF (by with_reducible assumption)) | (with_reducible exact lt_range1 (by with_reducible assumption)) | (with_reducible exact lt_range1F (by with_reducible assumption)) | (simp only [List.length_map, List.length_range, List.length_range', List.length_cons, List.length_nil, List.length_append, LIM]; omega) | (simp only [List.length_map]; with_reducible assumption) | (simp only [List.length_map]; with_reducible solve_by_elim (maxDepth := 3)) | (simp only [List.length_map]; refine len_filter ?_; simp only [List.length_map, List.length_range, List.length_range', LIM]; omega))) only [ev_op2, ev_op1, ev_imm, ev_mut, ev_call, ev_anil, ev_acons, ev_cst, ev_seq, ev_skip, ev_asg, ev_ret, ev_drop, ev_if, ev_not, ev_and, ev_or, ev_ife, ev_bool, ev_truth, ev_mvar, lookR_ok, bnd_ok, bnd_exc, flw_ok, flw_exc, seq_nx', seq_rt', seq_exc', asB_bl, asT_bl, List.getElem?_cons_zero, List.getElem?_cons_succ, List.set_cons_zero, List.set_cons_succ, if_true, if_false, Bool.false_eq_true, bindK_some, cmpS_vals, catS_vals, ev_mlc, ev_mlc2, bndS_ok, ev_mraw, ↓cmp_mapM, ↓cat2_mapM, cmpM_no, catM_no, dcpM_no, cmp_pure, cmp_if, cat2_pure, cat2_if, bindT_nm, bindT_tup, bindT_lst, bindTs_nil, bindO_some, bindTs_cons, wipe_nil, wipe_cons, ev_iseq, asSrc_lst, asSrc_rol, asSrc_tup, oneC, oneI, List.map_cons, List.map_nil, ev_mand, ev_mor, ev_mnot, ev_tife, ev_tyes, ev_chain, ev_op2F, ev_op1F, ev_meth, ev_tupT, ev_lstL, ev_for, ev_setI, ev_raise, ev_brk, ev_cnt, ev_retN, ev_try, ev_asgT, ev_aug, ev_irng1, ev_irng2, ev_ienum, ev_izip, ev_slice, ev_onone, ev_osome, mkT_ok, mkL_ok, and_bl, or_bl, and_blF, and_t, or_t, chB_bl, putF_some, tryK_rt, tryK_nx, noX_rt, noX_nx, bindF_some, augK_ok, rg1_nat, rg2_zero, rg2_one, en1_tup, en1_lst, enums_map, zips_map, zp1_tup, zp1_lst, asI_int, slice_tup, slice_lst, slice_lst', ix_tupM, ix_lstM, len_tup, len_lst, tup_lst, tup_tup, list_lst, list_tup, shortOk, add_tup, add_lst, add_int, sub_int, neg_int, int_int, int_bl, eq_int, ne_int, lt_int, le_int, gt_int, ge_intE, eq_bl, ne_bl, isN_ok, notN_ok, List.length_map, List.map_map, List.length_cons, List.length_nil, isi_tup_tuple, isi_tup_list, isi_tup_int, isi_tup_str, isi_tup_bool, isi_tup_dict, isi_lst_tuple, isi_lst_list, isi_lst_int, isi_lst_str, isi_lst_bool, isi_lst_dict, isi_int_tuple, isi_int_list, isi_int_int, isi_int_str, isi_int_bool, isi_int_dict, isi_str_tuple, isi_str_list, isi_str_int, isi_str_str, isi_str_bool, isi_str_dict, isi_bl_tuple, isi_bl_list, isi_bl_int, isi_bl_str, isi_bl_bool, isi_bl_dict, isi_non_tuple, isi_non_list, isi_non_int, isi_non_str, isi_non_bool, isi_non_dict, isn_tup, isn_lst, isn_int, isn_str, isn_bl, isn_non, ixt0, ixt1, ixt2, ixt3, ixt4, ixt5, ixl0, ixl1, ixl2, ixl3, ixl4, ixl5, in_tupN, in_lstN, notin_tupN, notin_lstN, forS_vals, Bool.not_true, Bool.not_false, Bool.false_or, Bool.true_or, Bool.or_false, Bool.or_true, Bool.and_true, Bool.true_and, Bool.and_false, Bool.false_and, List.nil_append, List.cons_append, vIn2_rl0, vIn2_rd0, vNotIn2_rl0, vNotIn2_rd0, vSub2_rl0, vSub2_rd0, vLen_rl0, vTuple_rl0, vList_rl0, vSum_rl0, vAny_rl0, vAll_rl0, vSorted2_rl0, vMin_rl0, vMax_rl0, vSorted_rl0, vSorted2_rd0, vEq_rl0, vNe_rl0, asT_rl0, vAppend_r0, vExtend_r0, onTy_r0, vIn2_rl1, vIn2_rd1, vNotIn2_rl1, vNotIn2_rd1, vSub2_rl1, vSub2_rd1, vLen_rl1, vTuple_rl1, vList_rl1, vSum_rl1, vAny_rl1, vAll_rl1, vSorted2_rl1, vMin_rl1, vMax_rl1, vSorted_rl1, vSorted2_rd1, vEq_rl1, vNe_rl1, asT_rl1, vAppend_r1, vExtend_r1, onTy_r1, vIn2_rl2, vIn2_rd2, vNotIn2_rl2, vNotIn2_rd2, vSub2_rl2, vSub2_rd2, vLen_rl2, vTuple_rl2, vList_rl2, vSum_rl2, vAny_rl2, vAll_rl2, vSorted2_rl2, vMin_rl2, vMax_rl2, vSorted_rl2, vSorted2_rd2, vEq_rl2, vNe_rl2, asT_rl2, vAppend_r2, vExtend_r2, onTy_r2, vIn2_rl3, vIn2_rd3, vNotIn2_rl3, vNotIn2_rd3, vSub2_rl3, vSub2_rd3, vLen_rl3, vTuple_rl3, vList_rl3, vSum_rl3, vAny_rl3, vAll_rl3, vSorted2_rl3, vMin_rl3, vMax_rl3, vSorted_rl3, vSorted2_rd3, vEq_rl3, vNe_rl3, asT_rl3, vAppend_r3, vExtend_r3, onTy_r3, vIn2_rl4, vIn2_rd4, vNotIn2_rl4, vNotIn2_rd4, vSub2_rl4, vSub2_rd4, vLen_rl4, vTuple_rl4, vList_rl4, vSum_rl4, vAny_rl4, vAll_rl4, vSorted2_rl4, vMin_rl4, vMax_rl4, vSorted_rl4, vSorted2_rd4, vEq_rl4, vNe_rl4, asT_rl4, vAppend_r4, vExtend_r4, onTy_r4, all_tt, all_mapA, any_mapA, cut1, oneD, in_dct, notin_dct, dcS_vals, ev_mdc, dcE_ok, ↓dcp_mapM, hr4, hlo]
    refine (forL_nx ?_).trans h2
    exact e
end Y

namespace Y
open G PySem
theorem cuts_ok {ts : List (List Deed)} (h : Good ts) : ∃ cuts : List (List (List Nat)), (∀ c ∈ cuts, Cut ts c) ∧ ∀ μ, callD f__law_cuts [eX ts] μ = .ok (.lst (cuts.map eC)) μ := by
  obtain ⟨found, b, c, d, e, f, g, h1, h2⟩ := cuts_loop (some (eX ts)) [] ts [] [[]] none none none none none none (fun t ht => ⟨(h.r t ht).a, (h.r t ht).b⟩) (by have := h.b; simpa using this) (fun c hc => by
    rw [List.mem_singleton] at hc; subst hc
    exact ⟨rfl, fun q hq => (by cases hq)⟩) (.inr (by decide))
  refine ⟨found, fun c hc => ⟨(h1 c hc).l, (h1 c hc).r⟩, fun μ => call_rt (ups1 (up_eX ts)) rfl (v := .lst (found.map eC)) (μ' := []) ?_ (ups_map0 eC up_eC found) μ⟩
  show b__law_cuts [some (eX ts), none, none, none, none, none, none, none] [] = _
  unfold b__law_cuts
  have h3 : forL (.nm 2) l3__law_cuts (ts.map eR) [some (eX ts), some (.lst [.tup []]), none, none, none, none, none, none] [] = .nx [some (eX ts), some (.lst (found.map eC)), b, c, d, e, f, g] [] := h2
  simp (config := {implicitDefEqProofs := false}) (disch := (first | (with_reducible assumption) | omega | (with_reducible solve_by_elim (maxDepth := 3)) | (with_reducible exact lt_range (by with_reducible assumption)) | (with_reducible exact lt_rangeF (by with_reducible assumption)) | (with_reducible exact lt_range1 (by with_reducible assumption)) | (with_reducible exact lt_range1F (by with_reducible assumption)) | (simp only [List.length_map, List.length_range, List.length_range', List.length_cons, List.length_nil, List.length_append, LIM]; omega) | (simp only [List.length_map]; with_reducible assumption) | (simp only [List.length_map]; with_reducible solve_by_elim (maxDepth := 3)) | (simp only [List.length_map]; refine len_filter ?_; simp only [List.length_map, List.length_range, List.length_range', LIM]; omega))) only [ev_op2, ev_op1, ev_imm, ev_mut, ev_call, ev_anil, ev_acons, ev_cst, ev_seq, ev_skip, ev_asg, ev_ret, ev_drop, ev_if, ev_not, ev_and, ev_or, ev_ife, ev_bool, ev_truth, ev_mvar, lookR_ok, bnd_ok, bnd_exc, flw_ok, flw_exc, seq_nx', seq_rt', seq_exc', asB_bl, asT_bl, List.getElem?_cons_zero, List.getElem?_cons_succ, List.set_cons_zero, List.set_cons_succ, if_true, if_false, Bool.false_eq_true, bindK_some, cmpS_vals, catS_vals, ev_mlc, ev_mlc2, bndS_ok, ev_mraw, ↓cmp_mapM, ↓cat2_mapM, cmpM_no, catM_no, dcpM_no, cmp_pure, cmp_if, cat2_pure, cat2_if, bindT_nm, bindT_tup, bindT_lst, bindTs_nil, bindO_some, bindTs_cons, wipe_nil, wipe_cons, ev_iseq, asSrc_lst, asSrc_rol, asSrc_tup, oneC, oneI, List.map_cons, List.map_nil, ev_mand, ev_mor, ev_mnot, ev_tife, ev_tyes, ev_chain, ev_op2F, ev_op1F, ev_meth, ev_tupT, ev_lstL, ev_for, ev_setI, ev_raise, ev_brk, ev_cnt, ev_retN, ev_try, ev_asgT, ev_aug, ev_irng1, ev_irng2, ev_ienum, ev_izip, ev_slice, ev_onone, ev_osome, mkT_ok, mkL_ok, and_bl, or_bl, and_blF, and_t, or_t, chB_bl, putF_some, tryK_rt, tryK_nx, noX_rt, noX_nx, bindF_some, augK_ok, rg1_nat, rg2_zero, rg2_one, en1_tup, en1_lst, enums_map, zips_map, zp1_tup, zp1_lst, asI_int, slice_tup, slice_lst, slice_lst', ix_tupM, ix_lstM, len_tup, len_lst, tup_lst, tup_tup, list_lst, list_tup, shortOk, add_tup, add_lst, add_int, sub_int, neg_int, int_int, int_bl, eq_int, ne_int, lt_int, le_int, gt_int, ge_intE, eq_bl, ne_bl, isN_ok, notN_ok, List.length_map, List.map_map, List.length_cons, List.length_nil, isi_tup_tuple, isi_tup_list, isi_tup_int, isi_tup_str, isi_tup_bool, isi_tup_dict, isi_lst_tuple, isi_lst_list, isi_lst_int, isi_lst_str, isi_lst_bool, isi_lst_dict, isi_int_tuple, isi_int_list, isi_int_int, isi_int_str, isi_int_bool, isi_int_dict, isi_str_tuple, isi_str_list, isi_str_int, isi_str_str, isi_str_bool, isi_str_dict, isi_bl_tuple, isi_bl_list, isi_bl_int, isi_bl_str, isi_bl_bool, isi_bl_dict, isi_non_tuple, isi_non_list, isi_non_int, isi_non_str, isi_non_bool, isi_non_dict, isn_tup, isn_lst, isn_int, isn_str, isn_bl, isn_non, ixt0, ixt1, ixt2, ixt3, ixt4, ixt5, ixl0, ixl1, ixl2, ixl3, ixl4, ixl5, in_tupN, in_lstN, notin_tupN, notin_lstN, forS_vals, Bool.not_true, Bool.not_false, Bool.false_or, Bool.true_or, Bool.or_false, Bool.or_true, Bool.and_true, Bool.true_and, Bool.and_false, Bool.false_and, List.nil_append, List.cons_append, vIn2_rl0, vIn2_rd0, vNotIn2_rl0, vNotIn2_rd0, vSub2_rl0, vSub2_rd0, vLen_rl0, vTuple_rl0, vList_rl0, vSum_rl0, vAny_rl0, vAll_rl0, vSorted2_rl0, vMin_rl0, vMax_rl0, vSorted_rl0, vSorted2_rd0, vEq_rl0, vNe_rl0, asT_rl0, vAppend_r0, vExtend_r0, onTy_r0, vIn2_rl1, vIn2_rd1, vNotIn2_rl1, vNotIn2_rd1, vSub2_rl1, vSub2_rd1, vLen_rl1, vTuple_rl1, vList_rl1, vSum_rl1, vAny_rl1, vAll_rl1, vSorted2_rl1, vMin_rl1, vMax_rl1, vSorted_rl1, vSorted2_rd1, vEq_rl1, vNe_rl1, asT_rl1, vAppend_r1, vExtend_r1, onTy_r1, vIn2_rl2, vIn2_rd2, vNotIn2_rl2, vNotIn2_rd2, vSub2_rl2, vSub2_rd2, vLen_rl2, vTuple_rl2, vList_rl2, vSum_rl2, vAny_rl2, vAll_rl2, vSorted2_rl2, vMin_rl2, vMax_rl2, vSorted_rl2, vSorted2_rd2, vEq_rl2, vNe_rl2, asT_rl2, vAppend_r2, vExtend_r2, onTy_r2, vIn2_rl3, vIn2_rd3, vNotIn2_rl3, vNotIn2_rd3, vSub2_rl3, vSub2_rd3, vLen_rl3, vTuple_rl3, vList_rl3, vSum_rl3, vAny_rl3, vAll_rl3, vSorted2_rl3, vMin_rl3, vMax_rl3, vSorted_rl3, vSorted2_rd3, vEq_rl3, vNe_rl3, asT_rl3, vAppend_r3, vExtend_r3, onTy_r3, vIn2_rl4, vIn2_rd4, vNotIn2_rl4, vNotIn2_rd4, vSub2_rl4, vSub2_rd4, vLen_rl4, vTuple_rl4, vList_rl4, vSum_rl4, vAny_rl4, vAll_rl4, vSorted2_rl4, vMin_rl4, vMax_rl4, vSorted_rl4, vSorted2_rd4, vEq_rl4, vNe_rl4, asT_rl4, vAppend_r4, vExtend_r4, onTy_r4, all_tt, all_mapA, any_mapA, cut1, oneD, in_dct, notin_dct, dcS_vals, ev_mdc, dcE_ok, ↓dcp_mapM, h3]
/-! ### what are no texts -/
theorem told_bad {v : Val} (hv : up v = 0) (h : ∀ μ, callD f_is_texts [v] μ = .ok (.bl false) μ) (μ : Mu) : callD f__law_told [v] μ = .ok (.str "<malformed>") μ := by
  have h1 : ∀ μ, callD f_check_texts [v] μ = .exc ⟨1, []⟩ μ := fun μ => by
    refine call_exc (ups1 hv) rfl (sl := [some v]) (μ' := []) ?_ μ
    show b_check_texts [some v] [] = _
    unfold b_check_texts
    simp (config := {implicitDefEqProofs := false}) (disch := (first | (with_reducible assumption) | omega | (with_reducible solve_by_elim (maxDepth := 3)) | (with_reducible exact lt_range (by with_reducible assumption)) | (with_reducible exact lt_rangeF (by with_reducible assumption)) | (with_reducible exact lt_range1 (by with_reducible assumption)) | (with_reducible exact lt_range1F (by with_reducible assumption)) | (simp only [List.length_map, List.length_range, List.length_range', List.length_cons, List.length_nil, List.length_append, LIM]; omega) | (simp only [List.length_map]; with_reducible assumption) | (simp only [List.length_map]; with_reducible solve_by_elim (maxDepth := 3)) | (simp only [List.length_map]; refine len_filter ?_; simp only [List.length_map, List.length_range, List.length_range', LIM]; omega))) only [ev_op2, ev_op1, ev_imm, ev_mut, ev_call, ev_anil, ev_acons, ev_cst, ev_seq, ev_skip, ev_asg, ev_ret, ev_drop, ev_if, ev_not, ev_and, ev_or, ev_ife, ev_bool, ev_truth, ev_mvar, lookR_ok, bnd_ok, bnd_exc, flw_ok, flw_exc, seq_nx', seq_rt', seq_exc', asB_bl, asT_bl, List.getElem?_cons_zero, List.getElem?_cons_succ, List.set_cons_zero, List.set_cons_succ, if_true, if_false, Bool.false_eq_true, bindK_some, cmpS_vals, catS_vals, ev_mlc, ev_mlc2, bndS_ok, ev_mraw, ↓cmp_mapM, ↓cat2_mapM, cmpM_no, catM_no, dcpM_no, cmp_pure, cmp_if, cat2_pure, cat2_if, bindT_nm, bindT_tup, bindT_lst, bindTs_nil, bindO_some, bindTs_cons, wipe_nil, wipe_cons, ev_iseq, asSrc_lst, asSrc_rol, asSrc_tup, oneC, oneI, List.map_cons, List.map_nil, ev_mand, ev_mor, ev_mnot, ev_tife, ev_tyes, ev_chain, ev_op2F, ev_op1F, ev_meth, ev_tupT, ev_lstL, ev_for, ev_setI, ev_raise, ev_brk, ev_cnt, ev_retN, ev_try, ev_asgT, ev_aug, ev_irng1, ev_irng2, ev_ienum, ev_izip, ev_slice, ev_onone, ev_osome, mkT_ok, mkL_ok, and_bl, or_bl, and_blF, and_t, or_t, chB_bl, putF_some, tryK_rt, tryK_nx, noX_rt, noX_nx, bindF_some, augK_ok, rg1_nat, rg2_zero, rg2_one, en1_tup, en1_lst, enums_map, zips_map, zp1_tup, zp1_lst, asI_int, slice_tup, slice_lst, slice_lst', ix_tupM, ix_lstM, len_tup, len_lst, tup_lst, tup_tup, list_lst, list_tup, shortOk, add_tup, add_lst, add_int, sub_int, neg_int, int_int, int_bl, eq_int, ne_int, lt_int, le_int, gt_int, ge_intE, eq_bl, ne_bl, isN_ok, notN_ok, List.length_map, List.map_map, List.length_cons, List.length_nil, isi_tup_tuple, isi_tup_list, isi_tup_int, isi_tup_str, isi_tup_bool, isi_tup_dict, isi_lst_tuple, isi_lst_list, isi_lst_int, isi_lst_str, isi_lst_bool, isi_lst_dict, isi_int_tuple, isi_int_list, isi_int_int, isi_int_str, isi_int_bool, isi_int_dict, isi_str_tuple, isi_str_list, isi_str_int, isi_str_str, isi_str_bool, isi_str_dict, isi_bl_tuple, isi_bl_list, isi_bl_int, isi_bl_str, isi_bl_bool, isi_bl_dict, isi_non_tuple, isi_non_list, isi_non_int, isi_non_str, isi_non_bool, isi_non_dict, isn_tup, isn_lst, isn_int, isn_str, isn_bl, isn_non, ixt0, ixt1, ixt2, ixt3, ixt4, ixt5, ixl0, ixl1, ixl2, ixl3, ixl4, ixl5, in_tupN, in_lstN, notin_tupN, notin_lstN, forS_vals, Bool.not_true, Bool.not_false, Bool.false_or, Bool.true_or, Bool.or_false, Bool.or_true, Bool.and_true, Bool.true_and, Bool.and_false, Bool.false_and, List.nil_append, List.cons_append, vIn2_rl0, vIn2_rd0, vNotIn2_rl0, vNotIn2_rd0, vSub2_rl0, vSub2_rd0, vLen_rl0, vTuple_rl0, vList_rl0, vSum_rl0, vAny_rl0, vAll_rl0, vSorted2_rl0, vMin_rl0, vMax_rl0, vSorted_rl0, vSorted2_rd0, vEq_rl0, vNe_rl0, asT_rl0, vAppend_r0, vExtend_r0, onTy_r0, vIn2_rl1, vIn2_rd1, vNotIn2_rl1, vNotIn2_rd1, vSub2_rl1, vSub2_rd1, vLen_rl1, vTuple_rl1, vList_rl1, vSum_rl1, vAny_rl1, vAll_rl1, vSorted2_rl1, vMin_rl1, vMax_rl1, vSorted_rl1, vSorted2_rd1, vEq_rl1, vNe_rl1, asT_rl1, vAppend_r1, vExtend_r1, onTy_r1, vIn2_rl2, vIn2_rd2, vNotIn2_rl2, vNotIn2_rd2, vSub2_rl2, vSub2_rd2, vLen_rl2, vTuple_rl2, vList_rl2, vSum_rl2, vAny_rl2, vAll_rl2, vSorted2_rl2, vMin_rl2, vMax_rl2, vSorted_rl2, vSorted2_rd2, vEq_rl2, vNe_rl2, asT_rl2, vAppend_r2, vExtend_r2, onTy_r2, vIn2_rl3, vIn2_rd3, vNotIn2_rl3, vNotIn2_rd3, vSub2_rl3, vSub2_rd3, vLen_rl3, vTuple_rl3, vList_rl3, vSum_rl3, vAny_rl3, vAll_rl3, vSorted2_rl3, vMin_rl3, vMax_rl3, vSorted_rl3, vSorted2_rd3, vEq_rl3, vNe_rl3, asT_rl3, vAppend_r3, vExtend_r3, onTy_r3, vIn2_rl4, vIn2_rd4, vNotIn2_rl4, vNotIn2_rd4, vSub2_rl4, vSub2_rd4, vLen_rl4, vTuple_rl4, vList_rl4, vSum_rl4, vAny_rl4, vAll_rl4, vSorted2_rl4, vMin_rl4, vMax_rl4, vSorted_rl4, vSorted2_rd4, vEq_rl4, vNe_rl4, asT_rl4, vAppend_r4, vExtend_r4, onTy_r4, all_tt, all_mapA, any_mapA, cut1, oneD, in_dct, notin_dct, dcS_vals, ev_mdc, dcE_ok, ↓dcp_mapM, h]
  have h2 : ∀ μ, callD f_finest_cut [v] μ = .exc ⟨1, []⟩ μ := fun μ => by
    refine call_exc (ups1 hv) rfl (sl := [some v, none, none, none, none, none, none, none]) (μ' := []) ?_ μ
    show b_finest_cut [some v, none, none, none, none, none, none, none] [] = _
    unfold b_finest_cut
    simp (config := {implicitDefEqProofs := false}) (disch := (first | (with_reducible assumption) | omega | (with_reducible solve_by_elim (maxDepth := 3)) | (with_reducible exact lt_range (by with_reducible assumption)) | (with_reducible exact lt_rangeF (by with_reducible assumption)) | (with_reducible exact lt_range1 (by with_reducible assumption)) | (with_reducible exact lt_range1F (by with_reducible assumption)) | (simp only [List.length_map, List.length_range, List.length_range', List.length_cons, List.length_nil, List.length_append, LIM]; omega) | (simp only [List.length_map]; with_reducible assumption) | (simp only [List.length_map]; with_reducible solve_by_elim (maxDepth := 3)) | (simp only [List.length_map]; refine len_filter ?_; simp only [List.length_map, List.length_range, List.length_range', LIM]; omega))) only [ev_op2, ev_op1, ev_imm, ev_mut, ev_call, ev_anil, ev_acons, ev_cst, ev_seq, ev_skip, ev_asg, ev_ret, ev_drop, ev_if, ev_not, ev_and, ev_or, ev_ife, ev_bool, ev_truth, ev_mvar, lookR_ok, bnd_ok, bnd_exc, flw_ok, flw_exc, seq_nx', seq_rt', seq_exc', asB_bl, asT_bl, List.getElem?_cons_zero, List.getElem?_cons_succ, List.set_cons_zero, List.set_cons_succ, if_true, if_false, Bool.false_eq_true, bindK_some, cmpS_vals, catS_vals, ev_mlc, ev_mlc2, bndS_ok, ev_mraw, ↓cmp_mapM, ↓cat2_mapM, cmpM_no, catM_no, dcpM_no, cmp_pure, cmp_if, cat2_pure, cat2_if, bindT_nm, bindT_tup, bindT_lst, bindTs_nil, bindO_some, bindTs_cons, wipe_nil, wipe_cons, ev_iseq, asSrc_lst, asSrc_rol, asSrc_tup, oneC, oneI, List.map_cons, List.map_nil, ev_mand, ev_mor, ev_mnot, ev_tife, ev_tyes, ev_chain, ev_op2F, ev_op1F, ev_meth, ev_tupT, ev_lstL, ev_for, ev_setI, ev_raise, ev_brk, ev_cnt, ev_retN, ev_try, ev_asgT, ev_aug, ev_irng1, ev_irng2, ev_ienum, ev_izip, ev_slice, ev_onone, ev_osome, mkT_ok, mkL_ok, and_bl, or_bl, and_blF, and_t, or_t, chB_bl, putF_some, tryK_rt, tryK_nx, noX_rt, noX_nx, bindF_some, augK_ok, rg1_nat, rg2_zero, rg2_one, en1_tup, en1_lst, enums_map, zips_map, zp1_tup, zp1_lst, asI_int, slice_tup, slice_lst, slice_lst', ix_tupM, ix_lstM, len_tup, len_lst, tup_lst, tup_tup, list_lst, list_tup, shortOk, add_tup, add_lst, add_int, sub_int, neg_int, int_int, int_bl, eq_int, ne_int, lt_int, le_int, gt_int, ge_intE, eq_bl, ne_bl, isN_ok, notN_ok, List.length_map, List.map_map, List.length_cons, List.length_nil, isi_tup_tuple, isi_tup_list, isi_tup_int, isi_tup_str, isi_tup_bool, isi_tup_dict, isi_lst_tuple, isi_lst_list, isi_lst_int, isi_lst_str, isi_lst_bool, isi_lst_dict, isi_int_tuple, isi_int_list, isi_int_int, isi_int_str, isi_int_bool, isi_int_dict, isi_str_tuple, isi_str_list, isi_str_int, isi_str_str, isi_str_bool, isi_str_dict, isi_bl_tuple, isi_bl_list, isi_bl_int, isi_bl_str, isi_bl_bool, isi_bl_dict, isi_non_tuple, isi_non_list, isi_non_int, isi_non_str, isi_non_bool, isi_non_dict, isn_tup, isn_lst, isn_int, isn_str, isn_bl, isn_non, ixt0, ixt1, ixt2, ixt3, ixt4, ixt5, ixl0, ixl1, ixl2, ixl3, ixl4, ixl5, in_tupN, in_lstN, notin_tupN, notin_lstN, forS_vals, Bool.not_true, Bool.not_false, Bool.false_or, Bool.true_or, Bool.or_false, Bool.or_true, Bool.and_true, Bool.true_and, Bool.and_false, Bool.false_and, List.nil_append, List.cons_append, vIn2_rl0, vIn2_rd0, vNotIn2_rl0, vNotIn2_rd0, vSub2_rl0, vSub2_rd0, vLen_rl0, vTuple_rl0, vList_rl0, vSum_rl0, vAny_rl0, vAll_rl0, vSorted2_rl0, vMin_rl0, vMax_rl0, vSorted_rl0, vSorted2_rd0, vEq_rl0, vNe_rl0, asT_rl0, vAppend_r0, vExtend_r0, onTy_r0, vIn2_rl1, vIn2_rd1, vNotIn2_rl1, vNotIn2_rd1, vSub2_rl1, vSub2_rd1, vLen_rl1, vTuple_rl1, vList_rl1, vSum_rl1, vAny_rl1, vAll_rl1, vSorted2_rl1, vMin_rl1, vMax_rl1, vSorted_rl1, vSorted2_rd1, vEq_rl1, vNe_rl1, asT_rl1, vAppend_r1, vExtend_r1, onTy_r1, vIn2_rl2, vIn2_rd2, vNotIn2_rl2, vNotIn2_rd2, vSub2_rl2, vSub2_rd2, vLen_rl2, vTuple_rl2, vList_rl2, vSum_rl2, vAny_rl2, vAll_rl2, vSorted2_rl2, vMin_rl2, vMax_rl2, vSorted_rl2, vSorted2_rd2, vEq_rl2, vNe_rl2, asT_rl2, vAppend_r2, vExtend_r2, onTy_r2, vIn2_rl3, vIn2_rd3, vNotIn2_rl3, vNotIn2_rd3, vSub2_rl3, vSub2_rd3, vLen_rl3, vTuple_rl3, vList_rl3, vSum_rl3, vAny_rl3, vAll_rl3, vSorted2_rl3, vMin_rl3, vMax_rl3, vSorted_rl3, vSorted2_rd3, vEq_rl3, vNe_rl3, asT_rl3, vAppend_r3, vExtend_r3, onTy_r3, vIn2_rl4, vIn2_rd4, vNotIn2_rl4, vNotIn2_rd4, vSub2_rl4, vSub2_rd4, vLen_rl4, vTuple_rl4, vList_rl4, vSum_rl4, vAny_rl4, vAll_rl4, vSorted2_rl4, vMin_rl4, vMax_rl4, vSorted_rl4, vSorted2_rd4, vEq_rl4, vNe_rl4, asT_rl4, vAppend_r4, vExtend_r4, onTy_r4, all_tt, all_mapA, any_mapA, cut1, oneD, in_dct, notin_dct, dcS_vals, ev_mdc, dcE_ok, ↓dcp_mapM, h1]
  refine call_rt (ups1 hv) rfl (v := .str "<malformed>") (μ' := []) ?_ rfl μ
  show b__law_told [some v] [] = _
  unfold b__law_told
  have hm : mt_Malformed 1 = some true := rfl
  simp (config := {implicitDefEqProofs := false}) (disch := (first | (with_reducible assumption) | omega | (with_reducible solve_by_elim (maxDepth := 3)) | (with_reducible exact lt_range (by with_reducible assumption)) | (with_reducible exact lt_rangeF (by with_reducible assumption)) | (with_reducible exact lt_range1 (by with_reducible assumption)) | (with_reducible exact lt_range1F (by with_reducible assumption)) | (simp only [List.length_map, List.length_range, List.length_range', List.length_cons, List.length_nil, List.length_append, LIM]; omega) | (simp only [List.length_map]; with_reducible assumption) | (simp only [List.length_map]; with_reducible solve_by_elim (maxDepth := 3)) | (simp only [List.length_map]; refine len_filter ?_; simp only [List.length_map, List.length_range, List.length_range', LIM]; omega))) only [ev_op2, ev_op1, ev_imm, ev_mut, ev_call, ev_anil, ev_acons, ev_cst, ev_seq, ev_skip, ev_asg, ev_ret, ev_drop, ev_if, ev_not, ev_and, ev_or, ev_ife, ev_bool, ev_truth, ev_mvar, lookR_ok, bnd_ok, bnd_exc, flw_ok, flw_exc, seq_nx', seq_rt', seq_exc', asB_bl, asT_bl, List.getElem?_cons_zero, List.getElem?_cons_succ, List.set_cons_zero, List.set_cons_succ, if_true, if_false, Bool.false_eq_true, bindK_some, cmpS_vals, catS_vals, ev_mlc, ev_mlc2, bndS_ok, ev_mraw, ↓cmp_mapM, ↓cat2_mapM, cmpM_no, catM_no, dcpM_no, cmp_pure, cmp_if, cat2_pure, cat2_if, bindT_nm, bindT_tup, bindT_lst, bindTs_nil, bindO_some, bindTs_cons, wipe_nil, wipe_cons, ev_iseq, asSrc_lst, asSrc_rol, asSrc_tup, oneC, oneI, List.map_cons, List.map_nil, ev_mand, ev_mor, ev_mnot, ev_tife, ev_tyes, ev_chain, ev_op2F, ev_op1F, ev_meth, ev_tupT, ev_lstL, ev_for, ev_setI, ev_raise, ev_brk, ev_cnt, ev_retN, ev_try, ev_asgT, ev_aug, ev_irng1, ev_irng2, ev_ienum, ev_izip, ev_slice, ev_onone, ev_osome, mkT_ok, mkL_ok, and_bl, or_bl, and_blF, and_t, or_t, chB_bl, putF_some, tryK_rt, tryK_nx, noX_rt, noX_nx, bindF_some, augK_ok, rg1_nat, rg2_zero, rg2_one, en1_tup, en1_lst, enums_map, zips_map, zp1_tup, zp1_lst, asI_int, slice_tup, slice_lst, slice_lst', ix_tupM, ix_lstM, len_tup, len_lst, tup_lst, tup_tup, list_lst, list_tup, shortOk, add_tup, add_lst, add_int, sub_int, neg_int, int_int, int_bl, eq_int, ne_int, lt_int, le_int, gt_int, ge_intE, eq_bl, ne_bl, isN_ok, notN_ok, List.length_map, List.map_map, List.length_cons, List.length_nil, isi_tup_tuple, isi_tup_list, isi_tup_int, isi_tup_str, isi_tup_bool, isi_tup_dict, isi_lst_tuple, isi_lst_list, isi_lst_int, isi_lst_str, isi_lst_bool, isi_lst_dict, isi_int_tuple, isi_int_list, isi_int_int, isi_int_str, isi_int_bool, isi_int_dict, isi_str_tuple, isi_str_list, isi_str_int, isi_str_str, isi_str_bool, isi_str_dict, isi_bl_tuple, isi_bl_list, isi_bl_int, isi_bl_str, isi_bl_bool, isi_bl_dict, isi_non_tuple, isi_non_list, isi_non_int, isi_non_str, isi_non_bool, isi_non_dict, isn_tup, isn_lst, isn_int, isn_str, isn_bl, isn_non, ixt0, ixt1, ixt2, ixt3, ixt4, ixt5, ixl0, ixl1, ixl2, ixl3, ixl4, ixl5, in_tupN, in_lstN, notin_tupN, notin_lstN, forS_vals, Bool.not_true, Bool.not_false, Bool.false_or, Bool.true_or, Bool.or_false, Bool.or_true, Bool.and_true, Bool.true_and, Bool.and_false, Bool.false_and, List.nil_append, List.cons_append, vIn2_rl0, vIn2_rd0, vNotIn2_rl0, vNotIn2_rd0, vSub2_rl0, vSub2_rd0, vLen_rl0, vTuple_rl0, vList_rl0, vSum_rl0, vAny_rl0, vAll_rl0, vSorted2_rl0, vMin_rl0, vMax_rl0, vSorted_rl0, vSorted2_rd0, vEq_rl0, vNe_rl0, asT_rl0, vAppend_r0, vExtend_r0, onTy_r0, vIn2_rl1, vIn2_rd1, vNotIn2_rl1, vNotIn2_rd1, vSub2_rl1, vSub2_rd1, vLen_rl1, vTuple_rl1, vList_rl1, vSum_rl1, vAny_rl1, vAll_rl1, vSorted2_rl1, vMin_rl1, vMax_rl1, vSorted_rl1, vSorted2_rd1, vEq_rl1, vNe_rl1, asT_rl1, vAppend_r1, vExtend_r1, onTy_r1, vIn2_rl2, vIn2_rd2, vNotIn2_rl2, vNotIn2_rd2, vSub2_rl2, vSub2_rd2, vLen_rl2, vTuple_rl2, vList_rl2, vSum_rl2, vAny_rl2, vAll_rl2, vSorted2_rl2, vMin_rl2, vMax_rl2, vSorted_rl2, vSorted2_rd2, vEq_rl2, vNe_rl2, asT_rl2, vAppend_r2, vExtend_r2, onTy_r2, vIn2_rl3, vIn2_rd3, vNotIn2_rl3, vNotIn2_rd3, vSub2_rl3, vSub2_rd3, vLen_rl3, vTuple_rl3, vList_rl3, vSum_rl3, vAny_rl3, vAll_rl3, vSorted2_rl3, vMin_rl3, vMax_rl3, vSorted_rl3, vSorted2_rd3, vEq_rl3, vNe_rl3, asT_rl3, vAppend_r3, vExtend_r3, onTy_r3, vIn2_rl4, vIn2_rd4, vNotIn2_rl4, vNotIn2_rd4, vSub2_rl4, vSub2_rd4, vLen_rl4, vTuple_rl4, vList_rl4, vSum_rl4, vAny_rl4, vAll_rl4, vSorted2_rl4, vMin_rl4, vMax_rl4, vSorted_rl4, vSorted2_rd4, vEq_rl4, vNe_rl4, asT_rl4, vAppend_r4, vExtend_r4, onTy_r4, all_tt, all_mapA, any_mapA, cut1, oneD, in_dct, notin_dct, dcS_vals, ev_mdc, dcE_ok, ↓dcp_mapM, h2, tryK_exc, hm]
/-- texts and one thing behind -/
def eO : Option (List Deed) → Val
  | none => .non
  | some t => eR t
theorem isO (ts : List (List Deed)) (h : Good ts) : ∀ o ∈ ts.map some ++ [none], ∀ μ, callD f_is_text [eO o] μ = .ok (.bl o.isSome) μ := fun o ho μ => by
  rcases List.mem_append.mp ho with ho | ho
  · obtain ⟨t, ht, rfl⟩ := List.mem_map.mp ho
    exact text_ok t (h.r t ht) μ
  · rw [List.mem_singleton] at ho
    subst ho
    have e : callD f_is_text [.non] [] = .ok (.bl false) [] := by kernel_rfl
    exact callD_of rfl e μ
theorem up_eO (o : Option (List Deed)) : up (eO o) = 0 := by
  cases o with
  | none => rfl
  | some t => exact up_eR t
theorem bad_none {ts : List (List Deed)} (h : Good ts) (μ : Mu) : callD f_is_texts [.tup (ts.map eR ++ [.non])] μ = .ok (.bl false) μ := by
  have e0 : ts.map eR ++ [.non] = (ts.map some ++ [none]).map eO := by rw [List.map_append, List.map_map]; rfl
  rw [e0]
  refine call_rt (ups1 (show up (.tup _) = 0 from ups_map0 eO up_eO _)) rfl (v := .bl false) (μ' := []) ?_ rfl μ
  show b_is_texts [some (.tup ((ts.map some ++ [none]).map eO)), none] [] = _
  have hi := isO ts h
  have ha : (ts.map some ++ [none]).all (fun o => o.isSome) = false := by
    rw [List.all_append]; simp
  have hb := h.b
  have hl : (ts.map some ++ [none]).length ≤ LIM := by
    rw [List.length_append, List.length_map]; unfold LIM; simp; omega
  unfold b_is_texts v_MOST_PROGRAMS
  generalize ts.map some ++ [none] = os at hi ha hl
  simp (config := {implicitDefEqProofs := false}) (disch := (first | (with_reducible assumption) | omega | (with_reducible solve_by_elim (maxDepth := 3)) | (with_reducible exact lt_range (by with_reducible assumption)) | (with_reducible exact lt_rangeF (by with_reducible assumption)) | (with_reducible exact lt_range1 (by with_reducible assumption)) | (with_reducible exact lt_range1F (by with_reducible assumption)) | (simp only [List.length_map, List.length_range, List.length_range', List.length_cons, List.length_nil, List.length_append, LIM]; omega) | (simp only [List.length_map]; with_reducible assumption) | (simp only [List.length_map]; with_reducible solve_by_elim (maxDepth := 3)) | (simp only [List.length_map]; refine len_filter ?_; simp only [List.length_map, List.length_range, List.length_range', LIM]; omega))) only [ev_op2, ev_op1, ev_imm, ev_mut, ev_call, ev_anil, ev_acons, ev_cst, ev_seq, ev_skip, ev_asg, ev_ret, ev_drop, ev_if, ev_not, ev_and, ev_or, ev_ife, ev_bool, ev_truth, ev_mvar, lookR_ok, bnd_ok, bnd_exc, flw_ok, flw_exc, seq_nx', seq_rt', seq_exc', asB_bl, asT_bl, List.getElem?_cons_zero, List.getElem?_cons_succ, List.set_cons_zero, List.set_cons_succ, if_true, if_false, Bool.false_eq_true, bindK_some, cmpS_vals, catS_vals, ev_mlc, ev_mlc2, bndS_ok, ev_mraw, ↓cmp_mapM, ↓cat2_mapM, cmpM_no, catM_no, dcpM_no, cmp_pure, cmp_if, cat2_pure, cat2_if, bindT_nm, bindT_tup, bindT_lst, bindTs_nil, bindO_some, bindTs_cons, wipe_nil, wipe_cons, ev_iseq, asSrc_lst, asSrc_rol, asSrc_tup, oneC, oneI, List.map_cons, List.map_nil, ev_mand, ev_mor, ev_mnot, ev_tife, ev_tyes, ev_chain, ev_op2F, ev_op1F, ev_meth, ev_tupT, ev_lstL, ev_for, ev_setI, ev_raise, ev_brk, ev_cnt, ev_retN, ev_try, ev_asgT, ev_aug, ev_irng1, ev_irng2, ev_ienum, ev_izip, ev_slice, ev_onone, ev_osome, mkT_ok, mkL_ok, and_bl, or_bl, and_blF, and_t, or_t, chB_bl, putF_some, tryK_rt, tryK_nx, noX_rt, noX_nx, bindF_some, augK_ok, rg1_nat, rg2_zero, rg2_one, en1_tup, en1_lst, enums_map, zips_map, zp1_tup, zp1_lst, asI_int, slice_tup, slice_lst, slice_lst', ix_tupM, ix_lstM, len_tup, len_lst, tup_lst, tup_tup, list_lst, list_tup, shortOk, add_tup, add_lst, add_int, sub_int, neg_int, int_int, int_bl, eq_int, ne_int, lt_int, le_int, gt_int, ge_intE, eq_bl, ne_bl, isN_ok, notN_ok, List.length_map, List.map_map, List.length_cons, List.length_nil, isi_tup_tuple, isi_tup_list, isi_tup_int, isi_tup_str, isi_tup_bool, isi_tup_dict, isi_lst_tuple, isi_lst_list, isi_lst_int, isi_lst_str, isi_lst_bool, isi_lst_dict, isi_int_tuple, isi_int_list, isi_int_int, isi_int_str, isi_int_bool, isi_int_dict, isi_str_tuple, isi_str_list, isi_str_int, isi_str_str, isi_str_bool, isi_str_dict, isi_bl_tuple, isi_bl_list, isi_bl_int, isi_bl_str, isi_bl_bool, isi_bl_dict, isi_non_tuple, isi_non_list, isi_non_int, isi_non_str, isi_non_bool, isi_non_dict, isn_tup, isn_lst, isn_int, isn_str, isn_bl, isn_non, ixt0, ixt1, ixt2, ixt3, ixt4, ixt5, ixl0, ixl1, ixl2, ixl3, ixl4, ixl5, in_tupN, in_lstN, notin_tupN, notin_lstN, forS_vals, Bool.not_true, Bool.not_false, Bool.false_or, Bool.true_or, Bool.or_false, Bool.or_true, Bool.and_true, Bool.true_and, Bool.and_false, Bool.false_and, List.nil_append, List.cons_append, vIn2_rl0, vIn2_rd0, vNotIn2_rl0, vNotIn2_rd0, vSub2_rl0, vSub2_rd0, vLen_rl0, vTuple_rl0, vList_rl0, vSum_rl0, vAny_rl0, vAll_rl0, vSorted2_rl0, vMin_rl0, vMax_rl0, vSorted_rl0, vSorted2_rd0, vEq_rl0, vNe_rl0, asT_rl0, vAppend_r0, vExtend_r0, onTy_r0, vIn2_rl1, vIn2_rd1, vNotIn2_rl1, vNotIn2_rd1, vSub2_rl1, vSub2_rd1, vLen_rl1, vTuple_rl1, vList_rl1, vSum_rl1, vAny_rl1, vAll_rl1, vSorted2_rl1, vMin_rl1, vMax_rl1, vSorted_rl1, vSorted2_rd1, vEq_rl1, vNe_rl1, asT_rl1, vAppend_r1, vExtend_r1, onTy_r1, vIn2_rl2, vIn2_rd2, vNotIn2_rl2, vNotIn2_rd2, vSub2_rl2, vSub2_rd2, vLen_rl2, vTuple_rl2, vList_rl2, vSum_rl2, vAny_rl2, vAll_rl2, vSorted2_rl2, vMin_rl2, vMax_rl2, vSorted_rl2, vSorted2_rd2, vEq_rl2, vNe_rl2, asT_rl2, vAppend_r2, vExtend_r2, onTy_r2, vIn2_rl3, vIn2_rd3, vNotIn2_rl3, vNotIn2_rd3, vSub2_rl3, vSub2_rd3, vLen_rl3, vTuple_rl3, vList_rl3, vSum_rl3, vAny_rl3, vAll_rl3, vSorted2_rl3, vMin_rl3, vMax_rl3, vSorted_rl3, vSorted2_rd3, vEq_rl3, vNe_rl3, asT_rl3, vAppend_r3, vExtend_r3, onTy_r3, vIn2_rl4, vIn2_rd4, vNotIn2_rl4, vNotIn2_rd4, vSub2_rl4, vSub2_rd4, vLen_rl4, vTuple_rl4, vList_rl4, vSum_rl4, vAny_rl4, vAll_rl4, vSorted2_rl4, vMin_rl4, vMax_rl4, vSorted_rl4, vSorted2_rd4, vEq_rl4, vNe_rl4, asT_rl4, vAppend_r4, vExtend_r4, onTy_r4, all_tt, all_mapA, any_mapA, cut1, oneD, in_dct, notin_dct, dcS_vals, ev_mdc, dcE_ok, ↓dcp_mapM, hi, ha]
  try cases decide ((1 : Int) ≤ (os.length : Int)) && decide ((os.length : Int) ≤ 4) <;> rfl
theorem bad_list {ts : List (List Deed)} (μ : Mu) : callD f_is_texts [.lst (ts.map eR)] μ = .ok (.bl false) μ := by
  refine call_rt (ups1 (show up (.lst _) = 0 from ups_map0 eR up_eR _)) rfl (v := .bl false) (μ' := []) ?_ rfl μ
  show b_is_texts [some (.lst (ts.map eR)), none] [] = _
  unfold b_is_texts
  simp (config := {implicitDefEqProofs := false}) (disch := (first | (with_reducible assumption) | omega | (with_reducible solve_by_elim (maxDepth := 3)) | (with_reducible exact lt_range (by with_reducible assumption)) | (with_reducible exact lt_rangeF (by with_reducible assumption)) | (with_reducible exact lt_range1 (by with_reducible assumption)) | (with_reducible exact lt_range1F (by with_reducible assumption)) | (simp only [List.length_map, List.length_range, List.length_range', List.length_cons, List.length_nil, List.length_append, LIM]; omega) | (simp only [List.length_map]; with_reducible assumption) | (simp only [List.length_map]; with_reducible solve_by_elim (maxDepth := 3)) | (simp only [List.length_map]; refine len_filter ?_; simp only [List.length_map, List.length_range, List.length_range', LIM]; omega))) only [ev_op2, ev_op1, ev_imm, ev_mut, ev_call, ev_anil, ev_acons, ev_cst, ev_seq, ev_skip, ev_asg, ev_ret, ev_drop, ev_if, ev_not, ev_and, ev_or, ev_ife, ev_bool, ev_truth, ev_mvar, lookR_ok, bnd_ok, bnd_exc, flw_ok, flw_exc, seq_nx', seq_rt', seq_exc', asB_bl, asT_bl, List.getElem?_cons_zero, List.getElem?_cons_succ, List.set_cons_zero, List.set_cons_succ, if_true, if_false, Bool.false_eq_true, bindK_some, cmpS_vals, catS_vals, ev_mlc, ev_mlc2, bndS_ok, ev_mraw, ↓cmp_mapM, ↓cat2_mapM, cmpM_no, catM_no, dcpM_no, cmp_pure, cmp_if, cat2_pure, cat2_if, bindT_nm, bindT_tup, bindT_lst, bindTs_nil, bindO_some, bindTs_cons, wipe_nil, wipe_cons, ev_iseq, asSrc_lst, asSrc_rol, asSrc_tup, oneC, oneI, List.map_cons, List.map_nil, ev_mand, ev_mor, ev_mnot, ev_tife, ev_tyes, ev_chain, ev_op2F, ev_op1F, ev_meth, ev_tupT, ev_lstL, ev_for, ev_setI, ev_raise, ev_brk, ev_cnt, ev_retN, ev_try, ev_asgT, ev_aug, ev_irng1, ev_irng2, ev_ienum, ev_izip, ev_slice, ev_onone, ev_osome, mkT_ok, mkL_ok, and_bl, or_bl, and_blF, and_t, or_t, chB_bl, putF_some, tryK_rt, tryK_nx, noX_rt, noX_nx, bindF_some, augK_ok, rg1_nat, rg2_zero, rg2_one, en1_tup, en1_lst, enums_map, zips_map, zp1_tup, zp1_lst, asI_int, slice_tup, slice_lst, slice_lst', ix_tupM, ix_lstM, len_tup, len_lst, tup_lst, tup_tup, list_lst, list_tup, shortOk, add_tup, add_lst, add_int, sub_int, neg_int, int_int, int_bl, eq_int, ne_int, lt_int, le_int, gt_int, ge_intE, eq_bl, ne_bl, isN_ok, notN_ok, List.length_map, List.map_map, List.length_cons, List.length_nil, isi_tup_tuple, isi_tup_list, isi_tup_int, isi_tup_str, isi_tup_bool, isi_tup_dict, isi_lst_tuple, isi_lst_list, isi_lst_int, isi_lst_str, isi_lst_bool, isi_lst_dict, isi_int_tuple, isi_int_list, isi_int_int, isi_int_str, isi_int_bool, isi_int_dict, isi_str_tuple, isi_str_list, isi_str_int, isi_str_str, isi_str_bool, isi_str_dict, isi_bl_tuple, isi_bl_list, isi_bl_int, isi_bl_str, isi_bl_bool, isi_bl_dict, isi_non_tuple, isi_non_list, isi_non_int, isi_non_str, isi_non_bool, isi_non_dict, isn_tup, isn_lst, isn_int, isn_str, isn_bl, isn_non, ixt0, ixt1, ixt2, ixt3, ixt4, ixt5, ixl0, ixl1, ixl2, ixl3, ixl4, ixl5, in_tupN, in_lstN, notin_tupN, notin_lstN, forS_vals, Bool.not_true, Bool.not_false, Bool.false_or, Bool.true_or, Bool.or_false, Bool.or_true, Bool.and_true, Bool.true_and, Bool.and_false, Bool.false_and, List.nil_append, List.cons_append, vIn2_rl0, vIn2_rd0, vNotIn2_rl0, vNotIn2_rd0, vSub2_rl0, vSub2_rd0, vLen_rl0, vTuple_rl0, vList_rl0, vSum_rl0, vAny_rl0, vAll_rl0, vSorted2_rl0, vMin_rl0, vMax_rl0, vSorted_rl0, vSorted2_rd0, vEq_rl0, vNe_rl0, asT_rl0, vAppend_r0, vExtend_r0, onTy_r0, vIn2_rl1, vIn2_rd1, vNotIn2_rl1, vNotIn2_rd1, vSub2_rl1, vSub2_rd1, vLen_rl1, vTuple_rl1, vList_rl1, vSum_rl1, vAny_rl1, vAll_rl1, vSorted2_rl1, vMin_rl1, vMax_rl1, vSorted_rl1, vSorted2_rd1, vEq_rl1, vNe_rl1, asT_rl1, vAppend_r1, vExtend_r1, onTy_r1, vIn2_rl2, vIn2_rd2, vNotIn2_rl2, vNotIn2_rd2, vSub2_rl2, vSub2_rd2, vLen_rl2, vTuple_rl2, vList_rl2, vSum_rl2, vAny_rl2, vAll_rl2, vSorted2_rl2, vMin_rl2, vMax_rl2, vSorted_rl2, vSorted2_rd2, vEq_rl2, vNe_rl2, asT_rl2, vAppend_r2, vExtend_r2, onTy_r2, vIn2_rl3, vIn2_rd3, vNotIn2_rl3, vNotIn2_rd3, vSub2_rl3, vSub2_rd3, vLen_rl3, vTuple_rl3, vList_rl3, vSum_rl3, vAny_rl3, vAll_rl3, vSorted2_rl3, vMin_rl3, vMax_rl3, vSorted_rl3, vSorted2_rd3, vEq_rl3, vNe_rl3, asT_rl3, vAppend_r3, vExtend_r3, onTy_r3, vIn2_rl4, vIn2_rd4, vNotIn2_rl4, vNotIn2_rd4, vSub2_rl4, vSub2_rd4, vLen_rl4, vTuple_rl4, vList_rl4, vSum_rl4, vAny_rl4, vAll_rl4, vSorted2_rl4, vMin_rl4, vMax_rl4, vSorted_rl4, vSorted2_rd4, vEq_rl4, vNe_rl4, asT_rl4, vAppend_r4, vExtend_r4, onTy_r4, all_tt, all_mapA, any_mapA, cut1, oneD, in_dct, notin_dct, dcS_vals, ev_mdc, dcE_ok, ↓dcp_mapM]
def oddL (ts : List (List Deed)) : List Val := [.non, .tup [], .int 5, .lst (ts.map eR), .tup [.tup []], .tup [.tup [.tup [.str "x", .int 0]]], .tup [.tup [.tup [.str "r", .int 5]]], .tup [.tup [.tup [.str "r", .bl true]]], .tup [.tup [.tup [.str "r", .int 0, .int 0]]], .tup [.lst [.tup [.str "r", .int 0]]], .tup [.tup [.lst [.str "r", .int 0]]]] ++
  [.tup (ts.map eR ++ [.non]), .tup [.tup [.tup [.str "r", .int 0]], .tup [.tup [.str "r", .int 0]], .tup [.tup [.str "r", .int 0]], .tup [.tup [.str "r", .int 0]], .tup [.tup [.str "r", .int 0]]], .tup [.tup [.tup [.str "r", .int 0], .tup [.str "r", .int 0], .tup [.str "r", .int 0], .tup [.str "r", .int 0], .tup [.str "r", .int 0], .tup [.str "r", .int 0]]], .tup [.tup [.str "r", .int 0]]]
theorem odd_all {ts : List (List Deed)} (h : Good ts) : ∀ v ∈ oddL ts, up v = 0 ∧ ∀ μ, callD f_is_texts [v] μ = .ok (.bl false) μ := by
  have cl : ∀ v, up v = 0 → callD f_is_texts [v] [] = .ok (.bl false) [] → up v = 0 ∧ ∀ μ, callD f_is_texts [v] μ = .ok (.bl false) μ := fun v hv e => ⟨hv, callD_of (ups1 hv) e⟩
  have hu : up (.tup (ts.map eR ++ [.non])) = 0 := by
    have e0 : ts.map eR ++ [.non] = (ts.map some ++ [none]).map eO := by rw [List.map_append, List.map_map]; rfl
    rw [e0]; exact ups_map0 eO up_eO _
  unfold oddL
  simp only [List.cons_append, List.nil_append, List.forall_mem_cons, List.not_mem_nil, false_implies, implies_true, and_true]
  refine ⟨cl _ rfl (by kernel_rfl), cl _ rfl (by kernel_rfl), cl _ rfl (by kernel_rfl), ⟨ups_map0 eR up_eR _, bad_list⟩, cl _ rfl (by kernel_rfl), cl _ rfl (by kernel_rfl), cl _ rfl (by kernel_rfl), cl _ rfl (by kernel_rfl), cl _ rfl (by kernel_rfl), cl _ rfl (by kernel_rfl), cl _ rfl (by kernel_rfl), ⟨hu, bad_none h⟩, cl _ rfl (by kernel_rfl), cl _ rfl (by kernel_rfl), cl _ rfl (by kernel_rfl)⟩
/-- a number drawn -/
theorem takeY {o : Ob} {rest : Mu} (m : Nat) (h : IsDr o) (h0 : 0 < m) (h1 : m < 1073741824) : ∃ (r : Nat) (o' : Ob), r < m ∧ IsDr o' ∧ callD f__law_take [.ref 0, .int (m : Int)] (o :: rest) = .ok (.int (r : Int)) (o' :: rest) := takeN m h h0 h1
theorem pickN {L : List Val} {r : Nat} (h1 : r < L.length) (μ : Mu) : ∃ v, v ∈ L ∧ vSub2 (.lst L) (.int (r : Int)) μ = .ok v μ := pick_ok (by omega) (by omega) μ
theorem odd_ok {ts : List (List Deed)} (h : Good ts) {o : Ob} (ho : IsDr o) (rest : Mu) : ∃ v o', v ∈ oddL ts ∧ IsDr o' ∧ callD f__law_odd_texts [.ref 0, eX ts] (o :: rest) = .ok v (o' :: rest) := by
  obtain ⟨r, o', hr, ho', et⟩ := takeY (rest := []) 15 ho (by decide) (by decide)
  obtain ⟨v, hv, ev⟩ := pickN (L := oddL ts) (r := r) (by unfold oddL; simpa using hr) [o']
  refine ⟨v, o', hv, ho', ?_⟩
  have hup : ups [.ref 0, eX ts] = 1 := by show max 1 (max (up (eX ts)) 0) = 1; rw [up_eX]; rfl
  refine call_dr (v := v) (v' := v) (μ' := []) hup ho ho' rfl ?_ (fz_up (odd_all h v hv).1 _ _)
  show b__law_odd_texts [some (.ref 0), some (eX ts), none] [o] = _
  have hb := h.b
  have hadd : (ts.map eR).length + [Val.non].length ≤ LIM := by rw [List.length_map, List.length_singleton]; unfold LIM; omega
  have hm5 : ∀ μ, vMul2 (.tup [.tup [.tup [.str "r", .int 0]]]) (.int 5) μ = .ok (.tup [.tup [.tup [.str "r", .int 0]], .tup [.tup [.str "r", .int 0]], .tup [.tup [.str "r", .int 0]], .tup [.tup [.str "r", .int 0]], .tup [.tup [.str "r", .int 0]]]) μ := fun μ => by kernel_rfl
  have hm6 : ∀ μ, vMul2 (.tup [.tup [.str "r", .int 0]]) (.int 6) μ = .ok (.tup [.tup [.str "r", .int 0], .tup [.str "r", .int 0], .tup [.str "r", .int 0], .tup [.str "r", .int 0], .tup [.str "r", .int 0], .tup [.str "r", .int 0]]) μ := fun μ => by kernel_rfl
  have et' : callD f__law_take [.ref 0, .int 15] [o] = .ok (.int (r : Int)) [o'] := et
  have ev' : vSub2 (.lst ([.non, .tup [], .int 5, .lst (ts.map eR), .tup [.tup []], .tup [.tup [.tup [.str "x", .int 0]]], .tup [.tup [.tup [.str "r", .int 5]]], .tup [.tup [.tup [.str "r", .bl true]]], .tup [.tup [.tup [.str "r", .int 0, .int 0]]], .tup [.lst [.tup [.str "r", .int 0]]], .tup [.tup [.lst [.str "r", .int 0]]],
  .tup (ts.map eR ++ [.non]), .tup [.tup [.tup [.str "r", .int 0]], .tup [.tup [.str "r", .int 0]], .tup [.tup [.str "r", .int 0]], .tup [.tup [.str "r", .int 0]], .tup [.tup [.str "r", .int 0]]], .tup [.tup [.tup [.str "r", .int 0], .tup [.str "r", .int 0], .tup [.str "r", .int 0], .tup [.str "r", .int 0], .tup [.str "r", .int 0], .tup [.str "r", .int 0]]], .tup [.tup [.str "r", .int 0]]])) (.int (r : Int)) [o'] = .ok v [o'] := ev
  unfold b__law_odd_texts
  simp (config := {implicitDefEqProofs := false}) (disch := (first | (with_reducible assumption) | omega | (with_reducible solve_by_elim (maxDepth := 3)) | (with_reducible exact lt_range (by with_reducible assumption)) | (with_reducible exact lt_rangeF (by with_reducible assumption)) | (with_reducible exact lt_range1 (by with_reducible assumption)) | (with_reducible exact lt_range1F (by with_reducible assumption)) | (simp only [List.length_map, List.length_range, List.length_range', List.length_cons, List.length_nil, List.length_append, LIM]; omega) | (simp only [List.length_map]; with_reducible assumption) | (simp only [List.length_map]; with_reducible solve_by_elim (maxDepth := 3)) | (simp only [List.length_map]; refine len_filter ?_; simp only [List.length_map, List.length_range, List.length_range', LIM]; omega))) only [ev_op2, ev_op1, ev_imm, ev_mut, ev_call, ev_anil, ev_acons, ev_cst, ev_seq, ev_skip, ev_asg, ev_ret, ev_drop, ev_if, ev_not, ev_and, ev_or, ev_ife, ev_bool, ev_truth, ev_mvar, lookR_ok, bnd_ok, bnd_exc, flw_ok, flw_exc, seq_nx', seq_rt', seq_exc', asB_bl, asT_bl, List.getElem?_cons_zero, List.getElem?_cons_succ, List.set_cons_zero, List.set_cons_succ, if_true, if_false, Bool.false_eq_true, bindK_some, cmpS_vals, catS_vals, ev_mlc, ev_mlc2, bndS_ok, ev_mraw, ↓cmp_mapM, ↓cat2_mapM, cmpM_no, catM_no, dcpM_no, cmp_pure, cmp_if, cat2_pure, cat2_if, bindT_nm, bindT_tup, bindT_lst, bindTs_nil, bindO_some, bindTs_cons, wipe_nil, wipe_cons, ev_iseq, asSrc_lst, asSrc_rol, asSrc_tup, oneC, oneI, List.map_cons, List.map_nil, ev_mand, ev_mor, ev_mnot, ev_tife, ev_tyes, ev_chain, ev_op2F, ev_op1F, ev_meth, ev_tupT, ev_lstL, ev_for, ev_setI, ev_raise, ev_brk, ev_cnt, ev_retN, ev_try, ev_asgT, ev_aug, ev_irng1, ev_irng2, ev_ienum, ev_izip, ev_slice, ev_onone, ev_osome, mkT_ok, mkL_ok, and_bl, or_bl, and_blF, and_t, or_t, chB_bl, putF_some, tryK_rt, tryK_nx, noX_rt, noX_nx, bindF_some, augK_ok, rg1_nat, rg2_zero, rg2_one, en1_tup, en1_lst, enums_map, zips_map, zp1_tup, zp1_lst, asI_int, slice_tup, slice_lst, slice_lst', ix_tupM, ix_lstM, len_tup, len_lst, tup_lst, tup_tup, list_lst, list_tup, shortOk, add_tup, add_lst, add_int, sub_int, neg_int, int_int, int_bl, eq_int, ne_int, lt_int, le_int, gt_int, ge_intE, eq_bl, ne_bl, isN_ok, notN_ok, List.length_map, List.map_map, List.length_cons, List.length_nil, isi_tup_tuple, isi_tup_list, isi_tup_int, isi_tup_str, isi_tup_bool, isi_tup_dict, isi_lst_tuple, isi_lst_list, isi_lst_int, isi_lst_str, isi_lst_bool, isi_lst_dict, isi_int_tuple, isi_int_list, isi_int_int, isi_int_str, isi_int_bool, isi_int_dict, isi_str_tuple, isi_str_list, isi_str_int, isi_str_str, isi_str_bool, isi_str_dict, isi_bl_tuple, isi_bl_list, isi_bl_int, isi_bl_str, isi_bl_bool, isi_bl_dict, isi_non_tuple, isi_non_list, isi_non_int, isi_non_str, isi_non_bool, isi_non_dict, isn_tup, isn_lst, isn_int, isn_str, isn_bl, isn_non, ixt0, ixt1, ixt2, ixt3, ixt4, ixt5, ixl0, ixl1, ixl2, ixl3, ixl4, ixl5, in_tupN, in_lstN, notin_tupN, notin_lstN, forS_vals, Bool.not_true, Bool.not_false, Bool.false_or, Bool.true_or, Bool.or_false, Bool.or_true, Bool.and_true, Bool.true_and, Bool.and_false, Bool.false_and, List.nil_append, List.cons_append, vIn2_rl0, vIn2_rd0, vNotIn2_rl0, vNotIn2_rd0, vSub2_rl0, vSub2_rd0, vLen_rl0, vTuple_rl0, vList_rl0, vSum_rl0, vAny_rl0, vAll_rl0, vSorted2_rl0, vMin_rl0, vMax_rl0, vSorted_rl0, vSorted2_rd0, vEq_rl0, vNe_rl0, asT_rl0, vAppend_r0, vExtend_r0, onTy_r0, vIn2_rl1, vIn2_rd1, vNotIn2_rl1, vNotIn2_rd1, vSub2_rl1, vSub2_rd1, vLen_rl1, vTuple_rl1, vList_rl1, vSum_rl1, vAny_rl1, vAll_rl1, vSorted2_rl1, vMin_rl1, vMax_rl1, vSorted_rl1, vSorted2_rd1, vEq_rl1, vNe_rl1, asT_rl1, vAppend_r1, vExtend_r1, onTy_r1, vIn2_rl2, vIn2_rd2, vNotIn2_rl2, vNotIn2_rd2, vSub2_rl2, vSub2_rd2, vLen_rl2, vTuple_rl2, vList_rl2, vSum_rl2, vAny_rl2, vAll_rl2, vSorted2_rl2, vMin_rl2, vMax_rl2, vSorted_rl2, vSorted2_rd2, vEq_rl2, vNe_rl2, asT_rl2, vAppend_r2, vExtend_r2, onTy_r2, vIn2_rl3, vIn2_rd3, vNotIn2_rl3, vNotIn2_rd3, vSub2_rl3, vSub2_rd3, vLen_rl3, vTuple_rl3, vList_rl3, vSum_rl3, vAny_rl3, vAll_rl3, vSorted2_rl3, vMin_rl3, vMax_rl3, vSorted_rl3, vSorted2_rd3, vEq_rl3, vNe_rl3, asT_rl3, vAppend_r3, vExtend_r3, onTy_r3, vIn2_rl4, vIn2_rd4, vNotIn2_rl4, vNotIn2_rd4, vSub2_rl4, vSub2_rd4, vLen_rl4, vTuple_rl4, vList_rl4, vSum_rl4, vAny_rl4, vAll_rl4, vSorted2_rl4, vMin_rl4, vMax_rl4, vSorted_rl4, vSorted2_rd4, vEq_rl4, vNe_rl4, asT_rl4, vAppend_r4, vExtend_r4, onTy_r4, all_tt, all_mapA, any_mapA, cut1, oneD, in_dct, notin_dct, dcS_vals, ev_mdc, dcE_ok, ↓dcp_mapM, et', hm5, hm6, ev']
end Y

namespace Y
open G PySem
/-! ### the texts drawn -/
theorem pick_rw {r : Nat} (h : r < 2) (μ : Mu) : vSub2 (.lst [.str "r", .str "w"]) (.int (r : Int)) μ = .ok (.str (if (r == 1) then "w" else "r")) μ := by
  have : r = 0 ∨ r = 1 := by omega
  rcases this with rfl | rfl <;> rfl
theorem row_draw (top : Nat) (h0 : 0 < top) (h1 : top ≤ 5) {o : Ob} (ho : IsDr o) (acc : List (List Deed)) (a b : Option Val) : ∃ (t : List Deed) (o' : Ob), GoodR t ∧ t.length ≤ 3 ∧ IsDr o' ∧
    mlc (irng1 (acons (mop2 vAdd2 (mcst (.int 1)) (mcall (callD f__law_take) (acons (mvar 0) (acons (mcst (.int 3)) (anil))))) (anil))) ([5] : List Nat) (.nm 5) (tyes) (mtup (acons (mop2 vSub2 (mimm (mlst (acons (mcst (.str "r")) (acons (mcst (.str "w")) (anil))))) (mcall (callD f__law_take) (acons (mvar 0) (acons (mcst (.int 2)) (anil))))) (acons (mcall (callD f__law_take) (acons (mvar 0) (acons (mvar 2) (anil)))) (anil)))) [some (.ref 0), a, some (.int (top : Int)), some (.ref 1), b, none] [o, .lst (acc.map eR)] = .ok (t.map eD) [o', .lst (acc.map eR)] := by
  obtain ⟨n, o1, hn, ho1, e1⟩ := takeY (rest := [.lst (acc.map eR)]) 3 ho (by decide) (by decide)
  have e1' : callD f__law_take [.ref 0, .int 3] [o, .lst (acc.map eR)] = .ok (.int (n : Int)) [o1, .lst (acc.map eR)] := e1
  have e2 : (1 : Int) + (n : Int) = ((1 + n : Nat) : Int) := by omega
  obtain ⟨t, o2, ho2, ht, hp, e3⟩ := cmp_draw (g := fun (x : Nat) μ => oneC (.nm 5) [some (.ref 0), a, some (.int (top : Int)), some (.ref 1), b, none] (tyes) (mtup (acons (mop2 vSub2 (mimm (mlst (acons (mcst (.str "r")) (acons (mcst (.str "w")) (anil))))) (mcall (callD f__law_take) (acons (mvar 0) (acons (mcst (.int 2)) (anil))))) (acons (mcall (callD f__law_take) (acons (mvar 0) (acons (mvar 2) (anil)))) (anil)))) (eN x) μ) eD (fun d => d.x < 5) [.lst (acc.map eR)] (List.range (1 + n)) o1 ho1 (fun x _ o ho => by
    obtain ⟨r1, o1, hr1, ho1, e1⟩ := takeY (rest := [.lst (acc.map eR)]) 2 ho (by decide) (by decide)
    have e1' : callD f__law_take [.ref 0, .int 2] [o, .lst (acc.map eR)] = .ok (.int (r1 : Int)) [o1, .lst (acc.map eR)] := e1
    obtain ⟨r2, o2, hr2, ho2, e2⟩ := takeY (rest := [.lst (acc.map eR)]) top ho1 h0 (by omega)
    refine ⟨⟨r1 == 1, r2⟩, o2, ho2, by show r2 < 5; omega, ?_⟩
    simp (config := {implicitDefEqProofs := false}) (disch := (first | (with_reducible assumption) | omega | (with_reducible solve_by_elim (maxDepth := 3)) | (with_reducible exact lt_range (by with_reducible assumption)) | (with_reducible exact lt_rangeF (by with_reducible assumption)) | (with_reducible exact lt_range1 (by with_reducible assumption)) | (with_reducible exact lt_range1F (by with_reducible assumption)) | (simp only [List.length_map, List.length_range, List.length_range', List.length_cons, List.length_nil, List.length_append, LIM]; omega) | (simp only [List.length_map]; with_reducible assumption) | (simp only [List.length_map]; with_reducible solve_by_elim (maxDepth := 3)) | (simp only [List.length_map]; refine len_filter ?_; simp only [List.length_map, List.length_range, List.length_range', LIM]; omega))) only [ev_op2, ev_op1, ev_imm, ev_mut, ev_call, ev_anil, ev_acons, ev_cst, ev_seq, ev_skip, ev_asg, ev_ret, ev_drop, ev_if, ev_not, ev_and, ev_or, ev_ife, ev_bool, ev_truth, ev_mvar, lookR_ok, bnd_ok, bnd_exc, flw_ok, flw_exc, seq_nx', seq_rt', seq_exc', asB_bl, asT_bl, List.getElem?_cons_zero, List.getElem?_cons_succ, List.set_cons_zero, List.set_cons_succ, if_true, if_false, Bool.false_eq_true, bindK_some, cmpS_vals, catS_vals, ev_mlc, ev_mlc2, bndS_ok, ev_mraw, ↓cmp_mapM, ↓cat2_mapM, cmpM_no, catM_no, dcpM_no, cmp_pure, cmp_if, cat2_pure, cat2_if, bindT_nm, bindT_tup, bindT_lst, bindTs_nil, bindO_some, bindTs_cons, wipe_nil, wipe_cons, ev_iseq, asSrc_lst, asSrc_rol, asSrc_tup, oneC, oneI, List.map_cons, List.map_nil, ev_mand, ev_mor, ev_mnot, ev_tife, ev_tyes, ev_chain, ev_op2F, ev_op1F, ev_meth, ev_tupT, ev_lstL, ev_for, ev_setI, ev_raise, ev_brk, ev_cnt, ev_retN, ev_try, ev_asgT, ev_aug, ev_irng1, ev_irng2, ev_ienum, ev_izip, ev_slice, ev_onone, ev_osome, mkT_ok, mkL_ok, and_bl, or_bl, and_blF, and_t, or_t, chB_bl, putF_some, tryK_rt, tryK_nx, noX_rt, noX_nx, bindF_some, augK_ok, rg1_nat, rg2_zero, rg2_one, en1_tup, en1_lst, enums_map, zips_map, zp1_tup, zp1_lst, asI_int, slice_tup, slice_lst, slice_lst', ix_tupM, ix_lstM, len_tup, len_lst, tup_lst, tup_tup, list_lst, list_tup, shortOk, add_tup, add_lst, add_int, sub_int, neg_int, int_int, int_bl, eq_int, ne_int, lt_int, le_int, gt_int, ge_intE, eq_bl, ne_bl, isN_ok, notN_ok, List.length_map, List.map_map, List.length_cons, List.length_nil, isi_tup_tuple, isi_tup_list, isi_tup_int, isi_tup_str, isi_tup_bool, isi_tup_dict, isi_lst_tuple, isi_lst_list, isi_lst_int, isi_lst_str, isi_lst_bool, isi_lst_dict, isi_int_tuple, isi_int_list, isi_int_int, isi_int_str, isi_int_bool, isi_int_dict, isi_str_tuple, isi_str_list, isi_str_int, isi_str_str, isi_str_bool, isi_str_dict, isi_bl_tuple, isi_bl_list, isi_bl_int, isi_bl_str, isi_bl_bool, isi_bl_dict, isi_non_tuple, isi_non_list, isi_non_int, isi_non_str, isi_non_bool, isi_non_dict, isn_tup, isn_lst, isn_int, isn_str, isn_bl, isn_non, ixt0, ixt1, ixt2, ixt3, ixt4, ixt5, ixl0, ixl1, ixl2, ixl3, ixl4, ixl5, in_tupN, in_lstN, notin_tupN, notin_lstN, forS_vals, Bool.not_true, Bool.not_false, Bool.false_or, Bool.true_or, Bool.or_false, Bool.or_true, Bool.and_true, Bool.true_and, Bool.and_false, Bool.false_and, List.nil_append, List.cons_append, vIn2_rl0, vIn2_rd0, vNotIn2_rl0, vNotIn2_rd0, vSub2_rl0, vSub2_rd0, vLen_rl0, vTuple_rl0, vList_rl0, vSum_rl0, vAny_rl0, vAll_rl0, vSorted2_rl0, vMin_rl0, vMax_rl0, vSorted_rl0, vSorted2_rd0, vEq_rl0, vNe_rl0, asT_rl0, vAppend_r0, vExtend_r0, onTy_r0, vIn2_rl1, vIn2_rd1, vNotIn2_rl1, vNotIn2_rd1, vSub2_rl1, vSub2_rd1, vLen_rl1, vTuple_rl1, vList_rl1, vSum_rl1, vAny_rl1, vAll_rl1, vSorted2_rl1, vMin_rl1, vMax_rl1, vSorted_rl1, vSorted2_rd1, vEq_rl1, vNe_rl1, asT_rl1, vAppend_r1, vExtend_r1, onTy_r1, vIn2_rl2, vIn2_rd2, vNotIn2_rl2, vNotIn2_rd2, vSub2_rl2, vSub2_rd2, vLen_rl2, vTuple_rl2, vList_rl2, vSum_rl2, vAny_rl2, vAll_rl2, vSorted2_rl2, vMin_rl2, vMax_rl2, vSorted_rl2, vSorted2_rd2, vEq_rl2, vNe_rl2, asT_rl2, vAppend_r2, vExtend_r2, onTy_r2, vIn2_rl3, vIn2_rd3, vNotIn2_rl3, vNotIn2_rd3, vSub2_rl3, vSub2_rd3, vLen_rl3, vTuple_rl3, vList_rl3, vSum_rl3, vAny_rl3, vAll_rl3, vSorted2_rl3, vMin_rl3, vMax_rl3, vSorted_rl3, vSorted2_rd3, vEq_rl3, vNe_rl3, asT_rl3, vAppend_r3, vExtend_r3, onTy_r3, vIn2_rl4, vIn2_rd4, vNotIn2_rl4, vNotIn2_rd4, vSub2_rl4, vSub2_rd4, vLen_rl4, vTuple_rl4, vList_rl4, vSum_rl4, vAny_rl4, vAll_rl4, vSorted2_rl4, vMin_rl4, vMax_rl4, vSorted_rl4, vSorted2_rd4, vEq_rl4, vNe_rl4, asT_rl4, vAppend_r4, vExtend_r4, onTy_r4, all_tt, all_mapA, any_mapA, cut1, oneD, in_dct, notin_dct, dcS_vals, ev_mdc, dcE_ok, ↓dcp_mapM, e1', e2, pick_rw hr1]
    rfl)
  refine ⟨t, o2, ⟨by rw [ht, List.length_range]; omega, by rw [ht, List.length_range]; omega, hp⟩, by rw [ht, List.length_range]; omega, ho2, ?_⟩
  have hl : (t.map eD).length ≤ LIM := by rw [List.length_map, ht, List.length_range]; unfold LIM; omega
  rw [ev_mlc]
  have e4 : irng1 (acons (mop2 vAdd2 (mcst (.int 1)) (mcall (callD f__law_take) (acons (mvar 0) (acons (mcst (.int 3)) (anil))))) (anil)) [some (.ref 0), a, some (.int (top : Int)), some (.ref 1), b, none] [o, .lst (acc.map eR)] = .ok (.vals ((List.range (1 + n)).map eN)) [o1, .lst (acc.map eR)] := by
    simp (config := {implicitDefEqProofs := false}) (disch := (first | (with_reducible assumption) | omega | (with_reducible solve_by_elim (maxDepth := 3)) | (with_reducible exact lt_range (by with_reducible assumption)) | (with_reducible exact lt_rangeF (by with_reducible assumption)) | (with_reducible exact lt_range1 (by with_reducible assumption)) | (with_reducible exact lt_range1F (by with_reducible assumption)) | (simp only [List.length_map, List.length_range, List.length_range', List.length_cons, List.length_nil, List.length_append, LIM]; omega) | (simp only [List.length_map]; with_reducible assumption) | (simp only [List.length_map]; with_reducible solve_by_elim (maxDepth := 3)) | (simp only [List.length_map]; refine len_filter ?_; simp only [List.length_map, List.length_range, List.length_range', LIM]; omega))) only [ev_op2, ev_op1, ev_imm, ev_mut, ev_call, ev_anil, ev_acons, ev_cst, ev_seq, ev_skip, ev_asg, ev_ret, ev_drop, ev_if, ev_not, ev_and, ev_or, ev_ife, ev_bool, ev_truth, ev_mvar, lookR_ok, bnd_ok, bnd_exc, flw_ok, flw_exc, seq_nx', seq_rt', seq_exc', asB_bl, asT_bl, List.getElem?_cons_zero, List.getElem?_cons_succ, List.set_cons_zero, List.set_cons_succ, if_true, if_false, Bool.false_eq_true, bindK_some, cmpS_vals, catS_vals, ev_mlc, ev_mlc2, bndS_ok, ev_mraw, ↓cmp_mapM, ↓cat2_mapM, cmpM_no, catM_no, dcpM_no, cmp_pure, cmp_if, cat2_pure, cat2_if, bindT_nm, bindT_tup, bindT_lst, bindTs_nil, bindO_some, bindTs_cons, wipe_nil, wipe_cons, ev_iseq, asSrc_lst, asSrc_rol, asSrc_tup, oneC, oneI, List.map_cons, List.map_nil, ev_mand, ev_mor, ev_mnot, ev_tife, ev_tyes, ev_chain, ev_op2F, ev_op1F, ev_meth, ev_tupT, ev_lstL, ev_for, ev_setI, ev_raise, ev_brk, ev_cnt, ev_retN, ev_try, ev_asgT, ev_aug, ev_irng1, ev_irng2, ev_ienum, ev_izip, ev_slice, ev_onone, ev_osome, mkT_ok, mkL_ok, and_bl, or_bl, and_blF, and_t, or_t, chB_bl, putF_some, tryK_rt, tryK_nx, noX_rt, noX_nx, bindF_some, augK_ok, rg1_nat, rg2_zero, rg2_one, en1_tup, en1_lst, enums_map, zips_map, zp1_tup, zp1_lst, asI_int, slice_tup, slice_lst, slice_lst', ix_tupM, ix_lstM, len_tup, len_lst, tup_lst, tup_tup, list_lst, list_tup, shortOk, add_tup, add_lst, add_int, sub_int, neg_int, int_int, int_bl, eq_int, ne_int, lt_int, le_int, gt_int, ge_intE, eq_bl, ne_bl, isN_ok, notN_ok, List.length_map, List.map_map, List.length_cons, List.length_nil, isi_tup_tuple, isi_tup_list, isi_tup_int, isi_tup_str, isi_tup_bool, isi_tup_dict, isi_lst_tuple, isi_lst_list, isi_lst_int, isi_lst_str, isi_lst_bool, isi_lst_dict, isi_int_tuple, isi_int_list, isi_int_int, isi_int_str, isi_int_bool, isi_int_dict, isi_str_tuple, isi_str_list, isi_str_int, isi_str_str, isi_str_bool, isi_str_dict, isi_bl_tuple, isi_bl_list, isi_bl_int, isi_bl_str, isi_bl_bool, isi_bl_dict, isi_non_tuple, isi_non_list, isi_non_int, isi_non_str, isi_non_bool, isi_non_dict, isn_tup, isn_lst, isn_int, isn_str, isn_bl, isn_non, ixt0, ixt1, ixt2, ixt3, ixt4, ixt5, ixl0, ixl1, ixl2, ixl3, ixl4, ixl5, in_tupN, in_lstN, notin_tupN, notin_lstN, forS_vals, Bool.not_true, Bool.not_false, Bool.false_or, Bool.true_or, Bool.or_false, Bool.or_true, Bool.and_true, Bool.true_and, Bool.and_false, Bool.false_and, List.nil_append, List.cons_append, vIn2_rl0, vIn2_rd0, vNotIn2_rl0, vNotIn2_rd0, vSub2_rl0, vSub2_rd0, vLen_rl0, vTuple_rl0, vList_rl0, vSum_rl0, vAny_rl0, vAll_rl0, vSorted2_rl0, vMin_rl0, vMax_rl0, vSorted_rl0, vSorted2_rd0, vEq_rl0, vNe_rl0, asT_rl0, vAppend_r0, vExtend_r0, onTy_r0, vIn2_rl1, vIn2_rd1, vNotIn2_rl1, vNotIn2_rd1, vSub2_rl1, vSub2_rd1, vLen_rl1, vTuple_rl1, vList_rl1, vSum_rl1, vAny_rl1, vAll_rl1, vSorted2_rl1, vMin_rl1, vMax_rl1, vSorted_rl1, vSorted2_rd1, vEq_rl1, vNe_rl1, asT_rl1, vAppend_r1, vExtend_r1, onTy_r1, vIn2_rl2, vIn2_rd2, vNotIn2_rl2, vNotIn2_rd2, vSub2_rl2, vSub2_rd2, vLen_rl2, vTuple_rl2, vList_rl2, vSum_rl2, vAny_rl2, vAll_rl2, vSorted2_rl2, vMin_rl2, vMax_rl2, vSorted_rl2, vSorted2_rd2, vEq_rl2, vNe_rl2, asT_rl2, vAppend_r2, vExtend_r2, onTy_r2, vIn2_rl3, vIn2_rd3, vNotIn2_rl3, vNotIn2_rd3, vSub2_rl3, vSub2_rd3, vLen_rl3, vTuple_rl3, vList_rl3, vSum_rl3, vAny_rl3, vAll_rl3, vSorted2_rl3, vMin_rl3, vMax_rl3, vSorted_rl3, vSorted2_rd3, vEq_rl3, vNe_rl3, asT_rl3, vAppend_r3, vExtend_r3, onTy_r3, vIn2_rl4, vIn2_rd4, vNotIn2_rl4, vNotIn2_rd4, vSub2_rl4, vSub2_rd4, vLen_rl4, vTuple_rl4, vList_rl4, vSum_rl4, vAny_rl4, vAll_rl4, vSorted2_rl4, vMin_rl4, vMax_rl4, vSorted_rl4, vSorted2_rd4, vEq_rl4, vNe_rl4, asT_rl4, vAppend_r4, vExtend_r4, onTy_r4, all_tt, all_mapA, any_mapA, cut1, oneD, in_dct, notin_dct, dcS_vals, ev_mdc, dcE_ok, ↓dcp_mapM, e1', e2]
  rw [e4, bnd_ok, cmpS_vals, cmp_map]
  have e5 : wipeS [some (.ref 0), a, some (.int (top : Int)), some (.ref 1), b, none] [5] = [some (.ref 0), a, some (.int (top : Int)), some (.ref 1), b, none] := rfl
  rw [e5, e3, shortOk _ _ hl]
theorem texts_turn (top : Nat) (h0 : 0 < top) (h1 : top ≤ 5) {o : Ob} (ho : IsDr o) (acc : List (List Deed)) (hl : acc.length ≤ 4) (a b : Option Val) : ∃ (t : List Deed) (o' : Ob), GoodR t ∧ IsDr o' ∧
    l1__law_texts [some (.ref 0), a, some (.int (top : Int)), some (.ref 1), b, none] [o, .lst (acc.map eR)] = .nx [some (.ref 0), a, some (.int (top : Int)), some (.ref 1), b, none] [o', .lst ((acc ++ [t]).map eR)] := by
  obtain ⟨t, o', ht, ht3, ho', e⟩ := row_draw top h0 h1 ho acc a b
  refine ⟨t, o', ht, ho', ?_⟩
  unfold l1__law_texts
  simp (config := {implicitDefEqProofs := false}) (disch := (first | (with_reducible assumption) | omega | (with_reducible solve_by_elim (maxDepth := 3)) | (with_reducible exact lt_range (by with_reducible assumption)) | (with_reducible exact lt_rangeF (by with_reducible assumption)) | (with_reducible exact lt_range1 (by with_reducible assumption)) | (with_reducible exact lt_range1F (by with_reducible assumption)) | (simp only [List.length_map, List.length_range, List.length_range', List.length_cons, List.length_nil, List.length_append, LIM]; omega) | (simp only [List.length_map]; with_reducible assumption) | (simp only [List.length_map]; with_reducible solve_by_elim (maxDepth := 3)) | (simp only [List.length_map]; refine len_filter ?_; simp only [List.length_map, List.length_range, List.length_range', LIM]; omega))) only [ev_op2, ev_op1, ev_imm, ev_mut, ev_call, ev_anil, ev_acons, ev_cst, ev_seq, ev_skip, ev_asg, ev_ret, ev_drop, ev_if, ev_not, ev_and, ev_or, ev_ife, ev_bool, ev_truth, ev_mvar, lookR_ok, bnd_ok, bnd_exc, flw_ok, flw_exc, seq_nx', seq_rt', seq_exc', asB_bl, asT_bl, List.getElem?_cons_zero, List.getElem?_cons_succ, List.set_cons_zero, List.set_cons_succ, if_true, if_false, Bool.false_eq_true, bindK_some, cmpS_vals, catS_vals, bndS_ok, ev_mraw, ↓cmp_mapM, ↓cat2_mapM, cmpM_no, catM_no, dcpM_no, cmp_pure, cmp_if, cat2_pure, cat2_if, bindT_nm, bindT_tup, bindT_lst, bindTs_nil, bindO_some, bindTs_cons, wipe_nil, wipe_cons, ev_iseq, asSrc_lst, asSrc_rol, asSrc_tup, oneC, oneI, List.map_cons, List.map_nil, ev_mand, ev_mor, ev_mnot, ev_tife, ev_tyes, ev_chain, ev_op2F, ev_op1F, ev_meth, ev_tupT, ev_lstL, ev_for, ev_setI, ev_raise, ev_brk, ev_cnt, ev_retN, ev_try, ev_asgT, ev_aug, ev_irng1, ev_irng2, ev_ienum, ev_izip, ev_slice, ev_onone, ev_osome, mkT_ok, mkL_ok, and_bl, or_bl, and_blF, and_t, or_t, chB_bl, putF_some, tryK_rt, tryK_nx, noX_rt, noX_nx, bindF_some, augK_ok, rg1_nat, rg2_zero, rg2_one, en1_tup, en1_lst, enums_map, zips_map, zp1_tup, zp1_lst, asI_int, slice_tup, slice_lst, slice_lst', ix_tupM, ix_lstM, len_tup, len_lst, tup_lst, tup_tup, list_lst, list_tup, shortOk, add_tup, add_lst, add_int, sub_int, neg_int, int_int, int_bl, eq_int, ne_int, lt_int, le_int, gt_int, ge_intE, eq_bl, ne_bl, isN_ok, notN_ok, List.length_map, List.map_map, List.length_cons, List.length_nil, isi_tup_tuple, isi_tup_list, isi_tup_int, isi_tup_str, isi_tup_bool, isi_tup_dict, isi_lst_tuple, isi_lst_list, isi_lst_int, isi_lst_str, isi_lst_bool, isi_lst_dict, isi_int_tuple, isi_int_list, isi_int_int, isi_int_str, isi_int_bool, isi_int_dict, isi_str_tuple, isi_str_list, isi_str_int, isi_str_str, isi_str_bool, isi_str_dict, isi_bl_tuple, isi_bl_list, isi_bl_int, isi_bl_str, isi_bl_bool, isi_bl_dict, isi_non_tuple, isi_non_list, isi_non_int, isi_non_str, isi_non_bool, isi_non_dict, isn_tup, isn_lst, isn_int, isn_str, isn_bl, isn_non, ixt0, ixt1, ixt2, ixt3, ixt4, ixt5, ixl0, ixl1, ixl2, ixl3, ixl4, ixl5, in_tupN, in_lstN, notin_tupN, notin_lstN, forS_vals, Bool.not_true, Bool.not_false, Bool.false_or, Bool.true_or, Bool.or_false, Bool.or_true, Bool.and_true, Bool.true_and, Bool.and_false, Bool.false_and, List.nil_append, List.cons_append, vIn2_rl0, vIn2_rd0, vNotIn2_rl0, vNotIn2_rd0, vSub2_rl0, vSub2_rd0, vLen_rl0, vTuple_rl0, vList_rl0, vSum_rl0, vAny_rl0, vAll_rl0, vSorted2_rl0, vMin_rl0, vMax_rl0, vSorted_rl0, vSorted2_rd0, vEq_rl0, vNe_rl0, asT_rl0, vAppend_r0, vExtend_r0, onTy_r0, vIn2_rl1, vIn2_rd1, vNotIn2_rl1, vNotIn2_rd1, vSub2_rl1, vSub2_rd1, vLen_rl1, vTuple_rl1, vList_rl1, vSum_rl1, vAny_rl1, vAll_rl1, vSorted2_rl1, vMin_rl1, vMax_rl1, vSorted_rl1, vSorted2_rd1, vEq_rl1, vNe_rl1, asT_rl1, vAppend_r1, vExtend_r1, onTy_r1, vIn2_rl2, vIn2_rd2, vNotIn2_rl2, vNotIn2_rd2, vSub2_rl2, vSub2_rd2, vLen_rl2, vTuple_rl2, vList_rl2, vSum_rl2, vAny_rl2, vAll_rl2, vSorted2_rl2, vMin_rl2, vMax_rl2, vSorted_rl2, vSorted2_rd2, vEq_rl2, vNe_rl2, asT_rl2, vAppend_r2, vExtend_r2, onTy_r2, vIn2_rl3, vIn2_rd3, vNotIn2_rl3, vNotIn2_rd3, vSub2_rl3, vSub2_rd3, vLen_rl3, vTuple_rl3, vList_rl3, vSum_rl3, vAny_rl3, vAll_rl3, vSorted2_rl3, vMin_rl3, vMax_rl3, vSorted_rl3, vSorted2_rd3, vEq_rl3, vNe_rl3, asT_rl3, vAppend_r3, vExtend_r3, onTy_r3, vIn2_rl4, vIn2_rd4, vNotIn2_rl4, vNotIn2_rd4, vSub2_rl4, vSub2_rd4, vLen_rl4, vTuple_rl4, vList_rl4, vSum_rl4, vAny_rl4, vAll_rl4, vSorted2_rl4, vMin_rl4, vMax_rl4, vSorted_rl4, vSorted2_rd4, vEq_rl4, vNe_rl4, asT_rl4, vAppend_r4, vExtend_r4, onTy_r4, all_tt, all_mapA, any_mapA, cut1, oneD, in_dct, notin_dct, dcS_vals, dcE_ok, ↓dcp_mapM, e]
  simp only [List.map_append]; rfl
theorem texts_loop (top : Nat) (h0 : 0 < top) (h1 : top ≤ 5) (a : Option Val) : ∀ (xs : List Nat) (acc : List (List Deed)) (o : Ob) (b : Option Val), IsDr o → acc.length + xs.length ≤ 4 → (∀ t ∈ acc, GoodR t) →
    ∃ (ts : List (List Deed)) (o' : Ob) (b' : Option Val), IsDr o' ∧ ts.length = acc.length + xs.length ∧ (∀ t ∈ ts, GoodR t) ∧ forL (.nm 4) l1__law_texts (xs.map eN) [some (.ref 0), a, some (.int (top : Int)), some (.ref 1), b, none] [o, .lst (acc.map eR)] = .nx [some (.ref 0), a, some (.int (top : Int)), some (.ref 1), b', none] [o', .lst (ts.map eR)] := by
  intro xs
  induction xs with
  | nil => exact fun acc o b ho _ ha => ⟨acc, o, b, ho, rfl, ha, rfl⟩
  | cons x xs ih =>
    intro acc o b ho hl ha
    rw [List.length_cons] at hl
    obtain ⟨t, o1, ht, ho1, e⟩ := texts_turn top h0 h1 ho acc (by omega) a (some (eN x))
    obtain ⟨ts, o2, b', ho2, hts, hg, e2⟩ := ih (acc ++ [t]) o1 (some (eN x)) ho1 (by rw [List.length_append, List.length_singleton]; omega) (fun y hy => by
      rcases List.mem_append.mp hy with hy | hy
      · exact ha y hy
      · rw [List.mem_singleton] at hy; exact hy ▸ ht)
    refine ⟨ts, o2, b', ho2, by rw [hts, List.length_append, List.length_singleton, List.length_cons]; omega, hg, ?_⟩
    refine (forL_nx ?_).trans e2
    exact e
theorem lawtexts_ok {o : Ob} (ho : IsDr o) (rest : Mu) : ∃ (ts : List (List Deed)) (o' : Ob), Good ts ∧ IsDr o' ∧ callD f__law_texts [.ref 0, .int 4] (o :: rest) = .ok (eX ts) (o' :: rest) := by
  obtain ⟨r, o1, hr, ho1, e1⟩ := takeY (rest := []) 4 ho (by decide) (by decide)
  have e1' : callD f__law_take [.ref 0, .int 4] [o] = .ok (.int (r : Int)) [o1] := e1
  obtain ⟨n, o2, hn, ho2, e2⟩ := takeY (rest := [.lst []]) 4 ho1 (by decide) (by decide)
  have e2' : callD f__law_take [.ref 0, .int 4] [o1, .lst []] = .ok (.int (n : Int)) [o2, .lst []] := e2
  obtain ⟨ts, o3, b, ho3, hl, hg, e3⟩ := texts_loop (2 + r) (by omega) (by omega) (some (.int 4)) (List.range (1 + n)) [] o2 none ho2 (by rw [List.length_range, List.length_nil]; omega) (fun t ht => by cases ht)
  rw [List.length_range, List.length_nil] at hl
  refine ⟨ts, o3, ⟨by omega, by omega, hg⟩, ho3, ?_⟩
  refine call_dr (v := eX ts) (v' := eX ts) (μ' := [.lst (ts.map eR)]) rfl ho ho3 rfl ?_ (fz_up (up_eX ts) _ _)
  show b__law_texts [some (.ref 0), some (.int 4), none, none, none, none] [o] = _
  have c1 : (2 : Int) + (r : Int) = ((2 + r : Nat) : Int) := by omega
  have c2 : (1 : Int) + (n : Int) = ((1 + n : Nat) : Int) := by omega
  have e3' : forL (.nm 4) l1__law_texts ((List.range (1 + n)).map eN) [some (.ref 0), some (.int 4), some (.int ((2 + r : Nat) : Int)), some (.ref 1), none, none] [o2, .lst []] = .nx [some (.ref 0), some (.int 4), some (.int ((2 + r : Nat) : Int)), some (.ref 1), b, none] [o3, .lst (ts.map eR)] := e3
  unfold b__law_texts
  simp (config := {implicitDefEqProofs := false}) (disch := (first | (with_reducible assumption) | omega | (with_reducible solve_by_elim (maxDepth := 3)) | (with_reducible exact lt_range (by with_reducible assumption)) | (with_reducible exact lt_rangeF (by with_reducible assumption)) | (with_reducible exact lt_range1 (by with_reducible assumption)) | (with_reducible exact lt_range1F (by with_reducible assumption)) | (simp only [List.length_map, List.length_range, List.length_range', List.length_cons, List.length_nil, List.length_append, LIM]; omega) | (simp only [List.length_map]; with_reducible assumption) | (simp only [List.length_map]; with_reducible solve_by_elim (maxDepth := 3)) | (simp only [List.length_map]; refine len_filter ?_; simp only [List.length_map, List.length_range, List.length_range', LIM]; omega))) only [ev_op2, ev_op1, ev_imm, ev_mut, ev_call, ev_anil, ev_acons, ev_cst, ev_seq, ev_skip, ev_asg, ev_ret, ev_drop, ev_if, ev_not, ev_and, ev_or, ev_ife, ev_bool, ev_truth, ev_mvar, lookR_ok, bnd_ok, bnd_exc, flw_ok, flw_exc, seq_nx', seq_rt', seq_exc', asB_bl, asT_bl, List.getElem?_cons_zero, List.getElem?_cons_succ, List.set_cons_zero, List.set_cons_succ, if_true, if_false, Bool.false_eq_true, bindK_some, cmpS_vals, catS_vals, ev_mlc, ev_mlc2, bndS_ok, ev_mraw, ↓cmp_mapM, ↓cat2_mapM, cmpM_no, catM_no, dcpM_no, cmp_pure, cmp_if, cat2_pure, cat2_if, bindT_nm, bindT_tup, bindT_lst, bindTs_nil, bindO_some, bindTs_cons, wipe_nil, wipe_cons, ev_iseq, asSrc_lst, asSrc_rol, asSrc_tup, oneC, oneI, List.map_cons, List.map_nil, ev_mand, ev_mor, ev_mnot, ev_tife, ev_tyes, ev_chain, ev_op2F, ev_op1F, ev_meth, ev_tupT, ev_lstL, ev_for, ev_setI, ev_raise, ev_brk, ev_cnt, ev_retN, ev_try, ev_asgT, ev_aug, ev_irng1, ev_irng2, ev_ienum, ev_izip, ev_slice, ev_onone, ev_osome, mkT_ok, mkL_ok, and_bl, or_bl, and_blF, and_t, or_t, chB_bl, putF_some, tryK_rt, tryK_nx, noX_rt, noX_nx, bindF_some, augK_ok, rg1_nat, rg2_zero, rg2_one, en1_tup, en1_lst, enums_map, zips_map, zp1_tup, zp1_lst, asI_int, slice_tup, slice_lst, slice_lst', ix_tupM, ix_lstM, len_tup, len_lst, tup_lst, tup_tup, list_lst, list_tup, shortOk, add_tup, add_lst, add_int, sub_int, neg_int, int_int, int_bl, eq_int, ne_int, lt_int, le_int, gt_int, ge_intE, eq_bl, ne_bl, isN_ok, notN_ok, List.length_map, List.map_map, List.length_cons, List.length_nil, isi_tup_tuple, isi_tup_list, isi_tup_int, isi_tup_str, isi_tup_bool, isi_tup_dict, isi_lst_tuple, isi_lst_list, isi_lst_int, isi_lst_str, isi_lst_bool, isi_lst_dict, isi_int_tuple, isi_int_list, isi_int_int, isi_int_str, isi_int_bool, isi_int_dict, isi_str_tuple, isi_str_list, isi_str_int, isi_str_str, isi_str_bool, isi_str_dict, isi_bl_tuple, isi_bl_list, isi_bl_int, isi_bl_str, isi_bl_bool, isi_bl_dict, isi_non_tuple, isi_non_list, isi_non_int, isi_non_str, isi_non_bool, isi_non_dict, isn_tup, isn_lst, isn_int, isn_str, isn_bl, isn_non, ixt0, ixt1, ixt2, ixt3, ixt4, ixt5, ixl0, ixl1, ixl2, ixl3, ixl4, ixl5, in_tupN, in_lstN, notin_tupN, notin_lstN, forS_vals, Bool.not_true, Bool.not_false, Bool.false_or, Bool.true_or, Bool.or_false, Bool.or_true, Bool.and_true, Bool.true_and, Bool.and_false, Bool.false_and, List.nil_append, List.cons_append, vIn2_rl0, vIn2_rd0, vNotIn2_rl0, vNotIn2_rd0, vSub2_rl0, vSub2_rd0, vLen_rl0, vTuple_rl0, vList_rl0, vSum_rl0, vAny_rl0, vAll_rl0, vSorted2_rl0, vMin_rl0, vMax_rl0, vSorted_rl0, vSorted2_rd0, vEq_rl0, vNe_rl0, asT_rl0, vAppend_r0, vExtend_r0, onTy_r0, vIn2_rl1, vIn2_rd1, vNotIn2_rl1, vNotIn2_rd1, vSub2_rl1, vSub2_rd1, vLen_rl1, vTuple_rl1, vList_rl1, vSum_rl1, vAny_rl1, vAll_rl1, vSorted2_rl1, vMin_rl1, vMax_rl1, vSorted_rl1, vSorted2_rd1, vEq_rl1, vNe_rl1, asT_rl1, vAppend_r1, vExtend_r1, onTy_r1, vIn2_rl2, vIn2_rd2, vNotIn2_rl2, vNotIn2_rd2, vSub2_rl2, vSub2_rd2, vLen_rl2, vTuple_rl2, vList_rl2, vSum_rl2, vAny_rl2, vAll_rl2, vSorted2_rl2, vMin_rl2, vMax_rl2, vSorted_rl2, vSorted2_rd2, vEq_rl2, vNe_rl2, asT_rl2, vAppend_r2, vExtend_r2, onTy_r2, vIn2_rl3, vIn2_rd3, vNotIn2_rl3, vNotIn2_rd3, vSub2_rl3, vSub2_rd3, vLen_rl3, vTuple_rl3, vList_rl3, vSum_rl3, vAny_rl3, vAll_rl3, vSorted2_rl3, vMin_rl3, vMax_rl3, vSorted_rl3, vSorted2_rd3, vEq_rl3, vNe_rl3, asT_rl3, vAppend_r3, vExtend_r3, onTy_r3, vIn2_rl4, vIn2_rd4, vNotIn2_rl4, vNotIn2_rd4, vSub2_rl4, vSub2_rd4, vLen_rl4, vTuple_rl4, vList_rl4, vSum_rl4, vAny_rl4, vAll_rl4, vSorted2_rl4, vMin_rl4, vMax_rl4, vSorted_rl4, vSorted2_rd4, vEq_rl4, vNe_rl4, asT_rl4, vAppend_r4, vExtend_r4, onTy_r4, all_tt, all_mapA, any_mapA, cut1, oneD, in_dct, notin_dct, dcS_vals, ev_mdc, dcE_ok, ↓dcp_mapM, e1', e2', c1, c2, e3']
end Y

namespace Y
open G PySem
/-! ### the plain law -/
theorem piece_cons (x : Nat) (c : List Nat) (i : Nat) : piece (x :: c) i = (if x ≤ i then 1 else 0) + piece c i := by
  unfold piece
  by_cases h : x ≤ i
  · rw [List.filter_cons_of_pos (by exact decide_eq_true (by omega)), if_pos h, List.length_cons]; omega
  · rw [List.filter_cons_of_neg (by exact fun z => h (by have := of_decide_eq_true z; omega)), if_neg h]; omega
theorem piece_mono (i k : Nat) (h : i ≤ k) : ∀ c, piece c i ≤ piece c k
  | [] => Nat.le_refl _
  | x :: c => by
    have ih := piece_mono i k h c
    rw [piece_cons, piece_cons]
    split <;> split <;> omega
theorem piece_eq (i k : Nat) (h : i ≤ k) : ∀ c, (∀ x ∈ c, ¬ (i < x ∧ x ≤ k)) → piece c i = piece c k
  | [], _ => rfl
  | x :: c, hc => by
    have ih := piece_eq i k h c fun y hy => hc y (List.mem_cons_of_mem _ hy)
    have := hc x List.mem_cons_self
    rw [piece_cons, piece_cons, ih]
    split <;> split <;> omega
theorem piece_ne (i k : Nat) (h : i ≤ k) : ∀ c x, x ∈ c → i < x → x ≤ k → piece c i < piece c k
  | y :: c, x, hx, h1, h2 => by
    rw [piece_cons, piece_cons]
    rcases List.mem_cons.mp hx with rfl | hx
    · have := piece_mono i k h c
      rw [if_neg (by omega), if_pos h2]; omega
    · have := piece_ne i k h c x hx h1 h2
      split <;> split <;> omega
def W (ts : List (List Deed)) (cs : List (List Nat)) : Bool := (List.range ts.length).all fun t => (cs[t]!).all fun k => decide (k ∈ (fin ts)[t]!)
theorem fin_get {ts : List (List Deed)} {p : Nat} (h : p < ts.length) : (fin ts)[p]! = told ts p := by
  unfold fin
  rw [List.getElem!_eq_getElem?_getD, List.getElem?_map, List.getElem?_range h]; rfl
theorem mem_spans {ts : List (List Deed)} {p i k : Nat} : (i, k) ∈ spans ts p ↔ k < (ts[p]!).length ∧ i < k ∧ jn ts p i k = true := by
  unfold spans
  rw [List.mem_flatMap]
  constructor
  · rintro ⟨k', hk, h⟩
    obtain ⟨i', hi, e⟩ := List.mem_map.mp h
    cases e
    have := List.mem_filter.mp hi
    exact ⟨List.mem_range.mp hk, List.mem_range.mp this.1, this.2⟩
  · rintro ⟨h1, h2, h3⟩
    exact ⟨k, List.mem_range.mpr h1, List.mem_map.mpr ⟨i, List.mem_filter.mpr ⟨List.mem_range.mpr h2, h3⟩, rfl⟩⟩
theorem mem_told {ts : List (List Deed)} {p x : Nat} : x ∈ told ts p ↔ (1 ≤ x ∧ x < (ts[p]!).length) ∧ ∀ i k, (i, k) ∈ spans ts p → ¬ (i < x ∧ x ≤ k) := by
  unfold told
  rw [List.mem_filter, List.mem_range'_1]
  constructor
  · rintro ⟨h1, h2⟩
    refine ⟨by omega, fun i k hm z => ?_⟩
    have h2 : ((spans ts p).any fun q => decide ((q.1 : Int) < (x : Int)) && decide ((x : Int) ≤ (q.2 : Int))) = false := by simpa using h2
    have h3 := List.any_eq_false.mp h2 (i, k) hm
    exact h3 (by rw [Bool.and_eq_true]; exact ⟨decide_eq_true (by show (i : Int) < x; omega), decide_eq_true (by show (x : Int) ≤ k; omega)⟩)
  · rintro ⟨h1, h2⟩
    refine ⟨by omega, ?_⟩
    have : ((spans ts p).any fun q => decide ((q.1 : Int) < (x : Int)) && decide ((x : Int) ≤ (q.2 : Int))) = false := by
      rw [List.any_eq_false]
      rintro ⟨i, k⟩ hm z
      rw [Bool.and_eq_true] at z
      have z1 := of_decide_eq_true z.1
      have z2 := of_decide_eq_true z.2
      exact h2 i k hm ⟨by show i < x; have : (i : Int) < x := z1; omega, by show x ≤ k; have : (x : Int) ≤ k := z2; omega⟩
    rw [this]; rfl
theorem bad_iff {ts : List (List Deed)} {cs : List (List Nat)} : bad3 ts cs = true ↔ ∃ p k i, p < ts.length ∧ k < (ts[p]!).length ∧ i < k ∧ jn ts p i k = true ∧ piece (cs[p]!) i ≠ piece (cs[p]!) k := by
  unfold bad3
  rw [List.any_eq_true]
  constructor
  · rintro ⟨q, hq, h⟩
    obtain ⟨h1, h2⟩ := mem_zipIdx hq
    obtain ⟨k, hk, h⟩ := List.any_eq_true.mp h
    obtain ⟨i, hi, h⟩ := List.any_eq_true.mp h
    unfold bad at h
    rw [Bool.and_eq_true] at h
    refine ⟨q.2, k, i, h1, by rw [← h2]; exact List.mem_range.mp hk, List.mem_range.mp hi, h.1, fun z => ?_⟩
    rw [z] at h
    simp at h
  · rintro ⟨p, k, i, h1, h2, h3, h4, h5⟩
    refine ⟨(ts[p]!, p), ?_, ?_⟩
    · refine List.mem_zipIdx_iff_getElem?.mpr ?_
      show ts[p]? = some ts[p]!
      rw [List.getElem!_eq_getElem?_getD, List.getElem?_eq_getElem h1]; rfl
    · refine List.any_eq_true.mpr ⟨k, List.mem_range.mpr h2, List.any_eq_true.mpr ⟨i, List.mem_range.mpr h3, ?_⟩⟩
      unfold bad
      rw [Bool.and_eq_true]
      refine ⟨h4, ?_⟩
      cases q : ((piece (cs[p]!) i : Int) == (piece (cs[p]!) k : Int)) with
      | false => rfl
      | true =>
        have := eq_of_beq q
        exact absurd (by omega) h5
theorem W_bad {ts : List (List Deed)} {cs : List (List Nat)} (hc : Cut ts cs) : W ts cs = !(bad3 ts cs) := by
  cases hb : bad3 ts cs with
  | true =>
    obtain ⟨p, k, i, h1, h2, h3, h4, h5⟩ := bad_iff.mp hb
    have : ∃ x ∈ cs[p]!, i < x ∧ x ≤ k := by
      refine Classical.byContradiction fun z => h5 (piece_eq i k (by omega) _ fun x hx hh => z ⟨x, hx, hh⟩)
    obtain ⟨x, hx, hx1, hx2⟩ := this
    show W ts cs = false
    unfold W
    refine List.all_eq_false.mpr ⟨p, List.mem_range.mpr h1, fun z => ?_⟩
    have z := List.all_eq_true.mp z x hx
    have z := of_decide_eq_true z
    rw [fin_get h1] at z
    exact (mem_told.mp z).2 i k (mem_spans.mpr ⟨h2, h3, h4⟩) ⟨hx1, hx2⟩
  | false =>
    show W ts cs = true
    unfold W
    refine List.all_eq_true.mpr fun p hp => List.all_eq_true.mpr fun x hx => decide_eq_true ?_
    have hp := List.mem_range.mp hp
    rw [fin_get hp]
    refine mem_told.mpr ⟨(hc.get hp).a x hx, fun i k hm hh => ?_⟩
    obtain ⟨h1, h2, h3⟩ := mem_spans.mp hm
    have h5 := piece_ne i k (by omega) _ x hx hh.1 hh.2
    have : bad3 ts cs = true := bad_iff.mpr ⟨p, k, i, hp, h1, h2, h3, by omega⟩
    rw [hb] at this; cases this
theorem told_cut {ts : List (List Deed)} (h : Good ts) {p : Nat} (hp : p < ts.length) : CutR (ts[p]!).length (told ts p) := by
  have hl := h.small.get hp
  refine ⟨fun k hk => (mem_told.mp hk).1, ?_, zip_drop _ ?_⟩
  · have : (told ts p).length ≤ ((ts[p]!).length - 1) := by
      unfold told
      refine Nat.le_trans (List.length_filter_le _ _) ?_
      rw [List.length_range']; exact Nat.le_refl _
    omega
  · unfold told
    exact List.Pairwise.filter _ (List.pairwise_lt_range')
theorem fin_cut {ts : List (List Deed)} (h : Good ts) : Cut ts (fin ts) := by
  have hl : (fin ts).length = ts.length := by unfold fin; rw [List.length_map, List.length_range]
  refine ⟨hl, fun q hq => ?_⟩
  obtain ⟨p, hp⟩ := List.getElem?_of_mem hq
  rw [List.getElem?_zip_eq_some] at hp
  obtain ⟨h1, h2⟩ := hp
  obtain ⟨h3, h4⟩ := List.getElem?_eq_some_iff.mp h1
  have e1 : q.1 = ts[p]! := by rw [List.getElem!_eq_getElem?_getD, h1]; rfl
  have e2 : q.2 = told ts p := by rw [← fin_get h3, List.getElem!_eq_getElem?_getD, h2]; rfl
  rw [e1, e2]
  exact told_cut h h3
theorem fin_good {ts : List (List Deed)} (h : Good ts) : bad3 ts (fin ts) = false := by
  have := W_bad (fin_cut h)
  have e : W ts (fin ts) = true := by
    unfold W
    exact List.all_eq_true.mpr fun p _ => List.all_eq_true.mpr fun x hx => decide_eq_true hx
  rw [e] at this
  cases q : bad3 ts (fin ts) with
  | false => rfl
  | true => rw [q] at this; cases this
/-! ### the law -/
theorem law_cut {ts : List (List Deed)} (h : Good ts) {cs : List (List Nat)} (hc : Cut ts cs) (a b c d e f : Option Val) (μ : Mu) : ∃ d', l1_law [a, b, c, some (eX ts), some (eC (fin ts)), some (eC cs), d, e, f] μ = .nx [a, b, c, some (eX ts), some (eC (fin ts)), some (eC cs), d', e, f] μ := by
  obtain ⟨v, hv, hr⟩ := cutring_ok h hc
  have hW := W_bad hc
  have hb := h.b
  have hl := hc.l
  have hf := (fin_cut h).l
  have hcl : ∀ x, x ∈ List.range ts.length → ∀ μ, vSub2 (eC cs) (.int (x : Int)) μ = .ok (eL (cs[x]!)) μ := fun x hx μ => ix_tupM μ eL cs x (by have := List.mem_range.mp hx; omega)
  have hfl : ∀ x, x ∈ List.range ts.length → ∀ μ, vSub2 (eC (fin ts)) (.int (x : Int)) μ = .ok (eL ((fin ts)[x]!)) μ := fun x hx μ => ix_tupM μ eL (fin ts) x (by have := List.mem_range.mp hx; omega)
  have hcs : ∀ x, x ∈ List.range ts.length → (cs[x]!).length ≤ LIM := fun x hx => by
    have := (hc.get (List.mem_range.mp hx)).l
    unfold LIM; omega
  have hW' : ((List.range ts.length).all fun x => (cs[x]!).all fun k => decide (k ∈ (fin ts)[x]!)) = !(bad3 ts cs) := hW
  refine ⟨some (.bl (!(bad3 ts cs))), ?_⟩
  unfold l1_law
  simp (config := {implicitDefEqProofs := false}) (disch := (first | (with_reducible assumption) | omega | (with_reducible solve_by_elim (maxDepth := 3)) | (with_reducible exact lt_range (by with_reducible assumption)) | (with_reducible exact lt_rangeF (by with_reducible assumption)) | (with_reducible exact lt_range1 (by with_reducible assumption)) | (with_reducible exact lt_range1F (by with_reducible assumption)) | (simp only [List.length_map, List.length_range, List.length_range', List.length_cons, List.length_nil, List.length_append, LIM]; omega) | (simp only [List.length_map]; with_reducible assumption) | (simp only [List.length_map]; with_reducible solve_by_elim (maxDepth := 3)) | (simp only [List.length_map]; refine len_filter ?_; simp only [List.length_map, List.length_range, List.length_range', LIM]; omega))) only [ev_op2, ev_op1, ev_imm, ev_mut, ev_call, ev_anil, ev_acons, ev_cst, ev_seq, ev_skip, ev_asg, ev_ret, ev_drop, ev_if, ev_not, ev_and, ev_or, ev_ife, ev_bool, ev_truth, ev_mvar, lookR_ok, bnd_ok, bnd_exc, flw_ok, flw_exc, seq_nx', seq_rt', seq_exc', asB_bl, asT_bl, List.getElem?_cons_zero, List.getElem?_cons_succ, List.set_cons_zero, List.set_cons_succ, if_true, if_false, Bool.false_eq_true, bindK_some, cmpS_vals, catS_vals, ev_mlc, ev_mlc2, bndS_ok, ev_mraw, ↓cmp_mapM, ↓cat2_mapM, cmpM_no, catM_no, dcpM_no, cmp_pure, cmp_if, cat2_pure, cat2_if, bindT_nm, bindT_tup, bindT_lst, bindTs_nil, bindO_some, bindTs_cons, wipe_nil, wipe_cons, ev_iseq, asSrc_lst, asSrc_rol, asSrc_tup, oneC, oneI, List.map_cons, List.map_nil, ev_mand, ev_mor, ev_mnot, ev_tife, ev_tyes, ev_chain, ev_op2F, ev_op1F, ev_meth, ev_tupT, ev_lstL, ev_for, ev_setI, ev_raise, ev_brk, ev_cnt, ev_retN, ev_try, ev_asgT, ev_aug, ev_irng1, ev_irng2, ev_ienum, ev_izip, ev_slice, ev_onone, ev_osome, mkT_ok, mkL_ok, and_bl, or_bl, and_blF, and_t, or_t, chB_bl, putF_some, tryK_rt, tryK_nx, noX_rt, noX_nx, bindF_some, augK_ok, rg1_nat, rg2_zero, rg2_one, en1_tup, en1_lst, enums_map, zips_map, zp1_tup, zp1_lst, asI_int, slice_tup, slice_lst, slice_lst', ix_tupM, ix_lstM, len_tup, len_lst, tup_lst, tup_tup, list_lst, list_tup, shortOk, add_tup, add_lst, add_int, sub_int, neg_int, int_int, int_bl, eq_int, ne_int, lt_int, le_int, gt_int, ge_intE, eq_bl, ne_bl, isN_ok, notN_ok, List.length_map, List.map_map, List.length_cons, List.length_nil, isi_tup_tuple, isi_tup_list, isi_tup_int, isi_tup_str, isi_tup_bool, isi_tup_dict, isi_lst_tuple, isi_lst_list, isi_lst_int, isi_lst_str, isi_lst_bool, isi_lst_dict, isi_int_tuple, isi_int_list, isi_int_int, isi_int_str, isi_int_bool, isi_int_dict, isi_str_tuple, isi_str_list, isi_str_int, isi_str_str, isi_str_bool, isi_str_dict, isi_bl_tuple, isi_bl_list, isi_bl_int, isi_bl_str, isi_bl_bool, isi_bl_dict, isi_non_tuple, isi_non_list, isi_non_int, isi_non_str, isi_non_bool, isi_non_dict, isn_tup, isn_lst, isn_int, isn_str, isn_bl, isn_non, ixt0, ixt1, ixt2, ixt3, ixt4, ixt5, ixl0, ixl1, ixl2, ixl3, ixl4, ixl5, in_tupN, in_lstN, notin_tupN, notin_lstN, forS_vals, Bool.not_true, Bool.not_false, Bool.false_or, Bool.true_or, Bool.or_false, Bool.or_true, Bool.and_true, Bool.true_and, Bool.and_false, Bool.false_and, List.nil_append, List.cons_append, vIn2_rl0, vIn2_rd0, vNotIn2_rl0, vNotIn2_rd0, vSub2_rl0, vSub2_rd0, vLen_rl0, vTuple_rl0, vList_rl0, vSum_rl0, vAny_rl0, vAll_rl0, vSorted2_rl0, vMin_rl0, vMax_rl0, vSorted_rl0, vSorted2_rd0, vEq_rl0, vNe_rl0, asT_rl0, vAppend_r0, vExtend_r0, onTy_r0, vIn2_rl1, vIn2_rd1, vNotIn2_rl1, vNotIn2_rd1, vSub2_rl1, vSub2_rd1, vLen_rl1, vTuple_rl1, vList_rl1, vSum_rl1, vAny_rl1, vAll_rl1, vSorted2_rl1, vMin_rl1, vMax_rl1, vSorted_rl1, vSorted2_rd1, vEq_rl1, vNe_rl1, asT_rl1, vAppend_r1, vExtend_r1, onTy_r1, vIn2_rl2, vIn2_rd2, vNotIn2_rl2, vNotIn2_rd2, vSub2_rl2, vSub2_rd2, vLen_rl2, vTuple_rl2, vList_rl2, vSum_rl2, vAny_rl2, vAll_rl2, vSorted2_rl2, vMin_rl2, vMax_rl2, vSorted_rl2, vSorted2_rd2, vEq_rl2, vNe_rl2, asT_rl2, vAppend_r2, vExtend_r2, onTy_r2, vIn2_rl3, vIn2_rd3, vNotIn2_rl3, vNotIn2_rd3, vSub2_rl3, vSub2_rd3, vLen_rl3, vTuple_rl3, vList_rl3, vSum_rl3, vAny_rl3, vAll_rl3, vSorted2_rl3, vMin_rl3, vMax_rl3, vSorted_rl3, vSorted2_rd3, vEq_rl3, vNe_rl3, asT_rl3, vAppend_r3, vExtend_r3, onTy_r3, vIn2_rl4, vIn2_rd4, vNotIn2_rl4, vNotIn2_rd4, vSub2_rl4, vSub2_rd4, vLen_rl4, vTuple_rl4, vList_rl4, vSum_rl4, vAny_rl4, vAll_rl4, vSorted2_rl4, vMin_rl4, vMax_rl4, vSorted_rl4, vSorted2_rd4, vEq_rl4, vNe_rl4, asT_rl4, vAppend_r4, vExtend_r4, onTy_r4, all_tt, all_mapA, any_mapA, cut1, oneD, in_dct, notin_dct, dcS_vals, ev_mdc, dcE_ok, ↓dcp_mapM, hcl, hfl, hW', hr, hv]
  cases bad3 ts cs <;> rfl
theorem cuts_take {ts : List (List Deed)} (h : Good ts) (a b c : Option Val) (μ : Mu) : ∀ (cuts : List (List (List Nat))), (∀ x ∈ cuts, Cut ts x) → ∀ (u d e f : Option Val), ∃ u' d', forL (.nm 5) l1_law (cuts.map eC) [a, b, c, some (eX ts), some (eC (fin ts)), u, d, e, f] μ = .nx [a, b, c, some (eX ts), some (eC (fin ts)), u', d', e, f] μ := by
  intro cuts
  induction cuts with
  | nil => exact fun _ u d e f => ⟨u, d, rfl⟩
  | cons x cuts ih =>
    intro hx u d e f
    obtain ⟨d1, e1⟩ := law_cut h (hx x List.mem_cons_self) a b c d e f μ
    obtain ⟨u2, d2, e2⟩ := ih (fun y hy => hx y (List.mem_cons_of_mem _ hy)) (some (eC x)) d1 e f
    refine ⟨u2, d2, ?_⟩
    refine (forL_nx ?_).trans e2
    exact e1
theorem law_turn {o : Ob} (ho : IsDr o) (a c d e f g h k : Option Val) : ∃ (ts : List (List Deed)) (o' : Ob) (e' f' g' : Option Val), Good ts ∧ IsDr o' ∧ l2_law [a, some (.ref 0), c, d, e, f, g, h, k] [o] = .nx [a, some (.ref 0), c, some (eX ts), e', f', g', h, k] [o'] := by
  obtain ⟨ts, o', hts, ho', e1⟩ := lawtexts_ok ho []
  obtain ⟨cuts, hcuts, e2⟩ := cuts_ok hts
  obtain ⟨v, hv, hr⟩ := cutring_ok hts (fin_cut hts)
  rw [fin_good hts] at hv
  obtain ⟨f', g', e3⟩ := cuts_take hts a (some (.ref 0)) c [o'] (cuts.take 64) (fun x hx => hcuts x (List.mem_of_mem_take hx)) f g h k
  refine ⟨ts, o', some (eC (fin ts)), f', g', hts, ho', ?_⟩
  have e4 : vCut (cuts.map eC) none (some 64) = (cuts.take 64).map eC := by
    rw [List.map_take]
    exact cut_to _ 64
  unfold l2_law
  simp (config := {implicitDefEqProofs := false}) (disch := (first | (with_reducible assumption) | omega | (with_reducible solve_by_elim (maxDepth := 3)) | (with_reducible exact lt_range (by with_reducible assumption)) | (with_reducible exact lt_rangeF (by with_reducible assumption)) | (with_reducible exact lt_range1 (by with_reducible assumption)) | (with_reducible exact lt_range1F (by with_reducible assumption)) | (simp only [List.length_map, List.length_range, List.length_range', List.length_cons, List.length_nil, List.length_append, LIM]; omega) | (simp only [List.length_map]; with_reducible assumption) | (simp only [List.length_map]; with_reducible solve_by_elim (maxDepth := 3)) | (simp only [List.length_map]; refine len_filter ?_; simp only [List.length_map, List.length_range, List.length_range', LIM]; omega))) only [ev_op2, ev_op1, ev_imm, ev_mut, ev_call, ev_anil, ev_acons, ev_cst, ev_seq, ev_skip, ev_asg, ev_ret, ev_drop, ev_if, ev_not, ev_and, ev_or, ev_ife, ev_bool, ev_truth, ev_mvar, lookR_ok, bnd_ok, bnd_exc, flw_ok, flw_exc, seq_nx', seq_rt', seq_exc', asB_bl, asT_bl, List.getElem?_cons_zero, List.getElem?_cons_succ, List.set_cons_zero, List.set_cons_succ, if_true, if_false, Bool.false_eq_true, bindK_some, cmpS_vals, catS_vals, ev_mlc, ev_mlc2, bndS_ok, ev_mraw, ↓cmp_mapM, ↓cat2_mapM, cmpM_no, catM_no, dcpM_no, cmp_pure, cmp_if, cat2_pure, cat2_if, bindT_nm, bindT_tup, bindT_lst, bindTs_nil, bindO_some, bindTs_cons, wipe_nil, wipe_cons, ev_iseq, asSrc_lst, asSrc_rol, asSrc_tup, oneC, oneI, List.map_cons, List.map_nil, ev_mand, ev_mor, ev_mnot, ev_tife, ev_tyes, ev_chain, ev_op2F, ev_op1F, ev_meth, ev_tupT, ev_lstL, ev_for, ev_setI, ev_raise, ev_brk, ev_cnt, ev_retN, ev_try, ev_asgT, ev_aug, ev_irng1, ev_irng2, ev_ienum, ev_izip, ev_slice, ev_onone, ev_osome, mkT_ok, mkL_ok, and_bl, or_bl, and_blF, and_t, or_t, chB_bl, putF_some, tryK_rt, tryK_nx, noX_rt, noX_nx, bindF_some, augK_ok, rg1_nat, rg2_zero, rg2_one, en1_tup, en1_lst, enums_map, zips_map, zp1_tup, zp1_lst, asI_int, slice_tup, slice_lst, slice_lst', ix_tupM, ix_lstM, len_tup, len_lst, tup_lst, tup_tup, list_lst, list_tup, shortOk, add_tup, add_lst, add_int, sub_int, neg_int, int_int, int_bl, eq_int, ne_int, lt_int, le_int, gt_int, ge_intE, eq_bl, ne_bl, isN_ok, notN_ok, List.length_map, List.map_map, List.length_cons, List.length_nil, isi_tup_tuple, isi_tup_list, isi_tup_int, isi_tup_str, isi_tup_bool, isi_tup_dict, isi_lst_tuple, isi_lst_list, isi_lst_int, isi_lst_str, isi_lst_bool, isi_lst_dict, isi_int_tuple, isi_int_list, isi_int_int, isi_int_str, isi_int_bool, isi_int_dict, isi_str_tuple, isi_str_list, isi_str_int, isi_str_str, isi_str_bool, isi_str_dict, isi_bl_tuple, isi_bl_list, isi_bl_int, isi_bl_str, isi_bl_bool, isi_bl_dict, isi_non_tuple, isi_non_list, isi_non_int, isi_non_str, isi_non_bool, isi_non_dict, isn_tup, isn_lst, isn_int, isn_str, isn_bl, isn_non, ixt0, ixt1, ixt2, ixt3, ixt4, ixt5, ixl0, ixl1, ixl2, ixl3, ixl4, ixl5, in_tupN, in_lstN, notin_tupN, notin_lstN, forS_vals, Bool.not_true, Bool.not_false, Bool.false_or, Bool.true_or, Bool.or_false, Bool.or_true, Bool.and_true, Bool.true_and, Bool.and_false, Bool.false_and, List.nil_append, List.cons_append, vIn2_rl0, vIn2_rd0, vNotIn2_rl0, vNotIn2_rd0, vSub2_rl0, vSub2_rd0, vLen_rl0, vTuple_rl0, vList_rl0, vSum_rl0, vAny_rl0, vAll_rl0, vSorted2_rl0, vMin_rl0, vMax_rl0, vSorted_rl0, vSorted2_rd0, vEq_rl0, vNe_rl0, asT_rl0, vAppend_r0, vExtend_r0, onTy_r0, vIn2_rl1, vIn2_rd1, vNotIn2_rl1, vNotIn2_rd1, vSub2_rl1, vSub2_rd1, vLen_rl1, vTuple_rl1, vList_rl1, vSum_rl1, vAny_rl1, vAll_rl1, vSorted2_rl1, vMin_rl1, vMax_rl1, vSorted_rl1, vSorted2_rd1, vEq_rl1, vNe_rl1, asT_rl1, vAppend_r1, vExtend_r1, onTy_r1, vIn2_rl2, vIn2_rd2, vNotIn2_rl2, vNotIn2_rd2, vSub2_rl2, vSub2_rd2, vLen_rl2, vTuple_rl2, vList_rl2, vSum_rl2, vAny_rl2, vAll_rl2, vSorted2_rl2, vMin_rl2, vMax_rl2, vSorted_rl2, vSorted2_rd2, vEq_rl2, vNe_rl2, asT_rl2, vAppend_r2, vExtend_r2, onTy_r2, vIn2_rl3, vIn2_rd3, vNotIn2_rl3, vNotIn2_rd3, vSub2_rl3, vSub2_rd3, vLen_rl3, vTuple_rl3, vList_rl3, vSum_rl3, vAny_rl3, vAll_rl3, vSorted2_rl3, vMin_rl3, vMax_rl3, vSorted_rl3, vSorted2_rd3, vEq_rl3, vNe_rl3, asT_rl3, vAppend_r3, vExtend_r3, onTy_r3, vIn2_rl4, vIn2_rd4, vNotIn2_rl4, vNotIn2_rd4, vSub2_rl4, vSub2_rd4, vLen_rl4, vTuple_rl4, vList_rl4, vSum_rl4, vAny_rl4, vAll_rl4, vSorted2_rl4, vMin_rl4, vMax_rl4, vSorted_rl4, vSorted2_rd4, vEq_rl4, vNe_rl4, asT_rl4, vAppend_r4, vExtend_r4, onTy_r4, all_tt, all_mapA, any_mapA, cut1, oneD, in_dct, notin_dct, dcS_vals, ev_mdc, dcE_ok, ↓dcp_mapM, e1, fin_ok hts, iscut_ok hts (fin_cut hts), hr, hv, e2, e4, e3]
theorem law_ok : LawOk f_law := fun ns hl => by
  obtain ⟨o, ho, e1⟩ := drawM_ok ns hl
  obtain ⟨ts1, o1, a1, b1, c1, ht1, ho1, e2⟩ := law_turn ho (some (.rol (ns.map .int))) (some (eN 0)) none none none none none none
  obtain ⟨ts2, o2, a2, b2, c2, ht2, ho2, e3⟩ := law_turn ho1 (some (.rol (ns.map .int))) (some (eN 1)) (some (eX ts1)) a1 b1 c1 none none
  obtain ⟨v, o3, hv, ho3, e4⟩ := odd_ok ht2 ho2 []
  obtain ⟨hv1, hv2⟩ := odd_all ht2 v hv
  have e5 := told_bad hv1 hv2
  have e1' : callM f__law_draw [.rol (ns.map .int)] [] = .ok (.ref 0) [o] := e1
  have eq : ∀ μ, vEq (.str "<malformed>") (.str "<malformed>") μ = .ok (.bl true) μ := fun μ => by kernel_rfl
  have e0 : ∀ μ, rg1 [.int 2] μ = .ok (.vals [eN 0, eN 1]) μ := fun μ => rfl
  have e6 : forL (.nm 2) l2_law [eN 0, eN 1] [some (.rol (ns.map .int)), some (.ref 0), none, none, none, none, none, none, none] [o] = .nx [some (.rol (ns.map .int)), some (.ref 0), some (eN 1), some (eX ts2), a2, b2, c2, none, none] [o2] := by
    have f1 := forL_nx (i := 2) (sl := [some (.rol (ns.map .int)), some (.ref 0), none, none, none, none, none, none, none]) (x := eN 0) (xs := [eN 1]) e2
    have f2 := forL_nx (i := 2) (sl := [some (.rol (ns.map .int)), some (.ref 0), some (eN 0), some (eX ts1), a1, b1, c1, none, none]) (x := eN 1) (xs := []) e3
    exact f1.trans (f2.trans rfl)
  refine ⟨[o3], defB_rt rfl ?_⟩
  show b_law [some (.rol (ns.map .int)), none, none, none, none, none, none, none, none] [] = _
  unfold b_law
  simp (config := {implicitDefEqProofs := false}) (disch := (first | (with_reducible assumption) | omega | (with_reducible solve_by_elim (maxDepth := 3)) | (with_reducible exact lt_range (by with_reducible assumption)) | (with_reducible exact lt_rangeF (by with_reducible assumption)) | (with_reducible exact lt_range1 (by with_reducible assumption)) | (with_reducible exact lt_range1F (by with_reducible assumption)) | (simp only [List.length_map, List.length_range, List.length_range', List.length_cons, List.length_nil, List.length_append, LIM]; omega) | (simp only [List.length_map]; with_reducible assumption) | (simp only [List.length_map]; with_reducible solve_by_elim (maxDepth := 3)) | (simp only [List.length_map]; refine len_filter ?_; simp only [List.length_map, List.length_range, List.length_range', LIM]; omega))) only [ev_op2, ev_op1, ev_imm, ev_mut, ev_call, ev_anil, ev_acons, ev_cst, ev_seq, ev_skip, ev_asg, ev_ret, ev_drop, ev_if, ev_not, ev_and, ev_or, ev_ife, ev_bool, ev_truth, ev_mvar, lookR_ok, bnd_ok, bnd_exc, flw_ok, flw_exc, seq_nx', seq_rt', seq_exc', asB_bl, asT_bl, List.getElem?_cons_zero, List.getElem?_cons_succ, List.set_cons_zero, List.set_cons_succ, if_true, if_false, Bool.false_eq_true, bindK_some, cmpS_vals, catS_vals, ev_mlc, ev_mlc2, bndS_ok, ev_mraw, ↓cmp_mapM, ↓cat2_mapM, cmpM_no, catM_no, dcpM_no, cmp_pure, cmp_if, cat2_pure, cat2_if, bindT_nm, bindT_tup, bindT_lst, bindTs_nil, bindO_some, bindTs_cons, wipe_nil, wipe_cons, ev_iseq, asSrc_lst, asSrc_rol, asSrc_tup, oneC, oneI, List.map_cons, List.map_nil, ev_mand, ev_mor, ev_mnot, ev_tife, ev_tyes, ev_chain, ev_op2F, ev_op1F, ev_meth, ev_tupT, ev_lstL, ev_for, ev_setI, ev_raise, ev_brk, ev_cnt, ev_retN, ev_try, ev_asgT, ev_aug, ev_irng1, ev_irng2, ev_ienum, ev_izip, ev_slice, ev_onone, ev_osome, mkT_ok, mkL_ok, and_bl, or_bl, and_blF, and_t, or_t, chB_bl, putF_some, tryK_rt, tryK_nx, noX_rt, noX_nx, bindF_some, augK_ok, rg1_nat, rg2_zero, rg2_one, en1_tup, en1_lst, enums_map, zips_map, zp1_tup, zp1_lst, asI_int, slice_tup, slice_lst, slice_lst', ix_tupM, ix_lstM, len_tup, len_lst, tup_lst, tup_tup, list_lst, list_tup, shortOk, add_tup, add_lst, add_int, sub_int, neg_int, int_int, int_bl, eq_int, ne_int, lt_int, le_int, gt_int, ge_intE, eq_bl, ne_bl, isN_ok, notN_ok, List.length_map, List.map_map, List.length_cons, List.length_nil, isi_tup_tuple, isi_tup_list, isi_tup_int, isi_tup_str, isi_tup_bool, isi_tup_dict, isi_lst_tuple, isi_lst_list, isi_lst_int, isi_lst_str, isi_lst_bool, isi_lst_dict, isi_int_tuple, isi_int_list, isi_int_int, isi_int_str, isi_int_bool, isi_int_dict, isi_str_tuple, isi_str_list, isi_str_int, isi_str_str, isi_str_bool, isi_str_dict, isi_bl_tuple, isi_bl_list, isi_bl_int, isi_bl_str, isi_bl_bool, isi_bl_dict, isi_non_tuple, isi_non_list, isi_non_int, isi_non_str, isi_non_bool, isi_non_dict, isn_tup, isn_lst, isn_int, isn_str, isn_bl, isn_non, ixt0, ixt1, ixt2, ixt3, ixt4, ixt5, ixl0, ixl1, ixl2, ixl3, ixl4, ixl5, in_tupN, in_lstN, notin_tupN, notin_lstN, forS_vals, Bool.not_true, Bool.not_false, Bool.false_or, Bool.true_or, Bool.or_false, Bool.or_true, Bool.and_true, Bool.true_and, Bool.and_false, Bool.false_and, List.nil_append, List.cons_append, vIn2_rl0, vIn2_rd0, vNotIn2_rl0, vNotIn2_rd0, vSub2_rl0, vSub2_rd0, vLen_rl0, vTuple_rl0, vList_rl0, vSum_rl0, vAny_rl0, vAll_rl0, vSorted2_rl0, vMin_rl0, vMax_rl0, vSorted_rl0, vSorted2_rd0, vEq_rl0, vNe_rl0, asT_rl0, vAppend_r0, vExtend_r0, onTy_r0, vIn2_rl1, vIn2_rd1, vNotIn2_rl1, vNotIn2_rd1, vSub2_rl1, vSub2_rd1, vLen_rl1, vTuple_rl1, vList_rl1, vSum_rl1, vAny_rl1, vAll_rl1, vSorted2_rl1, vMin_rl1, vMax_rl1, vSorted_rl1, vSorted2_rd1, vEq_rl1, vNe_rl1, asT_rl1, vAppend_r1, vExtend_r1, onTy_r1, vIn2_rl2, vIn2_rd2, vNotIn2_rl2, vNotIn2_rd2, vSub2_rl2, vSub2_rd2, vLen_rl2, vTuple_rl2, vList_rl2, vSum_rl2, vAny_rl2, vAll_rl2, vSorted2_rl2, vMin_rl2, vMax_rl2, vSorted_rl2, vSorted2_rd2, vEq_rl2, vNe_rl2, asT_rl2, vAppend_r2, vExtend_r2, onTy_r2, vIn2_rl3, vIn2_rd3, vNotIn2_rl3, vNotIn2_rd3, vSub2_rl3, vSub2_rd3, vLen_rl3, vTuple_rl3, vList_rl3, vSum_rl3, vAny_rl3, vAll_rl3, vSorted2_rl3, vMin_rl3, vMax_rl3, vSorted_rl3, vSorted2_rd3, vEq_rl3, vNe_rl3, asT_rl3, vAppend_r3, vExtend_r3, onTy_r3, vIn2_rl4, vIn2_rd4, vNotIn2_rl4, vNotIn2_rd4, vSub2_rl4, vSub2_rd4, vLen_rl4, vTuple_rl4, vList_rl4, vSum_rl4, vAny_rl4, vAll_rl4, vSorted2_rl4, vMin_rl4, vMax_rl4, vSorted_rl4, vSorted2_rd4, vEq_rl4, vNe_rl4, asT_rl4, vAppend_r4, vExtend_r4, onTy_r4, all_tt, all_mapA, any_mapA, cut1, oneD, in_dct, notin_dct, dcS_vals, ev_mdc, dcE_ok, ↓dcp_mapM, e1', e0, e6, e4, e5, eq]
end Y

/-! what the top has written; the law -/
namespace Y
open G PySem PySem.Spec PyProof.Rows L2
theorem all_mk {l : PySem.W.OpenLaw} {w : World} {K : PySem.W.Frag} {h : Heap} {mg : Str → Option Value} {fa : Addr} (X : K.In h) (G : h.Ns mainGlobals mg) (hfa : mg "law" = some (.ref fa))
    {f1 f15 f29 f43 f57 f71 f85 f99 f113 f127 f141 f155 f169 f183 f197 f211 f225 f239 f253 f267 f281 f295 f309 f343 : Addr}
    {o2 o3 o4 o5 o6 o7 o16 o17 o18 o19 o20 o21 o30 o31 o32 o33 o34 o35 o44 o45 o46 o47 o48 o49 o58 o59 o60 o61 o62 o63 o72 o73 o74 o75 o76 o77 o86 o87 o88 o89 o90 o91 o100 o101 o102 o103 o104 o105 o114 o115 o116 o117 o118 o119 o128 o129 o130 o131 o132 o133 o142 o143 o144 o145 o146 o147 o156 o157 o158 o159 o160 o161 o170 o171 o172 o173 o174 o175 o184 o185 o186 o187 o188 o189 o198 o199 o200 o201 o202 o203 o212 o213 o214 o215 o216 o217 o226 o227 o228 o229 o230 o231 o240 o241 o242 o243 o244 o245 o254 o255 o256 o257 o258 o259 o268 o269 o270 o271 o272 o273 o282 o283 o284 o285 o286 o287 o296 o297 o298 o299 o300 o301 o310 o311 o312 o313 o314 o315 : Value}
    {d8 d9 d22 d23 d36 d37 d50 d51 d64 d65 d78 d79 d92 d93 d106 d107 d120 d121 d134 d135 d148 d149 d162 d163 d176 d177 d190 d191 d204 d205 d218 d219 d232 d233 d246 d247 d260 d261 d274 d275 d288 d289 d302 d303 d316 d317 : Option Addr}
    {s10 s24 s38 s52 s66 s80 s94 s108 s122 s136 s150 s164 s178 s192 s206 s220 s234 s248 s262 s276 s290 s304 s318 : Array (Option Value)}
    {t337 t339 t341 : Tok}
    (h11 : PySem.W.nsIn K mainGlobals "_law_draw" = some (some (.ref f1)))
    (h25 : PySem.W.nsIn K mainGlobals "_law_take" = some (some (.ref f15)))
    (h39 : PySem.W.nsIn K mainGlobals "_law_texts" = some (some (.ref f29)))
    (h53 : PySem.W.nsIn K mainGlobals "is_whole" = some (some (.ref f43)))
    (h67 : PySem.W.nsIn K mainGlobals "is_deed" = some (some (.ref f57)))
    (h81 : PySem.W.nsIn K mainGlobals "is_text" = some (some (.ref f71)))
    (h95 : PySem.W.nsIn K mainGlobals "is_texts" = some (some (.ref f85)))
    (h109 : PySem.W.nsIn K mainGlobals "check_texts" = some (some (.ref f99)))
    (h123 : PySem.W.nsIn K mainGlobals "do_touch" = some (some (.ref f113)))
    (h137 : PySem.W.nsIn K mainGlobals "rows_touch" = some (some (.ref f127)))
    (h151 : PySem.W.nsIn K mainGlobals "joined_to" = some (some (.ref f141)))
    (h165 : PySem.W.nsIn K mainGlobals "ring_between" = some (some (.ref f155)))
    (h179 : PySem.W.nsIn K mainGlobals "finest_cut" = some (some (.ref f169)))
    (h193 : PySem.W.nsIn K mainGlobals "_law_told" = some (some (.ref f183)))
    (h207 : PySem.W.nsIn K mainGlobals "_law_cuts" = some (some (.ref f197)))
    (h221 : PySem.W.nsIn K mainGlobals "_law_odd_texts" = some (some (.ref f211)))
    (h235 : PySem.W.nsIn K mainGlobals "is_places" = some (some (.ref f225)))
    (h249 : PySem.W.nsIn K mainGlobals "is_cut" = some (some (.ref f239)))
    (h263 : PySem.W.nsIn K mainGlobals "check_cut" = some (some (.ref f253)))
    (h277 : PySem.W.nsIn K mainGlobals "piece_of" = some (some (.ref f267)))
    (h291 : PySem.W.nsIn K mainGlobals "first_ring" = some (some (.ref f281)))
    (h305 : PySem.W.nsIn K mainGlobals "cut_ring" = some (some (.ref f295)))
    (h319 : PySem.W.nsIn K mainGlobals "law" = some (some (.ref f309)))
    (h323 : PySem.W.nsIn K mainGlobals "abs" = some none)
    (h324 : PySem.W.nsIn K mainGlobals "int" = some none)
    (h325 : PySem.W.nsIn K mainGlobals "len" = some none)
    (h326 : PySem.W.nsIn K mainGlobals "tuple" = some none)
    (h327 : PySem.W.nsIn K mainGlobals "range" = some none)
    (h328 : PySem.W.nsIn K mainGlobals "isinstance" = some none)
    (h329 : PySem.W.nsIn K mainGlobals "bool" = some none)
    (h330 : PySem.W.nsIn K mainGlobals "str" = some none)
    (h331 : PySem.W.nsIn K mainGlobals "all" = some none)
    (h332 : PySem.W.nsIn K mainGlobals "any" = some none)
    (h333 : PySem.W.nsIn K mainGlobals "sorted" = some none)
    (h334 : PySem.W.nsIn K mainGlobals "enumerate" = some none)
    (h335 : PySem.W.nsIn K mainGlobals "list" = some none)
    (h336 : PySem.W.nsIn K mainGlobals "zip" = some none)
    (h338 : PySem.W.nsIn K mainGlobals "MOST_VARIABLES" = some (some (.int 5 t337)))
    (h340 : PySem.W.nsIn K mainGlobals "MOST_DEEDS" = some (some (.int 5 t339)))
    (h342 : PySem.W.nsIn K mainGlobals "MOST_PROGRAMS" = some (some (.int 4 t341)))
    (h344 : PySem.W.nsIn K mainGlobals "Malformed" = some (some (.ref f343)))
    (h12 : K.lookup f1 = some ⟨o2, d8, .func (PySem.W.fnOf "_law_draw" "_law_draw" (defArgs s__law_draw) (defBody s__law_draw) (defScope s__law_draw) .none o3 o4 o5 d9 o6 o7), s10⟩)
    (h13 : PySem.W.codeIn K o6 "_law_draw" = true)
    (h14 : PySem.W.keepIn K (.ref f1) = true)
    (h26 : K.lookup f15 = some ⟨o16, d22, .func (PySem.W.fnOf "_law_take" "_law_take" (defArgs s__law_take) (defBody s__law_take) (defScope s__law_take) .none o17 o18 o19 d23 o20 o21), s24⟩)
    (h27 : PySem.W.codeIn K o20 "_law_take" = true)
    (h28 : PySem.W.keepIn K (.ref f15) = true)
    (h40 : K.lookup f29 = some ⟨o30, d36, .func (PySem.W.fnOf "_law_texts" "_law_texts" (defArgs s__law_texts) (defBody s__law_texts) (defScope s__law_texts) .none o31 o32 o33 d37 o34 o35), s38⟩)
    (h41 : PySem.W.codeIn K o34 "_law_texts" = true)
    (h42 : PySem.W.keepIn K (.ref f29) = true)
    (h54 : K.lookup f43 = some ⟨o44, d50, .func (PySem.W.fnOf "is_whole" "is_whole" (defArgs s_is_whole) (defBody s_is_whole) (defScope s_is_whole) .none o45 o46 o47 d51 o48 o49), s52⟩)
    (h55 : PySem.W.codeIn K o48 "is_whole" = true)
    (h56 : PySem.W.keepIn K (.ref f43) = true)
    (h68 : K.lookup f57 = some ⟨o58, d64, .func (PySem.W.fnOf "is_deed" "is_deed" (defArgs s_is_deed) (defBody s_is_deed) (defScope s_is_deed) .none o59 o60 o61 d65 o62 o63), s66⟩)
    (h69 : PySem.W.codeIn K o62 "is_deed" = true)
    (h70 : PySem.W.keepIn K (.ref f57) = true)
    (h82 : K.lookup f71 = some ⟨o72, d78, .func (PySem.W.fnOf "is_text" "is_text" (defArgs s_is_text) (defBody s_is_text) (defScope s_is_text) .none o73 o74 o75 d79 o76 o77), s80⟩)
    (h83 : PySem.W.codeIn K o76 "is_text" = true)
    (h84 : PySem.W.keepIn K (.ref f71) = true)
    (h96 : K.lookup f85 = some ⟨o86, d92, .func (PySem.W.fnOf "is_texts" "is_texts" (defArgs s_is_texts) (defBody s_is_texts) (defScope s_is_texts) .none o87 o88 o89 d93 o90 o91), s94⟩)
    (h97 : PySem.W.codeIn K o90 "is_texts" = true)
    (h98 : PySem.W.keepIn K (.ref f85) = true)
    (h110 : K.lookup f99 = some ⟨o100, d106, .func (PySem.W.fnOf "check_texts" "check_texts" (defArgs s_check_texts) (defBody s_check_texts) (defScope s_check_texts) .none o101 o102 o103 d107 o104 o105), s108⟩)
    (h111 : PySem.W.codeIn K o104 "check_texts" = true)
    (h112 : PySem.W.keepIn K (.ref f99) = true)
    (h124 : K.lookup f113 = some ⟨o114, d120, .func (PySem.W.fnOf "do_touch" "do_touch" (defArgs s_do_touch) (defBody s_do_touch) (defScope s_do_touch) .none o115 o116 o117 d121 o118 o119), s122⟩)
    (h125 : PySem.W.codeIn K o118 "do_touch" = true)
    (h126 : PySem.W.keepIn K (.ref f113) = true)
    (h138 : K.lookup f127 = some ⟨o128, d134, .func (PySem.W.fnOf "rows_touch" "rows_touch" (defArgs s_rows_touch) (defBody s_rows_touch) (defScope s_rows_touch) .none o129 o130 o131 d135 o132 o133), s136⟩)
    (h139 : PySem.W.codeIn K o132 "rows_touch" = true)
    (h140 : PySem.W.keepIn K (.ref f127) = true)
    (h152 : K.lookup f141 = some ⟨o142, d148, .func (PySem.W.fnOf "joined_to" "joined_to" (defArgs s_joined_to) (defBody s_joined_to) (defScope s_joined_to) .none o143 o144 o145 d149 o146 o147), s150⟩)
    (h153 : PySem.W.codeIn K o146 "joined_to" = true)
    (h154 : PySem.W.keepIn K (.ref f141) = true)
    (h166 : K.lookup f155 = some ⟨o156, d162, .func (PySem.W.fnOf "ring_between" "ring_between" (defArgs s_ring_between) (defBody s_ring_between) (defScope s_ring_between) .none o157 o158 o159 d163 o160 o161), s164⟩)
    (h167 : PySem.W.codeIn K o160 "ring_between" = true)
    (h168 : PySem.W.keepIn K (.ref f155) = true)
    (h180 : K.lookup f169 = some ⟨o170, d176, .func (PySem.W.fnOf "finest_cut" "finest_cut" (defArgs s_finest_cut) (defBody s_finest_cut) (defScope s_finest_cut) .none o171 o172 o173 d177 o174 o175), s178⟩)
    (h181 : PySem.W.codeIn K o174 "finest_cut" = true)
    (h182 : PySem.W.keepIn K (.ref f169) = true)
    (h194 : K.lookup f183 = some ⟨o184, d190, .func (PySem.W.fnOf "_law_told" "_law_told" (defArgs s__law_told) (defBody s__law_told) (defScope s__law_told) .none o185 o186 o187 d191 o188 o189), s192⟩)
    (h195 : PySem.W.codeIn K o188 "_law_told" = true)
    (h196 : PySem.W.keepIn K (.ref f183) = true)
    (h208 : K.lookup f197 = some ⟨o198, d204, .func (PySem.W.fnOf "_law_cuts" "_law_cuts" (defArgs s__law_cuts) (defBody s__law_cuts) (defScope s__law_cuts) .none o199 o200 o201 d205 o202 o203), s206⟩)
    (h209 : PySem.W.codeIn K o202 "_law_cuts" = true)
    (h210 : PySem.W.keepIn K (.ref f197) = true)
    (h222 : K.lookup f211 = some ⟨o212, d218, .func (PySem.W.fnOf "_law_odd_texts" "_law_odd_texts" (defArgs s__law_odd_texts) (defBody s__law_odd_texts) (defScope s__law_odd_texts) .none o213 o214 o215 d219 o216 o217), s220⟩)
    (h223 : PySem.W.codeIn K o216 "_law_odd_texts" = true)
    (h224 : PySem.W.keepIn K (.ref f211) = true)
    (h236 : K.lookup f225 = some ⟨o226, d232, .func (PySem.W.fnOf "is_places" "is_places" (defArgs s_is_places) (defBody s_is_places) (defScope s_is_places) .none o227 o228 o229 d233 o230 o231), s234⟩)
    (h237 : PySem.W.codeIn K o230 "is_places" = true)
    (h238 : PySem.W.keepIn K (.ref f225) = true)
    (h250 : K.lookup f239 = some ⟨o240, d246, .func (PySem.W.fnOf "is_cut" "is_cut" (defArgs s_is_cut) (defBody s_is_cut) (defScope s_is_cut) .none o241 o242 o243 d247 o244 o245), s248⟩)
    (h251 : PySem.W.codeIn K o244 "is_cut" = true)
    (h252 : PySem.W.keepIn K (.ref f239) = true)
    (h264 : K.lookup f253 = some ⟨o254, d260, .func (PySem.W.fnOf "check_cut" "check_cut" (defArgs s_check_cut) (defBody s_check_cut) (defScope s_check_cut) .none o255 o256 o257 d261 o258 o259), s262⟩)
    (h265 : PySem.W.codeIn K o258 "check_cut" = true)
    (h266 : PySem.W.keepIn K (.ref f253) = true)
    (h278 : K.lookup f267 = some ⟨o268, d274, .func (PySem.W.fnOf "piece_of" "piece_of" (defArgs s_piece_of) (defBody s_piece_of) (defScope s_piece_of) .none o269 o270 o271 d275 o272 o273), s276⟩)
    (h279 : PySem.W.codeIn K o272 "piece_of" = true)
    (h280 : PySem.W.keepIn K (.ref f267) = true)
    (h292 : K.lookup f281 = some ⟨o282, d288, .func (PySem.W.fnOf "first_ring" "first_ring" (defArgs s_first_ring) (defBody s_first_ring) (defScope s_first_ring) .none o283 o284 o285 d289 o286 o287), s290⟩)
    (h293 : PySem.W.codeIn K o286 "first_ring" = true)
    (h294 : PySem.W.keepIn K (.ref f281) = true)
    (h306 : K.lookup f295 = some ⟨o296, d302, .func (PySem.W.fnOf "cut_ring" "cut_ring" (defArgs s_cut_ring) (defBody s_cut_ring) (defScope s_cut_ring) .none o297 o298 o299 d303 o300 o301), s304⟩)
    (h307 : PySem.W.codeIn K o300 "cut_ring" = true)
    (h308 : PySem.W.keepIn K (.ref f295) = true)
    (h320 : K.lookup f309 = some ⟨o310, d316, .func (PySem.W.fnOf "law" "law" (defArgs s_law) (defBody s_law) (defScope s_law) .none o311 o312 o313 d317 o314 o315), s318⟩)
    (h321 : PySem.W.codeIn K o314 "law" = true)
    (h322 : PySem.W.keepIn K (.ref f309) = true)
    (h345 : PySem.W.excIn K f343 [.type "ValueError", .type "Exception", .type "BaseException", .type "object"] "ValueError.__new__" = true)
    (h346 : PySem.W.keepIn K (.ref f343) = true)
    (h347 : PySem.W.subIn K (.ref f343) (.type "BaseException") = some true)
    (h348 : PySem.W.typeIn K (.ref f343) = some (.type "type"))
    (h349 : PySem.W.subIn K (.ref f343) (.type "BaseException") = some true)
    (h350 : PySem.W.isClsIn K f343 = true)
    (h351 : PySem.W.typeIn K (.ref f343) = some (.type "type"))
    (h352 : PySem.W.subIn K (.ref f343) (.ref f343) = some true)
    (HL : LawOk f_law) : ∃ fd : FuncData, (∀ (s : Shared) (v : Value), BindsTo s fd ⟨[v], []⟩ [("script", v)]) ∧ ∀ base : Heap, K.In base → base.Ns mainGlobals mg → FnOk l.prog w K mg base (L2.CX l.prog w) 9 fa fd ["script"] (spLawG K) := by
  have e := hfa.symm.trans (PySem.W.mg_of X G h319)
  cases e
  have T : Txt ⟨K, fun i =>  none, fun i => if i = 1 then some f343 else none⟩ w mg := by
    refine ⟨?_, ?_, ?_, ?_, ?_, ?_, ?_, ?_, ?_, ?_, ?_, ?_, ?_, ?_, ?_, ?_, ?_, ?_, ?_, ?_, ?_, ?_, ?_, ?_, ?_, ?_, ?_, ?_, ?_, ?_, ?_, ?_, ?_, ?_, ?_, ?_, ?_, ?_, ?_, ?_, ?_, ?_⟩
    · exact ⟨_, _, fun_mk (st := s__law_draw) h12 h13 h14, PySem.W.mg_of X G h11, h14, (fun_mk (st := s__law_draw) h12 h13 h14).binds fun _ _ _ _ _ _ us hl => match us, hl with | [_], _ => rfl⟩
    · exact ⟨_, _, fun_mk (st := s__law_take) h26 h27 h28, PySem.W.mg_of X G h25, h28, (fun_mk (st := s__law_take) h26 h27 h28).binds fun _ _ _ _ _ _ us hl => match us, hl with | [_, _], _ => rfl⟩
    · exact ⟨_, _, fun_mk (st := s__law_texts) h40 h41 h42, PySem.W.mg_of X G h39, h42, (fun_mk (st := s__law_texts) h40 h41 h42).binds fun _ _ _ _ _ _ us hl => match us, hl with | [_, _], _ => rfl⟩
    · exact ⟨_, _, fun_mk (st := s_is_whole) h54 h55 h56, PySem.W.mg_of X G h53, h56, (fun_mk (st := s_is_whole) h54 h55 h56).binds fun _ _ _ _ _ _ us hl => match us, hl with | [_], _ => rfl⟩
    · exact ⟨_, _, fun_mk (st := s_is_deed) h68 h69 h70, PySem.W.mg_of X G h67, h70, (fun_mk (st := s_is_deed) h68 h69 h70).binds fun _ _ _ _ _ _ us hl => match us, hl with | [_], _ => rfl⟩
    · exact ⟨_, _, fun_mk (st := s_is_text) h82 h83 h84, PySem.W.mg_of X G h81, h84, (fun_mk (st := s_is_text) h82 h83 h84).binds fun _ _ _ _ _ _ us hl => match us, hl with | [_], _ => rfl⟩
    · exact ⟨_, _, fun_mk (st := s_is_texts) h96 h97 h98, PySem.W.mg_of X G h95, h98, (fun_mk (st := s_is_texts) h96 h97 h98).binds fun _ _ _ _ _ _ us hl => match us, hl with | [_], _ => rfl⟩
    · exact ⟨_, _, fun_mk (st := s_check_texts) h110 h111 h112, PySem.W.mg_of X G h109, h112, (fun_mk (st := s_check_texts) h110 h111 h112).binds fun _ _ _ _ _ _ us hl => match us, hl with | [_], _ => rfl⟩
    · exact ⟨_, _, fun_mk (st := s_do_touch) h124 h125 h126, PySem.W.mg_of X G h123, h126, (fun_mk (st := s_do_touch) h124 h125 h126).binds fun _ _ _ _ _ _ us hl => match us, hl with | [_, _], _ => rfl⟩
    · exact ⟨_, _, fun_mk (st := s_rows_touch) h138 h139 h140, PySem.W.mg_of X G h137, h140, (fun_mk (st := s_rows_touch) h138 h139 h140).binds fun _ _ _ _ _ _ us hl => match us, hl with | [_, _], _ => rfl⟩
    · exact ⟨_, _, fun_mk (st := s_joined_to) h152 h153 h154, PySem.W.mg_of X G h151, h154, (fun_mk (st := s_joined_to) h152 h153 h154).binds fun _ _ _ _ _ _ us hl => match us, hl with | [_, _, _], _ => rfl⟩
    · exact ⟨_, _, fun_mk (st := s_ring_between) h166 h167 h168, PySem.W.mg_of X G h165, h168, (fun_mk (st := s_ring_between) h166 h167 h168).binds fun _ _ _ _ _ _ us hl => match us, hl with | [_, _, _, _], _ => rfl⟩
    · exact ⟨_, _, fun_mk (st := s_finest_cut) h180 h181 h182, PySem.W.mg_of X G h179, h182, (fun_mk (st := s_finest_cut) h180 h181 h182).binds fun _ _ _ _ _ _ us hl => match us, hl with | [_], _ => rfl⟩
    · exact ⟨_, _, fun_mk (st := s__law_told) h194 h195 h196, PySem.W.mg_of X G h193, h196, (fun_mk (st := s__law_told) h194 h195 h196).binds fun _ _ _ _ _ _ us hl => match us, hl with | [_], _ => rfl⟩
    · exact ⟨_, _, fun_mk (st := s__law_cuts) h208 h209 h210, PySem.W.mg_of X G h207, h210, (fun_mk (st := s__law_cuts) h208 h209 h210).binds fun _ _ _ _ _ _ us hl => match us, hl with | [_], _ => rfl⟩
    · exact ⟨_, _, fun_mk (st := s__law_odd_texts) h222 h223 h224, PySem.W.mg_of X G h221, h224, (fun_mk (st := s__law_odd_texts) h222 h223 h224).binds fun _ _ _ _ _ _ us hl => match us, hl with | [_, _], _ => rfl⟩
    · exact ⟨_, _, fun_mk (st := s_is_places) h236 h237 h238, PySem.W.mg_of X G h235, h238, (fun_mk (st := s_is_places) h236 h237 h238).binds fun _ _ _ _ _ _ us hl => match us, hl with | [_, _], _ => rfl⟩
    · exact ⟨_, _, fun_mk (st := s_is_cut) h250 h251 h252, PySem.W.mg_of X G h249, h252, (fun_mk (st := s_is_cut) h250 h251 h252).binds fun _ _ _ _ _ _ us hl => match us, hl with | [_, _], _ => rfl⟩
    · exact ⟨_, _, fun_mk (st := s_check_cut) h264 h265 h266, PySem.W.mg_of X G h263, h266, (fun_mk (st := s_check_cut) h264 h265 h266).binds fun _ _ _ _ _ _ us hl => match us, hl with | [_, _], _ => rfl⟩
    · exact ⟨_, _, fun_mk (st := s_piece_of) h278 h279 h280, PySem.W.mg_of X G h277, h280, (fun_mk (st := s_piece_of) h278 h279 h280).binds fun _ _ _ _ _ _ us hl => match us, hl with | [_, _], _ => rfl⟩
    · exact ⟨_, _, fun_mk (st := s_first_ring) h292 h293 h294, PySem.W.mg_of X G h291, h294, (fun_mk (st := s_first_ring) h292 h293 h294).binds fun _ _ _ _ _ _ us hl => match us, hl with | [_, _], _ => rfl⟩
    · exact ⟨_, _, fun_mk (st := s_cut_ring) h306 h307 h308, PySem.W.mg_of X G h305, h308, (fun_mk (st := s_cut_ring) h306 h307 h308).binds fun _ _ _ _ _ _ us hl => match us, hl with | [_, _], _ => rfl⟩
    · exact ⟨_, _, fun_mk (st := s_law) h320 h321 h322, PySem.W.mg_of X G h319, h322, (fun_mk (st := s_law) h320 h321 h322).binds fun _ _ _ _ _ _ us hl => match us, hl with | [_], _ => rfl⟩
    · exact PySem.W.mg_none_of X G h323
    · exact PySem.W.mg_none_of X G h324
    · exact PySem.W.mg_none_of X G h325
    · exact PySem.W.mg_none_of X G h326
    · exact PySem.W.mg_none_of X G h327
    · exact PySem.W.mg_none_of X G h328
    · exact PySem.W.mg_none_of X G h329
    · exact PySem.W.mg_none_of X G h330
    · exact PySem.W.mg_none_of X G h331
    · exact PySem.W.mg_none_of X G h332
    · exact PySem.W.mg_none_of X G h333
    · exact PySem.W.mg_none_of X G h334
    · exact PySem.W.mg_none_of X G h335
    · exact PySem.W.mg_none_of X G h336
    · exact ⟨_, V.int 5, PySem.W.mg_of X G h338, ⟨_, rfl⟩, fun _ => rfl⟩
    · exact ⟨_, V.int 5, PySem.W.mg_of X G h340, ⟨_, rfl⟩, fun _ => rfl⟩
    · exact ⟨_, V.int 4, PySem.W.mg_of X G h342, ⟨_, rfl⟩, fun _ => rfl⟩
    · exact ⟨_, rfl, PySem.W.mg_of X G h344, h345, h346, h347, h348⟩
    · exact ⟨_, PySem.W.mg_of X G h344, fun i C b hc hb => by
      simp only [Ct.ca] at hc
      split at hc
      · rename_i e; subst e; cases hc; cases hb; exact (exm_by h349 h350 h351 h352)
      cases hc⟩
  refine ⟨PySem.W.fnOf "law" "law" (defArgs s_law) (defBody s_law) (defScope s_law) .none o311 o312 o313 d317 o314 o315, fun s v => .of_eq rfl, fun base _ _ => ?_⟩
  exact law_fn HL (fn_law (base := base) T (fun_mk (st := s_law) h320 h321 h322))
end Y
open PySem PySem.W PyProof.Rows
set_option maxRecDepth 100000 in
set_option maxHeartbeats 0 in
theorem PySem.Challenge.cw_schedkinds_k67_whole_finest_cuts_holds : PySem.Challenge.rw_schedkinds_k67_whole_finest_cuts.Holds := by
  w_on; o_law; k_head; (case hw => w_witness2)
  k_fill
  refine G.walkG (l := PySem.Challenge.rw_schedkinds_k67_whole_finest_cuts) (k := 9) rfl rfl ⟨rfl, by decide, by decide⟩ (fun w h Y => PySem.W.kIn_of Y) ?F
  case F =>
    intro w mg fa h KX G hmg
    refine' Y.all_mk KX G hmg ?h11 ?h25 ?h39 ?h53 ?h67 ?h81 ?h95 ?h109 ?h123 ?h137 ?h151 ?h165 ?h179 ?h193 ?h207 ?h221 ?h235 ?h249 ?h263 ?h277 ?h291 ?h305 ?h319 ?h323 ?h324 ?h325 ?h326 ?h327 ?h328 ?h329 ?h330 ?h331 ?h332 ?h333 ?h334 ?h335 ?h336 ?h338 ?h340 ?h342 ?h344 ?h12 ?h13 ?h14 ?h26 ?h27 ?h28 ?h40 ?h41 ?h42 ?h54 ?h55 ?h56 ?h68 ?h69 ?h70 ?h82 ?h83 ?h84 ?h96 ?h97 ?h98 ?h110 ?h111 ?h112 ?h124 ?h125 ?h126 ?h138 ?h139 ?h140 ?h152 ?h153 ?h154 ?h166 ?h167 ?h168 ?h180 ?h181 ?h182 ?h194 ?h195 ?h196 ?h208 ?h209 ?h210 ?h222 ?h223 ?h224 ?h236 ?h237 ?h238 ?h250 ?h251 ?h252 ?h264 ?h265 ?h266 ?h278 ?h279 ?h280 ?h292 ?h293 ?h294 ?h306 ?h307 ?h308 ?h320 ?h321 ?h322 ?h345 ?h346 ?h347 ?h348 ?h349 ?h350 ?h351 ?h352 Y.law_ok
    (case h11 => k_is)
    (case h25 => k_is)
    (case h39 => k_is)
    (case h53 => k_is)
    (case h67 => k_is)
    (case h81 => k_is)
    (case h95 => k_is)
    (case h109 => k_is)
    (case h123 => k_is)
    (case h137 => k_is)
    (case h151 => k_is)
    (case h165 => k_is)
    (case h179 => k_is)
    (case h193 => k_is)
    (case h207 => k_is)
    (case h221 => k_is)
    (case h235 => k_is)
    (case h249 => k_is)
    (case h263 => k_is)
    (case h277 => k_is)
    (case h291 => k_is)
    (case h305 => k_is)
    (case h319 => k_is)
    (case h323 => k_is)
    (case h324 => k_is)
    (case h325 => k_is)
    (case h326 => k_is)
    (case h327 => k_is)
    (case h328 => k_is)
    (case h329 => k_is)
    (case h330 => k_is)
    (case h331 => k_is)
    (case h332 => k_is)
    (case h333 => k_is)
    (case h334 => k_is)
    (case h335 => k_is)
    (case h336 => k_is)
    (case h338 => k_is)
    (case h340 => k_is)
    (case h342 => k_is)
    (case h344 => k_is)
    (case h12 => k_is)
    (case h13 => k_is)
    (case h14 => k_is)
    (case h26 => k_is)
    (case h27 => k_is)
    (case h28 => k_is)
    (case h40 => k_is)
    (case h41 => k_is)
    (case h42 => k_is)
    (case h54 => k_is)
    (case h55 => k_is)
    (case h56 => k_is)
    (case h68 => k_is)
    (case h69 => k_is)
    (case h70 => k_is)
    (case h82 => k_is)
    (case h83 => k_is)
    (case h84 => k_is)
    (case h96 => k_is)
    (case h97 => k_is)
    (case h98 => k_is)
    (case h110 => k_is)
    (case h111 => k_is)
    (case h112 => k_is)
    (case h124 => k_is)
    (case h125 => k_is)
    (case h126 => k_is)
    (case h138 => k_is)
    (case h139 => k_is)
    (case h140 => k_is)
    (case h152 => k_is)
    (case h153 => k_is)
    (case h154 => k_is)
    (case h166 => k_is)
    (case h167 => k_is)
    (case h168 => k_is)
    (case h180 => k_is)
    (case h181 => k_is)
    (case h182 => k_is)
    (case h194 => k_is)
    (case h195 => k_is)
    (case h196 => k_is)
    (case h208 => k_is)
    (case h209 => k_is)
    (case h210 => k_is)
    (case h222 => k_is)
    (case h223 => k_is)
    (case h224 => k_is)
    (case h236 => k_is)
    (case h237 => k_is)
    (case h238 => k_is)
    (case h250 => k_is)
    (case h251 => k_is)
    (case h252 => k_is)
    (case h264 => k_is)
    (case h265 => k_is)
    (case h266 => k_is)
    (case h278 => k_is)
    (case h279 => k_is)
    (case h280 => k_is)
    (case h292 => k_is)
    (case h293 => k_is)
    (case h294 => k_is)
    (case h306 => k_is)
    (case h307 => k_is)
    (case h308 => k_is)
    (case h320 => k_is)
    (case h321 => k_is)
    (case h322 => k_is)
    (case h345 => k_exc)
    (case h346 => k_is)
    (case h347 => k_is)
    (case h348 => k_is)
    (case h349 => k_is)
    (case h350 => k_is)
    (case h351 => k_is)
    (case h352 => k_is)

